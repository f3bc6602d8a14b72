import PyProof.Rows.All
import Wide.All
import OpenK.AllK
import Wide.FinOn
import PySem.Challenge.RW_nt0424_01
set_option Elab.async false
set_option maxRecDepth 100000
set_option maxHeartbeats 8000000
set_option linter.unusedVariables false
section
open PySem PySem.W PySem.Spec PySem.Calls PyProof.Rows
namespace Mine

/-! abstract values, objects, stores -/
inductive PV where
  | none
  | bool (b : Bool)
  | int (i : Int)
  | str (x : Str)
  | ref (i : Nat)
  | raw (v : Value)
  | scr

inductive AObj where
  | list (xs : List PV)
  | tup (xs : List PV)
  | inst (C : Addr) (d : Nat)
  | ns (fs : List (Str × PV))
  | tab (es : List (Int × Int))
  | rng (a b : Int)
  | cell (r : Option PV)
  | junk

structure G where
  prog : Program
  w : World
  K : Frag
  ns : List Int

/-- a frame's text: a def (its cells: names with places in the store), or a comprehension within one -/
structure FD where
  cn : Str
  cs : Scope
  a : Addr
  ccd : Value
  cx : List (Str × Nat)
  comp : Option (Scope × List (Str × Nat))

structure Cfg where
  p : Program
  loose : List Str
  mean : ExcName → Option Value
  mg : Str → Option Value
  mb : Str → Option Value
  dp : Nat
  un : Nat
  gd : Option (List Code)
  outer : List Env
  A₀ : Around
  base : Heap
  h₀ : Heap
  L : Addr
  rest : List (Addr × Obj)
  lS : Addr
  cl : List (Str × Addr)
  C : Addr
  ccl : List (Str × Addr)

abbrev Cfg.fenv (c : Cfg) (fd : FD) : Env := envX fd.cn fd.cs c.L fd.a fd.ccd c.cl
abbrev envAt (c : Cfg) (fd : FD) : Option (Scope × List (Str × Nat)) → Env
  | .none => c.fenv fd
  | .some (sc, _) => compEnvC sc c.ccl c.C (c.fenv fd)
abbrev Cfg.env (c : Cfg) (fd : FD) : Env := envAt c fd fd.comp
abbrev Cfg.ar (c : Cfg) (fd : FD) : Around := ktrTop c.dp c.un c.gd fd.cn fd.cs c.L fd.a fd.ccd c.cl c.outer
/-- the scope whose names are read -/
abbrev scAt (fd : FD) : Option (Scope × List (Str × Nat)) → Scope
  | .none => fd.cs
  | .some (sc, _) => relabel sc (envX fd.cn fd.cs 0 fd.a fd.ccd [])
abbrev FD.sc (fd : FD) : Scope := scAt fd fd.comp
abbrev ixAt (fd : FD) : Option (Scope × List (Str × Nat)) → List (Str × Nat)
  | .none => fd.cx
  | .some (_, k) => k
abbrev FD.ix (fd : FD) : List (Str × Nat) := ixAt fd fd.comp
theorem env_sc (c : Cfg) (fd : FD) : (c.env fd).scope = fd.sc := by
  show (envAt c fd fd.comp).scope = scAt fd fd.comp
  cases fd.comp <;> rfl
theorem env_gl (c : Cfg) (fd : FD) : (c.env fd).globals = mainGlobals := by
  show (envAt c fd fd.comp).globals = _
  cases fd.comp <;> rfl
theorem env_bl (c : Cfg) (fd : FD) : (c.env fd).builtins = builtinsNs := by
  show (envAt c fd fd.comp).builtins = _
  cases fd.comp <;> rfl

def Is (lS : Addr) (α : List Addr) : PV → Value → Prop
  | .none, v => v = .none
  | .bool b, v => v = .bool b
  | .int i, v => ∃ t, v = .int i t
  | .str x, v => ∃ t, v = .str x t
  | .ref i, v => ∃ a, α[i]? = some a ∧ v = .ref a
  | .raw u, v => v = u
  | .scr, v => v = .ref lS

theorem pre_get {α α' : List Addr} (h : α <+: α') {i : Nat} {a : Addr} (e : α[i]? = some a) : α'[i]? = some a := by
  obtain ⟨β, rfl⟩ := h
  obtain ⟨hl, _⟩ := List.getElem?_eq_some_iff.mp e
  rw [List.getElem?_append_left hl]; exact e
theorem Is.ext {lS : Addr} {α α' : List Addr} {r : PV} {v : Value} (h : Is lS α r v) (x : α <+: α') : Is lS α' r v := by
  cases r <;> first | exact h | (obtain ⟨a, e, rfl⟩ := h; exact ⟨a, pre_get x e, rfl⟩)

inductive Iss (lS : Addr) (α : List Addr) : List PV → List Value → Prop
  | nil : Iss lS α [] []
  | cons {r v rs vs} : Is lS α r v → Iss lS α rs vs → Iss lS α (r :: rs) (v :: vs)
section
variable {lS : Addr} {α α' : List Addr} {rs rs' : List PV} {vs vs' : List Value}
theorem Iss.ext (h : Iss lS α rs vs) (x : α <+: α') : Iss lS α' rs vs := by
  induction h with
  | nil => exact .nil
  | cons a _ ih => exact .cons (a.ext x) ih
theorem Iss.len (h : Iss lS α rs vs) : vs.length = rs.length := by
  induction h with
  | nil => rfl
  | cons _ _ ih => simp [ih]
theorem Iss.get (h : Iss lS α rs vs) : ∀ {i : Nat} {r : PV}, rs[i]? = some r → ∃ v, vs[i]? = some v ∧ Is lS α r v := by
  induction h with
  | nil => intro i r e; simp at e
  | cons a _ ih =>
    intro i r e
    cases i with
    | zero => simp at e; subst e; exact ⟨_, rfl, a⟩
    | succ i => exact ih (by simpa using e)
theorem Iss.append (h : Iss lS α rs vs) (h' : Iss lS α rs' vs') : Iss lS α (rs ++ rs') (vs ++ vs') := by
  induction h with
  | nil => exact h'
  | cons a _ ih => exact .cons a ih
theorem Iss.one {r : PV} {v : Value} (h : Is lS α r v) : Iss lS α [r] [v] := .cons h .nil
theorem Iss.take (h : Iss lS α rs vs) : ∀ n, Iss lS α (rs.take n) (vs.take n) := by
  induction h with
  | nil => intro n; simp; exact .nil
  | cons a _ ih =>
    intro n
    cases n with
    | zero => exact .nil
    | succ n => exact .cons a (ih n)
end

inductive Fields (lS : Addr) (α : List Addr) : List (Str × PV) → List DictEntry → Prop
  | nil : Fields lS α [] []
  | cons {x r e fs es} : (∃ t, e.key = .str x t) → Is lS α r e.val → Fields lS α fs es → Fields lS α ((x, r) :: fs) (e :: es)
theorem Fields.ext {lS : Addr} {α α' : List Addr} {fs : List (Str × PV)} {es : List DictEntry} (h : Fields lS α fs es) (x : α <+: α') : Fields lS α' fs es := by
  induction h with
  | nil => exact .nil
  | cons k a _ ih => exact .cons k (a.ext x) ih
theorem Fields.get {lS : Addr} {α : List Addr} {fs : List (Str × PV)} {es : List DictEntry} (h : Fields lS α fs es) {x : Str} {r : PV} (e : fs.lookup x = some r) :
    ∃ v, getL x es = some (some v) ∧ Is lS α r v := by
  induction h with
  | nil => cases e
  | @cons y q d fs es k a _ ih =>
    obtain ⟨t, k⟩ := k
    rw [List.lookup_cons] at e
    by_cases hy : x = y
    · subst hy
      simp at e; subst e
      refine ⟨d.val, ?_, a⟩
      unfold getL
      have : d.key.isStr x = true := by rw [k]; simp [Value.isStr]
      simp [this]
    · have hb : (x == y) = false := by simp [hy]
      rw [hb] at e
      obtain ⟨v, g, i⟩ := ih e
      refine ⟨v, ?_, i⟩
      unfold getL at g ⊢
      have : d.key.isStr x = false := by rw [k]; simp [Value.isStr]; exact fun q => hy q.symm
      simp only [List.find?_cons, this]
      split at g
      · rename_i e' he'; rw [he']; exact g
      · rename_i he'
        split at g <;> cases g
theorem Fields.miss {lS : Addr} {α : List Addr} {fs : List (Str × PV)} {es : List DictEntry} (h : Fields lS α fs es) {x : Str} (e : fs.lookup x = Option.none) :
    getL x es = some Option.none := by
  have key : es.find? (·.key.isStr x) = Option.none ∧ es.any (·.refKey) = false := by
    induction h with
    | nil => exact ⟨rfl, rfl⟩
    | @cons y q d fs es k a _ ih =>
      obtain ⟨t, k⟩ := k
      rw [List.lookup_cons] at e
      by_cases hy : x = y
      · subst hy; simp at e
      · have hb : (x == y) = false := by simp [hy]
        rw [hb] at e
        obtain ⟨g, i⟩ := ih e
        have : d.key.isStr x = false := by rw [k]; simp [Value.isStr]; exact fun q => hy q.symm
        refine ⟨by simp only [List.find?_cons, this]; exact g, ?_⟩
        rw [List.any_cons, i, Bool.or_false]
        unfold DictEntry.refKey; rw [k]
  unfold getL
  rw [key.1]
  simp [key.2]

/-- the concrete object that an abstract one is -/
def OR (g : G) (lS : Addr) (α : List Addr) (a : Addr) (o : Obj) : AObj → Prop
  | .list xs => ∃ vs n, o = listOf (List.toArray vs) n ∧ Iss lS α xs vs
  | .tup xs => ∃ vs n, o = { cls := .type "tuple", data := .seq (List.toArray vs) n } ∧ Iss lS α xs vs
  | .inst C d => ∃ dx, α[d]? = some dx ∧ o = instObj C dx
  | .ns fs => ∃ es n, o = dictOf es n ∧ Fields lS α fs es ∧ es.length = fs.length
  | .tab es => (a == sysModules) = false ∧ ∃ kvs D, o.IsDictOf (intKind g.prog g.w) kvs ∧ PyProof.V.FlatPairs PyData.int kvs D ∧ D = es.map fun p => (PyData.int p.1, PyData.int p.2)
  | .rng lo hi => ∃ t u v, o = { cls := .type "range", data := .fields #[.int lo t, .int hi u, .int 1 v] }
  | .cell .none => o.data = .cell .none
  | .cell (.some r) => ∃ v, o.data = .cell (.some v) ∧ Is lS α r v
  | .junk => True
theorem OR.ext {g : G} {lS ad : Addr} {α α' : List Addr} {o : Obj} {ao : AObj} (h : OR g lS α ad o ao) (x : α <+: α') : OR g lS α' ad o ao := by
  cases ao with
  | list xs => obtain ⟨vs, n, e, i⟩ := h; exact ⟨vs, n, e, i.ext x⟩
  | tup xs => obtain ⟨vs, n, e, i⟩ := h; exact ⟨vs, n, e, i.ext x⟩
  | inst C d => obtain ⟨dx, e, q⟩ := h; exact ⟨dx, pre_get x e, q⟩
  | ns fs => obtain ⟨es, n, e, i, l⟩ := h; exact ⟨es, n, e, i.ext x, l⟩
  | tab es => exact h
  | rng lo hi => exact h
  | cell r =>
    cases r with
    | none => exact h
    | some r => obtain ⟨v, e, i⟩ := h; exact ⟨v, e, i.ext x⟩
  | junk => exact h

structure Sto (g : G) (c : Cfg) (h : Heap) (α : List Addr) (σ : List AObj) : Prop where
  len : α.length = σ.length
  at_ : ∀ (i : Nat) (ao : AObj), σ[i]? = some ao → ∃ (a : Addr) (o : Obj), α[i]? = some a ∧ OR g c.lS α a o ao ∧ h.get? a = some o ∧ a ≠ c.L ∧ c.h₀.get? a = none
  nd : α.Nodup
  rest : News c.h₀ c.L h c.rest
  off : ∀ p ∈ c.rest, p.1 ∉ α

structure Amb (g : G) (lv : Nat) (c : Cfg) : Prop where
  B : Below c.A₀ c.base c.outer c.h₀
  X : g.K.In c.h₀
  T : Top c.p c.loose c.mean c.mg c.mb c.h₀
  scr : ∃ vs, c.base.IsList c.lS (List.toArray vs) ∧ IntsAre vs g.ns
  fit : g.ns.length ≤ 63
  hd : c.dp + lv < recursionLimit
  hu : c.un + 8 * lv < cLine
theorem Amb.units {g : G} {lv : Nat} {c : Cfg} (A : Amb g lv c) : c.un < cLine := by have := A.hu; omega
theorem Amb.room {g : G} {lv : Nat} {c : Cfg} (A : Amb g lv c) : c.dp < recursionLimit := by have := A.hd; omega

abbrev Loc := List (Str × PV)
/-- cells: their addresses -/
noncomputable def CR (α : List Addr) : List (Str × Addr) → List (Str × Nat) → Prop
  | [], [] => True
  | (x, a) :: l, (y, i) :: k => x = y ∧ α[i]? = some a ∧ CR α l k
  | _, _ => False
theorem CR.ext {α α' : List Addr} : ∀ {l : List (Str × Addr)} {k : List (Str × Nat)}, CR α l k → α <+: α' → CR α' l k
  | [], [], _, _ => trivial
  | (_, _) :: _, (_, _) :: _, ⟨e, q, r⟩, x => ⟨e, pre_get x q, r.ext x⟩
theorem CR.get {α : List Addr} {x : Str} {i : Nat} : ∀ {l : List (Str × Addr)} {k : List (Str × Nat)}, CR α l k → k.lookup x = some i → ∃ a, l.lookup x = some a ∧ α[i]? = some a
  | [], [], _, h => by cases h
  | (y, a) :: l, (_, j) :: k, ⟨e, q, r⟩, h => by
    subst e
    rw [List.lookup_cons] at h ⊢
    cases hb : x == y with
    | true => rw [hb] at h; cases h; exact ⟨a, rfl, q⟩
    | false => rw [hb] at h; exact r.get h
/-- what the names hold -/
structure MR (c : Cfg) (fd : FD) (α : List Addr) (m : Str → Option Value) (μ : Loc) : Prop where
  loc : ∃ nm, (match fd.comp with | .none => nm = m | .some _ => ∃ oC, (c.C, oC) ∈ c.rest ∧ LCg.NsObj oC nm) ∧ ∀ x r, μ.lookup x = some r → ∃ v, nm x = some v ∧ Is c.lS α r v
  cel : CR α c.cl fd.cx
  cmp : ∀ sc k, fd.comp = some (sc, k) → CR α c.ccl k
theorem MR.ext {c : Cfg} {fd : FD} {α α' : List Addr} {m : Str → Option Value} {μ : Loc} (h : MR c fd α m μ) (x : α <+: α') : MR c fd α' m μ :=
  ⟨let ⟨nm, q, k⟩ := h.loc; ⟨nm, q, fun y r e => let ⟨v, a, b⟩ := k y r e; ⟨v, a, b.ext x⟩⟩, h.cel.ext x, fun sc k e => (h.cmp sc k e).ext x⟩
theorem MR.put {c : Cfg} {fd : FD} {α : List Addr} {m : Str → Option Value} {μ : Loc} (h : MR c fd α m μ) (hf : fd.comp = Option.none) {x : Str} {r : PV} {v : Value} (i : Is c.lS α r v) :
    MR c fd α (fun y => if y = x then some v else m y) ((x, r) :: μ) := by
  refine ⟨⟨_, by rw [hf], fun y q e => ?_⟩, h.cel, h.cmp⟩
  obtain ⟨nm, hn, k⟩ := h.loc
  rw [hf] at hn; cases hn
  rw [List.lookup_cons] at e
  by_cases hy : y = x
  · subst hy; simp at e; subst e; exact ⟨v, by simp, i⟩
  · have hb : (y == x) = false := by simp [hy]
    rw [hb] at e
    obtain ⟨u, a, b⟩ := k y q e
    exact ⟨u, by simp [hy, a], b⟩
/-- fewer names -/
def Cov (μ μ' : Loc) : Prop := ∀ x r, μ'.lookup x = some r → μ.lookup x = some r
theorem MR.cov {c : Cfg} {fd : FD} {α : List Addr} {m : Str → Option Value} {μ μ' : Loc} (h : MR c fd α m μ) (k : Cov μ μ') : MR c fd α m μ' :=
  ⟨let ⟨nm, q, l⟩ := h.loc; ⟨nm, q, fun x r e => l x r (k x r e)⟩, h.cel, h.cmp⟩
theorem MR.cells {c : Cfg} {fd : FD} {α : List Addr} {m : Str → Option Value} {μ : Loc} (h : MR c fd α m μ) {x : Str} {i : Nat} (e : fd.ix.lookup x = some i) : ∃ a, (c.env fd).cells.lookup x = some a ∧ α[i]? = some a := by
  have e' : (ixAt fd fd.comp).lookup x = some i := e
  show ∃ a, (envAt c fd fd.comp).cells.lookup x = some a ∧ _
  have hc := h.cmp
  cases q : fd.comp with
  | none => rw [q] at e'; exact h.cel.get e'
  | some p => obtain ⟨sc, k⟩ := p; rw [q] at e'; exact (hc sc k q).get e'

/-! the store under changes of the heap -/
section
variable {g : G} {c : Cfg} {h h' : Heap} {α : List Addr} {σ : List AObj} {m : Str → Option Value}
theorem Sto.get (S : Sto g c h α σ) {i : Nat} {ao : AObj} (e : σ[i]? = some ao) : ∃ a o, α[i]? = some a ∧ OR g c.lS α a o ao ∧ h.get? a = some o ∧ a ≠ c.L ∧ c.h₀.get? a = none := S.at_ i ao e
theorem Sto.keeps (S : Sto g c h α σ) (k : ∀ b o, h.get? b = some o → h'.get? b = some o) : Sto g c h' α σ :=
  ⟨S.len, fun i ao e => let ⟨a, o, x, y, z, r⟩ := S.at_ i ao e; ⟨a, o, x, y, k _ _ z, r⟩, S.nd, fun p hp => ⟨k _ _ (S.rest p hp).1, (S.rest p hp).2⟩, S.off⟩
theorem Sto.local_ (S : Sto g c h α σ) (hs : Heap.SameBut c.L h h') : Sto g c h' α σ :=
  ⟨S.len, fun i ao e => let ⟨a, o, x, y, z, n, r⟩ := S.at_ i ao e; ⟨a, o, x, y, (hs.2 a n).trans z, n, r⟩, S.nd, S.rest.set hs, S.off⟩
theorem Sto.mem (S : Sto g c h α σ) {i : Nat} {a : Addr} (e : α[i]? = some a) : ∃ ao o, σ[i]? = some ao ∧ OR g c.lS α a o ao ∧ h.get? a = some o ∧ a ≠ c.L ∧ c.h₀.get? a = none := by
  obtain ⟨hl, _⟩ := List.getElem?_eq_some_iff.mp e
  have hl' : i < σ.length := S.len ▸ hl
  obtain ⟨a', o, x, y, z, n, r⟩ := S.at_ i σ[i] (List.getElem?_eq_getElem hl')
  rw [e] at x; cases x
  exact ⟨_, o, List.getElem?_eq_getElem hl', y, z, n, r⟩
/-- a new object behind the others -/
theorem Sto.push_at (S : Sto g c h α σ) (F : Fr c.h₀ c.L h m) {a : Addr} {o : Obj} {ao : AObj} (k : ∀ b o, h.get? b = some o → h'.get? b = some o) (hn : h.objs.size ≤ a) (ho : h'.get? a = some o) (r : OR g c.lS (α ++ [a]) a o ao) :
    Sto g c h' (α ++ [a]) (σ ++ [ao]) := by
  have fresh : ∀ b o, h.get? b = some o → b ≠ a := fun b o e q => by subst q; exact absurd (Heap.lt_size e) (Nat.not_lt.mpr hn)
  have px : α <+: α ++ [a] := List.prefix_append _ _
  obtain ⟨oL, _, _, hL, _⟩ := F.ns
  refine ⟨by simp [S.len], fun i ao' e => ?_, ?_, fun p hp => ⟨k _ _ (S.rest p hp).1, (S.rest p hp).2⟩, fun p hp hm => ?_⟩
  · by_cases hi : i < σ.length
    · rw [List.getElem?_append_left hi] at e
      obtain ⟨b, o', x, y, z, n, q⟩ := S.at_ i ao' e
      exact ⟨b, o', pre_get px x, y.ext px, k _ _ z, n, q⟩
    · rw [List.getElem?_append_right (Nat.le_of_not_lt hi)] at e
      have h0 : i - σ.length = 0 := by
        cases q : i - σ.length with
        | zero => rfl
        | succ n => rw [q] at e; simp at e
      rw [h0] at e; simp at e; subst e
      have hi' : i = α.length := by have := S.len; omega
      subst hi'
      refine ⟨a, o, by simp, r, ho, (fresh _ _ hL).symm, ?_⟩
      cases q : c.h₀.get? a with
      | none => rfl
      | some o' => exact absurd rfl (fresh a o' (F.keep _ _ q))
  · refine List.nodup_append.mpr ⟨S.nd, by simp, fun x hx y hy => ?_⟩
    simp at hy; subst hy
    obtain ⟨i, hi, rfl⟩ := List.getElem_of_mem hx
    obtain ⟨_, o', _, _, z, _⟩ := S.mem (List.getElem?_eq_getElem hi)
    exact fresh _ _ z
  · rcases List.mem_append.mp hm with hm | hm
    · exact S.off p hp hm
    · simp at hm; exact fresh _ _ (S.rest p hp).1 hm
theorem Sto.set_at (S : Sto g c h α σ) {i : Nat} {a : Addr} {o' : Obj} {ao' : AObj} (e : α[i]? = some a) (hs : Heap.SameBut a h h') (ho : h'.get? a = some o') (r : OR g c.lS α a o' ao') : Sto g c h' α (σ.set i ao') := by
  obtain ⟨hl, ea⟩ := List.getElem?_eq_some_iff.mp e
  refine ⟨by simp [S.len], fun j ao q => ?_, S.nd, fun p hp => ⟨(hs.2 p.1 fun z => ?_).trans (S.rest p hp).1, (S.rest p hp).2⟩, S.off⟩
  · by_cases hj : i = j
    · subst hj
      have hl' : i < σ.length := S.len ▸ hl
      rw [List.getElem?_set_self hl'] at q; cases q
      obtain ⟨_, o, _, _, _, n, f⟩ := S.mem e
      exact ⟨a, o', e, r, ho, n, f⟩
    · rw [List.getElem?_set_ne hj] at q
      obtain ⟨b, o, x, y, z, n, f⟩ := S.at_ j ao q
      refine ⟨b, o, x, y, (hs.2 b fun w => hj ?_).trans z, n, f⟩
      subst w
      obtain ⟨hlj, ej⟩ := List.getElem?_eq_some_iff.mp x
      exact (List.getElem_inj S.nd).mp (ea.trans ej.symm)
  · exact S.off p hp (z ▸ List.mem_of_getElem? e)
theorem Sto.frame_at (S : Sto g c h α σ) (F : Fr c.h₀ c.L h m) {i : Nat} {a : Addr} (e : α[i]? = some a) (hs : Heap.SameBut a h h') : Fr c.h₀ c.L h' m := by
  obtain ⟨_, _, _, _, _, n, f⟩ := S.mem e
  exact F.change hs n f
def led (h : Heap) (α : List Addr) : List (Addr × Obj) := α.map fun a => (a, (h.get? a).getD default)
theorem Sto.news (S : Sto g c h α σ) : News c.h₀ c.L h (led h α ++ c.rest) := by
  intro p hp
  rcases List.mem_append.mp hp with hp | hp
  · obtain ⟨a, ha, rfl⟩ := List.mem_map.mp hp
    obtain ⟨i, hi, rfl⟩ := List.getElem_of_mem ha
    obtain ⟨_, o, _, _, z, n, f⟩ := S.mem (List.getElem?_eq_getElem hi)
    exact ⟨by simp [z], n, f⟩
  · exact S.rest p hp
theorem Sto.renew {h₂ : Heap} {L₂ : Addr} (S : Sto g c h α σ) (N : News h₂ L₂ h (led h α ++ c.rest)) : Sto g { c with h₀ := h₂, L := L₂ } h α σ := by
  refine ⟨S.len, fun i ao e => ?_, S.nd, fun p hp => N p (List.mem_append_right _ hp), S.off⟩
  obtain ⟨a, o, x, y, z, _⟩ := S.at_ i ao e
  have := N (a, (h.get? a).getD default) (List.mem_append_left _ (List.mem_map.mpr ⟨a, List.mem_of_getElem? x, rfl⟩))
  exact ⟨a, o, x, y, z, this.2⟩
end
theorem Is.back {lS : Addr} {α α' : List Addr} {r : PV} {u v : Value} (x : α <+: α') (h : Is lS α' r v) (k : Is lS α r u) : Is lS α r v := by
  cases r <;> first | exact h | (obtain ⟨a, e, rfl⟩ := h; obtain ⟨b, e', rfl⟩ := k; have := pre_get x e'; rw [e] at this; cases this; exact ⟨a, e', rfl⟩)
theorem Iss.back {lS : Addr} {α α' : List Addr} {rs : List PV} (x : α <+: α') : ∀ {us vs : List Value}, Iss lS α' rs vs → Iss lS α rs us → Iss lS α rs vs := by
  induction rs with
  | nil => intro us vs h k; cases h; exact .nil
  | cons r rs ih => intro us vs h k; cases h with | cons a h => cases k with | cons b k => exact .cons (a.back x b) (ih h k)
theorem Fields.back {lS : Addr} {α α' : List Addr} {fs : List (Str × PV)} (x : α <+: α') : ∀ {us vs : List DictEntry}, Fields lS α' fs vs → Fields lS α fs us → Fields lS α fs vs := by
  induction fs with
  | nil => intro us vs h k; cases h; exact .nil
  | cons r rs ih => intro us vs h k; cases h with | cons a i h => cases k with | cons b j k => exact .cons a (i.back x j) (ih h k)
theorem OR.back {g : G} {lS ad : Addr} {α α' : List Addr} {o o' : Obj} {ao : AObj} (x : α <+: α') (h : OR g lS α' ad o ao) {ad' : Addr} (k : OR g lS α ad' o' ao) : OR g lS α ad o ao := by
  cases ao with
  | list xs => obtain ⟨vs, n, e, i⟩ := h; obtain ⟨us, n', e', j⟩ := k; exact ⟨vs, n, e, i.back x j⟩
  | tup xs => obtain ⟨vs, n, e, i⟩ := h; obtain ⟨us, n', e', j⟩ := k; exact ⟨vs, n, e, i.back x j⟩
  | inst C d =>
    obtain ⟨dx, e, q⟩ := h; obtain ⟨dx', e', q'⟩ := k
    have := pre_get x e'; rw [e] at this; cases this
    exact ⟨dx, e', q⟩
  | ns fs => obtain ⟨es, n, e, i, l⟩ := h; obtain ⟨es', n', e', j, l'⟩ := k; exact ⟨es, n, e, i.back x j, l⟩
  | tab es => exact h
  | rng lo hi => exact h
  | cell r =>
    cases r with
    | none => exact h
    | some r => obtain ⟨v, e, i⟩ := h; obtain ⟨u, e', j⟩ := k; exact ⟨v, e, i.back x j⟩
  | junk => exact h
/-- what stands behind may be forgotten -/
theorem Sto.drop {g : G} {c c' : Cfg} {h h' : Heap} {α β : List Addr} {σ τ : List AObj} (S₀ : Sto g c' h' α σ) (el : c'.lS = c.lS) (S : Sto g c h (α ++ β) (σ ++ τ)) : Sto g c h α σ := by
  refine ⟨S₀.len, fun i ao e => ?_, (List.nodup_append.mp S.nd).1, S.rest, fun p hp hm => S.off p hp (List.mem_append_left _ hm)⟩
  obtain ⟨hi, _⟩ := List.getElem?_eq_some_iff.mp e
  obtain ⟨a, o, x, y, z, n⟩ := S.at_ i ao (by rw [List.getElem?_append_left hi]; exact e)
  obtain ⟨a', o', x', y', _⟩ := S₀.at_ i ao e
  rw [List.getElem?_append_left (by have := S₀.len; omega)] at x
  rw [el] at y'
  exact ⟨a, o, x, y.back (List.prefix_append _ _) y', z, n⟩
end Mine
end
section
open PySem PySem.W PySem.Spec PySem.Calls PyProof.Rows
namespace Mine

abbrev Post (g : G) (c : Cfg) (m : Str → Option Value) (α : List Addr) (s : Shared) (r : PV) (σ' : List AObj) (Q : Value → Shared → Prop) : Prop :=
  ∀ v α' h' tk', α <+: α' → Is c.lS α' r v → Fr c.h₀ c.L h' m → Sto g c h' α' σ' → Q v { s with heap := h', toks := tk' }
abbrev PostV (g : G) (c : Cfg) (m : Str → Option Value) (α : List Addr) (s : Shared) (r : PV) (σ' : List AObj) (Q : Value → Shared → Prop) : Prop :=
  ∀ v h' tk', Is c.lS α r v → Fr c.h₀ c.L h' m → Sto g c h' α σ' → Q v { s with heap := h', toks := tk' }

/-- an expression: from locals μ and store σ to a value and a store -/
def EV (g : G) (lv : Nat) (fd : FD) (e : Expr) (μ : Loc) (σ : List AObj) (r : PV) (σ' : List AObj) : Prop :=
  ∀ (c : Cfg) (m : Str → Option Value) (α : List Addr) (s : Shared) (Q E : Value → Shared → Prop),
    Amb g lv c → Fr c.h₀ c.L s.heap m → MR c fd α m μ → Sto g c s.heap α σ → Post g c m α s r σ' Q →
    wpAny (model g.prog g.w) (c.ar fd) (eval e (c.env fd)) Q E s

/-- a test -/
def TR (g : G) (lv : Nat) (fd : FD) (e : Expr) (μ : Loc) (σ : List AObj) (b : Bool) (σ' : List AObj) : Prop :=
  ∀ (c : Cfg) (m : Str → Option Value) (α : List Addr) (s : Shared) (Q : Bool → Shared → Prop) (E : Value → Shared → Prop),
    Amb g lv c → Fr c.h₀ c.L s.heap m → MR c fd α m μ → Sto g c s.heap α σ →
    (∀ α' h' tk', α <+: α' → Fr c.h₀ c.L h' m → Sto g c h' α' σ' → Q b { s with heap := h', toks := tk' }) →
    wpAny (model g.prog g.w) (c.ar fd) (isTrue e (c.env fd) (eval e (c.env fd))) Q E s
/-- a chain of tests by and | or -/
def TB (g : G) (lv : Nat) (fd : FD) (op : BoolOp) (es : List Expr) (μ : Loc) (σ : List AObj) (b : Bool) (σ' : List AObj) : Prop :=
  ∀ (c : Cfg) (m : Str → Option Value) (α : List Addr) (s : Shared) (Q : Bool → Shared → Prop) (E : Value → Shared → Prop) (whole : Sem Value) (pos : Pos),
    Amb g lv c → Fr c.h₀ c.L s.heap m → MR c fd α m μ → Sto g c s.heap α σ →
    (∀ α' h' tk', α <+: α' → Fr c.h₀ c.L h' m → Sto g c h' α' σ' → Q b { s with heap := h', toks := tk' }) →
    wpAny (model g.prog g.w) (c.ar fd) (isTrue (.BoolOp op es pos) (c.env fd) whole) Q E s
/-- the truth of a value -/
def TV (g : G) (σ : List AObj) (r : PV) (b : Bool) : Prop :=
  ∀ (c : Cfg) (fd : FD) (lv : Nat) (m : Str → Option Value) (α : List Addr) (s : Shared) (Q : Bool → Shared → Prop) (E : Value → Shared → Prop) (v : Value),
    Amb g lv c → Fr c.h₀ c.L s.heap m → Sto g c s.heap α σ → Is c.lS α r v → (∀ tk', Q b { s with toks := tk' }) → wpAny (model g.prog g.w) (c.ar fd) (truthy v) Q E s

/-- an operation upon values: it reads the store, the store stays -/
def OP1 (g : G) (σ : List AObj) (t : Value → Sem Value) (r₁ r : PV) : Prop :=
  ∀ (c : Cfg) (lv : Nat) (fd : FD) (m : Str → Option Value) (α : List Addr) (s : Shared) (Q E : Value → Shared → Prop) (v₁ : Value),
    Amb g lv c → Fr c.h₀ c.L s.heap m → Sto g c s.heap α σ → Is c.lS α r₁ v₁ → PostV g c m α s r σ Q →
    wpAny (model g.prog g.w) (c.ar fd) (t v₁) Q E s
def OP2 (g : G) (σ : List AObj) (t : Value → Value → Sem Value) (r₁ r₂ r : PV) : Prop :=
  ∀ (c : Cfg) (lv : Nat) (fd : FD) (m : Str → Option Value) (α : List Addr) (s : Shared) (Q E : Value → Shared → Prop) (v₁ v₂ : Value),
    Amb g lv c → Fr c.h₀ c.L s.heap m → Sto g c s.heap α σ → Is c.lS α r₁ v₁ → Is c.lS α r₂ v₂ → PostV g c m α s r σ Q →
    wpAny (model g.prog g.w) (c.ar fd) (t v₁ v₂) Q E s

/-- a call -/
def CL (g : G) (lv : Nat) (fv : Value) (rs : List PV) (σ : List AObj) (r : PV) (σ' : List AObj) : Prop :=
  ∀ (c : Cfg) (fd : FD) (m : Str → Option Value) (α : List Addr) (s : Shared) (Q E : Value → Shared → Prop) (vs : List Value),
    Amb g lv c → Fr c.h₀ c.L s.heap m → Sto g c s.heap α σ → fd.cs.kind = .function → Iss c.lS α rs vs → Post g c m α s r σ' Q →
    wpAny (model g.prog g.w) (c.ar fd) (call fv vs) Q E s

/-- a row of arguments -/
def AR (g : G) (lv : Nat) (fd : FD) (es : List Expr) (μ : Loc) (σ : List AObj) (rs : List PV) (σ' : List AObj) : Prop :=
  (∀ env, starEach es env = es.map fun e => (false, eval e env)) ∧
  ∀ (c : Cfg) (m : Str → Option Value) (α : List Addr) (s : Shared) (Q : List Value → Shared → Prop) (E : Value → Shared → Prop) (pos : Pos),
    Amb g lv c → Fr c.h₀ c.L s.heap m → MR c fd α m μ → Sto g c s.heap α σ →
    (∀ vs α' h' tk', α <+: α' → Iss c.lS α' rs vs → Fr c.h₀ c.L h' m → Sto g c h' α' σ' → Q vs { s with heap := h', toks := tk' }) →
    wpAny (model g.prog g.w) (c.ar fd) (spliced (backTo pos (starEach es (c.env fd)))) Q E s

/-- a method looked up -/
def GM (g : G) (σ : List AObj) (r : PV) (name : Str) (fv : Value) : Prop :=
  ∀ (c : Cfg) (lv : Nat) (fd : FD) (m : Str → Option Value) (α : List Addr) (s : Shared) (Q : Value × List Value → Shared → Prop) (E : Value → Shared → Prop) (v : Value) (pl : Sem Bool),
    Amb g lv c → Fr c.h₀ c.L s.heap m → Sto g c s.heap α σ → Is c.lS α r v → Q (fv, [v]) s →
    wpAny (model g.prog g.w) (c.ar fd) (getMethod v name pl) Q E s

inductive Out where
  | next
  | cont
  | ret (r : PV)

def OutIs (lS : Addr) (α : List Addr) : Out → Flow → Prop
  | .next, f => f = .next
  | .cont, f => f = .cont
  | .ret r, f => ∃ v, f = .ret v ∧ Is lS α r v
theorem OutIs.ext {lS : Addr} {α α' : List Addr} {o : Out} {f : Flow} (h : OutIs lS α o f) (x : α <+: α') : OutIs lS α' o f := by
  cases o <;> first | exact h | (obtain ⟨v, e, i⟩ := h; exact ⟨v, e, i.ext x⟩)

abbrev PostS (g : G) (c : Cfg) (fd : FD) (α : List Addr) (s : Shared) (o : Out) (μ' : Loc) (σ' : List AObj) (Q : Flow → Shared → Prop) : Prop :=
  ∀ f m' α' h' tk', α <+: α' → OutIs c.lS α' o f → Fr c.h₀ c.L h' m' → MR c fd α' m' μ' → Sto g c h' α' σ' → Q f { s with heap := h', toks := tk' }
/-- statements -/
def EX (g : G) (lv : Nat) (fd : FD) (b : List Stmt) (μ : Loc) (σ : List AObj) (o : Out) (μ' : Loc) (σ' : List AObj) : Prop :=
  ∀ (c : Cfg) (m : Str → Option Value) (α : List Addr) (s : Shared) (Q : Flow → Shared → Prop) (E : Value → Shared → Prop),
    Amb g lv c → Fr c.h₀ c.L s.heap m → MR c fd α m μ → Sto g c s.heap α σ → PostS g c fd α s o μ' σ' Q →
    wpAny (model g.prog g.w) (c.ar fd) (execs b (c.env fd)) Q E s
def ES (g : G) (lv : Nat) (fd : FD) (b : Stmt) (μ : Loc) (σ : List AObj) (o : Out) (μ' : Loc) (σ' : List AObj) : Prop :=
  ∀ (c : Cfg) (m : Str → Option Value) (α : List Addr) (s : Shared) (Q : Flow → Shared → Prop) (E : Value → Shared → Prop),
    Amb g lv c → Fr c.h₀ c.L s.heap m → MR c fd α m μ → Sto g c s.heap α σ → PostS g c fd α s o μ' σ' Q →
    wpAny (model g.prog g.w) (c.ar fd) (exec b (c.env fd)) Q E s

section
variable {g : G} {lv : Nat} {fd : FD} {μ μ' μ₁ : Loc} {σ σ' σ₁ σ₂ σ₃ : List AObj} {r r₀ r₁ r₂ : PV} {rs : List PV} {pos pos' : Pos}

theorem EV.name {x : Str} (e : μ.lookup x = some r) (hl : fd.sc.names.lookup x = some .local) (hk : fd.sc.kind = .function) (hd : (x == ("__debug__" : Str)) = false) : EV g lv fd (.Name x pos) μ σ r σ := by
  intro c m α s Q E A F M S k
  obtain ⟨nm, hn, kk⟩ := M.loc
  obtain ⟨v, hv, i⟩ := kk x r e
  have hs := env_sc c fd
  have ns : s.heap.Ns (c.env fd).locals nm := by
    show s.heap.Ns (envAt c fd fd.comp).locals nm
    cases q : fd.comp with
    | none => rw [q] at hn; cases hn; exact F.ns
    | some p => rw [q] at hn; obtain ⟨oC, hm, ho⟩ := hn; exact ho.ns (S.rest _ hm).1
  exact wpAny_Name (wpAny_loadName_local (by rw [hs]; exact hk) (by show (c.env fd).scope.names.lookup x = _; rw [hs]; exact hl) ns hv (k v α s.heap s.toks (List.prefix_refl _) i F S)) hd
theorem EV.cell {x : Str} {i : Nat} (e : fd.ix.lookup x = some i) (e' : σ[i]? = some (.cell (some r))) (hl : fd.sc.names.lookup x = some .cell) (hk : fd.sc.kind = .function) (hd : (x == ("__debug__" : Str)) = false) : EV g lv fd (.Name x pos) μ σ r σ := by
  intro c m α s Q E A F M S k
  obtain ⟨a, hc, ea⟩ := M.cells e
  obtain ⟨a', o, x', y, z, _⟩ := S.get e'
  rw [ea] at x'; cases x'
  obtain ⟨v, ho, iv⟩ := y
  have hs := env_sc c fd
  exact wpAny_Name (wpAny_loadName_cell (by rw [hs]; exact hk) (by show (c.env fd).scope.names.lookup x = _; rw [hs]; exact hl) hc ⟨o, z, ho⟩ (k v α s.heap s.toks (List.prefix_refl _) iv F S)) hd
theorem glob_ {x : Str} {v : Value} (e : nsIn g.K mainGlobals x = some (some v)) (hl : fd.sc.names.lookup x = some .globalImplicit) (hk : fd.sc.kind = .function) (hd : (x == ("__debug__" : Str)) = false) {c : Cfg} {m : Str → Option Value} {s : Shared} {Q E : Value → Shared → Prop} (A : Amb g lv c) (F : Fr c.h₀ c.L s.heap m) (q : Q v s) :
    wpAny (model g.prog g.w) (c.ar fd) (eval (.Name x pos) (c.env fd)) Q E s := by
  have hs := env_sc c fd
  have T := topRead_of A.T
  exact Name_function_global (by rw [hs]; exact hk) (by show (c.env fd).scope.names.lookup x = _; rw [hs]; exact hl) (loadGlobal_global (by rw [env_gl]; exact T.g.keeps F.keep) (mg_of A.X T.g e) q) hd
theorem EV.glob {x : Str} {v : Value} (e : nsIn g.K mainGlobals x = some (some v)) (hl : fd.sc.names.lookup x = some .globalImplicit) (hk : fd.sc.kind = .function) (hd : (x == ("__debug__" : Str)) = false) : EV g lv fd (.Name x pos) μ σ (.raw v) σ := by
  intro c m α s Q E A F M S k
  exact glob_ e hl hk hd A F (k v α s.heap s.toks (List.prefix_refl _) rfl F S)
theorem EV.globI {x : Str} {n : Int} {t : Tok} (e : nsIn g.K mainGlobals x = some (some (.int n t))) (hl : fd.sc.names.lookup x = some .globalImplicit) (hk : fd.sc.kind = .function) (hd : (x == ("__debug__" : Str)) = false) : EV g lv fd (.Name x pos) μ σ (.int n) σ := by
  intro c m α s Q E A F M S k
  exact glob_ e hl hk hd A F (k _ α s.heap s.toks (List.prefix_refl _) ⟨_, rfl⟩ F S)
theorem EV.bltn {x : Str} {v : Value} (e : nsIn g.K mainGlobals x = some none) (hv : bootBuiltins x = some v) (hn : x ≠ "__name__") (hl : fd.sc.names.lookup x = some .globalImplicit) (hk : fd.sc.kind = .function) (hd : (x == ("__debug__" : Str)) = false) : EV g lv fd (.Name x pos) μ σ (.raw v) σ := by
  intro c m α s Q E A F M S k
  have hs := env_sc c fd
  have T := topRead_of A.T
  exact Name_function_global (by rw [hs]; exact hk) (by show (c.env fd).scope.names.lookup x = _; rw [hs]; exact hl) (loadGlobal_builtin (by rw [env_gl]; exact T.g.keeps F.keep) (mg_none_of A.X T.g e) (by rw [env_bl]; exact T.b.keeps F.keep) ((T.builtins x hn).trans hv) (k v α s.heap s.toks (List.prefix_refl _) rfl F S)) hd
theorem EV.num {i : Int} {n : Nat} : EV g lv fd (.Constant (.int i) n pos) μ σ (.int i) σ := by
  intro c m α s Q E A F M S k
  exact wpAny_Constant_int (k _ α s.heap _ (List.prefix_refl _) ⟨_, rfl⟩ F S)
theorem EV.text {x : Str} {n : Nat} : EV g lv fd (.Constant (.str x) n pos) μ σ (.str x) σ := by
  intro c m α s Q E A F M S k
  exact Constant_str (k _ α s.heap _ (List.prefix_refl _) ⟨_, rfl⟩ F S)
theorem EV.truth {b : Bool} {n : Nat} : EV g lv fd (.Constant (.bool b) n pos) μ σ (.bool b) σ := by
  intro c m α s Q E A F M S k
  exact Constant_bool (k _ α s.heap s.toks (List.prefix_refl _) rfl F S)
theorem EV.none_ {n : Nat} : EV g lv fd (.Constant .none n pos) μ σ .none σ := by
  intro c m α s Q E A F M S k
  exact Constant_none (k _ α s.heap s.toks (List.prefix_refl _) rfl F S)

theorem EV.bin {a b : Expr} {op : Operator} (h₁ : EV g lv fd a μ σ r₁ σ₁) (h₂ : EV g lv fd b μ σ₁ r₂ σ₂) (o : OP2 g σ₂ (binaryOp op) r₁ r₂ r) : EV g lv fd (.BinOp a op b pos) μ σ r σ₂ := by
  intro c m α s Q E A F M S k
  refine wpAny_BinOp (h₁ c m α s _ E A F M S fun v₁ α₁ h' tk x₁ i₁ F₁ S₁ => ?_)
  refine h₂ c m α₁ _ _ E A F₁ (M.ext x₁) S₁ fun v₂ α₂ h'' tk'' x₂ i₂ F₂ S₂ => ?_
  exact o c lv fd m α₂ _ Q E v₁ v₂ A F₂ S₂ (i₁.ext x₂) i₂ fun v h₃ tk₃ i₃ F₃ S₃ => k v α₂ h₃ tk₃ (x₁.trans x₂) i₃ F₃ S₃
theorem EV.un {a : Expr} {op : UnaryOp} (h₁ : EV g lv fd a μ σ r₁ σ₁) (o : OP1 g σ₁ (unaryOp op) r₁ r) : EV g lv fd (.UnaryOp op a pos) μ σ r σ₁ := by
  intro c m α s Q E A F M S k
  refine UnaryOp_ (h₁ c m α s _ E A F M S fun v₁ α₁ h' tk x₁ i₁ F₁ S₁ => ?_)
  exact o c lv fd m α₁ _ Q E v₁ A F₁ S₁ i₁ fun v h₃ tk₃ i₃ F₃ S₃ => k v α₁ h₃ tk₃ x₁ i₃ F₃ S₃
theorem EV.cmp {a b : Expr} {op : CmpOp} (h₁ : EV g lv fd a μ σ r₁ σ₁) (h₂ : EV g lv fd b μ σ₁ r₂ σ₂) (o : OP2 g σ₂ (compareOp op) r₁ r₂ r) (hm : behindInMarks op b = false) : EV g lv fd (.Compare a [op] [b] pos) μ σ r σ₂ := by
  intro c m α s Q E A F M S k
  refine wpAny_Compare1 (h₁ c m α s _ E A F M S fun v₁ α₁ h' tk x₁ i₁ F₁ S₁ => ?_) hm
  refine h₂ c m α₁ _ _ E A F₁ (M.ext x₁) S₁ fun v₂ α₂ h'' tk'' x₂ i₂ F₂ S₂ => ?_
  exact o c lv fd m α₂ _ Q E v₁ v₂ A F₂ S₂ (i₁.ext x₂) i₂ fun v h₃ tk₃ i₃ F₃ S₃ => k v α₂ h₃ tk₃ (x₁.trans x₂) i₃ F₃ S₃
theorem TR.cmp {a b : Expr} {op : CmpOp} {t : Bool} (h₁ : EV g lv fd a μ σ r₁ σ₁) (h₂ : EV g lv fd b μ σ₁ r₂ σ₂) (o : OP2 g σ₂ (compareOp op) r₁ r₂ (.bool t)) (hm : behindInMarks op b = false) : TR g lv fd (.Compare a [op] [b] pos) μ σ t σ₂ := by
  intro c m α s Q E A F M S k
  refine wpAny_isTrue_Compare1 (h₁ c m α s _ E A F M S fun v₁ α₁ h' tk x₁ i₁ F₁ S₁ => ?_) hm
  refine h₂ c m α₁ _ _ E A F₁ (M.ext x₁) S₁ fun v₂ α₂ h'' tk'' x₂ i₂ F₂ S₂ => ?_
  refine o c lv fd m α₂ _ _ E v₁ v₂ A F₂ S₂ (i₁.ext x₂) i₂ fun v h₃ tk₃ i₃ F₃ S₃ => ?_
  subst i₃
  exact wpAny_truthy_bool (k α₂ h₃ tk₃ (x₁.trans x₂) F₃ S₃)
/-- two links: a op b op c -/
theorem EV.chain {a b d : Expr} {op op' : CmpOp} {r₃ : PV} {t t' : Bool} (h₁ : EV g lv fd a μ σ r₁ σ₁) (h₂ : EV g lv fd b μ σ₁ r₂ σ₂) (o : OP2 g σ₂ (compareOp op) r₁ r₂ (.bool t)) (h₃ : t = true → EV g lv fd d μ σ₂ r₃ σ₂) (o' : t = true → OP2 g σ₂ (compareOp op') r₂ r₃ (.bool t')) (hm : lastMarks [op, op'] [b, d] = false) : EV g lv fd (.Compare a [op, op'] [b, d] pos) μ σ (.bool (t && t')) σ₂ := by
  intro c m α s Q E A F M S k
  refine Compare_chain (h₁ c m α s _ E A F M S fun v₁ α₁ h' tk x₁ i₁ F₁ S₁ => ?_) hm
  refine chain_link (h₂ c m α₁ _ _ E A F₁ (M.ext x₁) S₁ fun v₂ α₂ h'' tk'' x₂ i₂ F₂ S₂ => ?_)
  refine o c lv fd m α₂ _ _ E v₁ v₂ A F₂ S₂ (i₁.ext x₂) i₂ fun v hp tk₃ i₃ F₃ S₃ => ?_
  subst i₃
  refine wpAny_truthy_bool ?_
  cases t with
  | false => exact k _ α₂ hp tk₃ (x₁.trans x₂) rfl F₃ S₃
  | true =>
    refine chain_last (h₃ rfl c m α₂ _ _ E A F₃ (M.ext (x₁.trans x₂)) S₃ fun v₃ α₃ h₄ tk₄ x₃ i₄ F₄ S₄ => ?_)
    refine o' rfl c lv fd m α₃ _ _ E v₂ v₃ A F₄ S₄ (i₂.ext x₃) i₄ fun v h₅ tk₅ i₅ F₅ S₅ => ?_
    exact k v α₃ h₅ tk₅ ((x₁.trans x₂).trans x₃) i₅ F₅ S₅
theorem TR.chain {a b d : Expr} {op op' : CmpOp} {r₃ : PV} {t t' : Bool} (h₁ : EV g lv fd a μ σ r₁ σ₁) (h₂ : EV g lv fd b μ σ₁ r₂ σ₂) (o : OP2 g σ₂ (compareOp op) r₁ r₂ (.bool t)) (h₃ : t = true → EV g lv fd d μ σ₂ r₃ σ₂) (o' : t = true → OP2 g σ₂ (compareOp op') r₂ r₃ (.bool t')) (hm : lastMarks [op, op'] [b, d] = false) : TR g lv fd (.Compare a [op, op'] [b, d] pos) μ σ (t && t') σ₂ := by
  intro c m α s Q E A F M S k
  refine isTrue_chain (h₁ c m α s _ E A F M S fun v₁ α₁ h' tk x₁ i₁ F₁ S₁ => ?_) hm
  refine test_link (h₂ c m α₁ _ _ E A F₁ (M.ext x₁) S₁ fun v₂ α₂ h'' tk'' x₂ i₂ F₂ S₂ => ?_)
  refine o c lv fd m α₂ _ _ E v₁ v₂ A F₂ S₂ (i₁.ext x₂) i₂ fun v hp tk₃ i₃ F₃ S₃ => ?_
  subst i₃
  refine wpAny_truthy_bool ?_
  cases t with
  | false => exact k α₂ hp tk₃ (x₁.trans x₂) F₃ S₃
  | true =>
    refine test_last (h₃ rfl c m α₂ _ _ E A F₃ (M.ext (x₁.trans x₂)) S₃ fun v₃ α₃ h₄ tk₄ x₃ i₄ F₄ S₄ => ?_)
    refine o' rfl c lv fd m α₃ _ _ E v₂ v₃ A F₄ S₄ (i₂.ext x₃) i₄ fun v h₅ tk₅ i₅ F₅ S₅ => ?_
    subst i₅
    exact wpAny_truthy_bool (k α₃ h₅ tk₅ ((x₁.trans x₂).trans x₃) F₅ S₅)
theorem TR.plain {e : Expr} {b : Bool} (h : EV g lv fd e μ σ r σ₁) (t : TV g σ₁ r b) (hp : ∀ (env : Env) (whole : Sem Value), isTrue e env whole = (do let v ← whole; standAt e.pos; holding [v] (truthy v))) : TR g lv fd e μ σ b σ₁ := by
  intro c m α s Q E A F M S k
  refine isTrue_plain (h c m α s _ E A F M S fun v₁ α₁ h' tk x₁ i₁ F₁ S₁ => ?_) (hp _ _)
  exact t c fd lv m α₁ _ Q E v₁ A F₁ S₁ i₁ fun tk' => k α₁ h' tk' x₁ F₁ S₁
theorem TR.not {a : Expr} {t : Bool} (h : TR g lv fd a μ σ t σ₁) : TR g lv fd (.UnaryOp .Not a pos) μ σ (!t) σ₁ := by
  intro c m α s Q E A F M S k
  exact isTrue_not (h c m α s _ E A F M S fun α' h' tk' x F' S' => k α' h' tk' x F' S')
theorem TR.bool {op : BoolOp} {es : List Expr} {t : Bool} (h : TB g lv fd op es μ σ t σ₁) : TR g lv fd (.BoolOp op es pos) μ σ t σ₁ :=
  fun c m α s Q E A F M S k => h c m α s Q E _ pos A F M S k
theorem TB.andF {a : Expr} {as : List Expr} (h : TR g lv fd a μ σ false σ₁) : TB g lv fd .And (a :: as) μ σ false σ₁ := by
  intro c m α s Q E whole pos A F M S k
  exact isTrue_and (h c m α s _ E A F M S fun α' h' tk' x F' S' => k α' h' tk' x F' S')
theorem TB.andT {a : Expr} {as : List Expr} {t : Bool} (h : TR g lv fd a μ σ true σ₁) (h' : TB g lv fd .And as μ σ₁ t σ₂) : TB g lv fd .And (a :: as) μ σ t σ₂ := by
  intro c m α s Q E whole pos A F M S k
  refine isTrue_and (h c m α s _ E A F M S fun α' h'' tk' x F' S' => ?_)
  exact h' c m α' _ Q E whole pos A F' (M.ext x) S' fun α'' h₃ tk₃ x' F'' S'' => k α'' h₃ tk₃ (x.trans x') F'' S''
theorem TB.orT {a : Expr} {as : List Expr} (h : TR g lv fd a μ σ true σ₁) : TB g lv fd .Or (a :: as) μ σ true σ₁ := by
  intro c m α s Q E whole pos A F M S k
  exact isTrue_or (h c m α s _ E A F M S fun α' h' tk' x F' S' => k α' h' tk' x F' S')
theorem TB.orF {a : Expr} {as : List Expr} {t : Bool} (h : TR g lv fd a μ σ false σ₁) (h' : TB g lv fd .Or as μ σ₁ t σ₂) : TB g lv fd .Or (a :: as) μ σ t σ₂ := by
  intro c m α s Q E whole pos A F M S k
  refine isTrue_or (h c m α s _ E A F M S fun α' h'' tk' x F' S' => ?_)
  exact h' c m α' _ Q E whole pos A F' (M.ext x) S' fun α'' h₃ tk₃ x' F'' S'' => k α'' h₃ tk₃ (x.trans x') F'' S''
theorem TB.andNil : TB g lv fd .And [] μ σ true σ := by
  intro c m α s Q E whole pos A F M S k
  exact isTrue_and_nil (k α s.heap s.toks (List.prefix_refl _) F S)
theorem TB.orNil : TB g lv fd .Or [] μ σ false σ := by
  intro c m α s Q E whole pos A F M S k
  exact isTrue_or_nil (k α s.heap s.toks (List.prefix_refl _) F S)
/-- and, or where the store stays: the bool of both -/
theorem TB.and2 {a : Expr} {as : List Expr} {t t' : Bool} (h : TR g lv fd a μ σ t σ) (h' : t = true → TB g lv fd .And as μ σ t' σ) : TB g lv fd .And (a :: as) μ σ (t && t') σ := by
  cases t with
  | false => exact .andF h
  | true => exact .andT h (h' rfl)
theorem TB.or2 {a : Expr} {as : List Expr} {t t' : Bool} (h : TR g lv fd a μ σ t σ) (h' : t = false → TB g lv fd .Or as μ σ t' σ) : TB g lv fd .Or (a :: as) μ σ (t || t') σ := by
  cases t with
  | true => exact .orT h
  | false => exact .orF h (h' rfl)
theorem EV.and_ {a b : Expr} {t : Bool} {r₂ : PV} (h : EV g lv fd a μ σ r₁ σ₁) (ht : TV g σ₁ r₁ t) (h' : t = true → EV g lv fd b μ σ₁ r₂ σ₂) (hs : t = false → r₂ = r₁ ∧ σ₂ = σ₁) : EV g lv fd (.BoolOp .And [a, b] pos) μ σ r₂ σ₂ := by
  intro c m α s Q E A F M S k
  refine BoolOp_and (h c m α s _ E A F M S fun v₁ α₁ h'' tk x₁ i₁ F₁ S₁ => ?_)
  refine ht c fd lv m α₁ _ _ E v₁ A F₁ S₁ i₁ fun tk' => ?_
  cases t with
  | false => obtain ⟨rfl, rfl⟩ := hs rfl; exact k v₁ α₁ h'' tk' x₁ i₁ F₁ S₁
  | true => exact BoolOp_one (h' rfl c m α₁ _ Q E A F₁ (M.ext x₁) S₁ fun v₂ α₂ h₃ tk₃ x₂ i₂ F₂ S₂ => k v₂ α₂ h₃ tk₃ (x₁.trans x₂) i₂ F₂ S₂)
theorem EV.ifExp {t e₁ e₂ : Expr} {b : Bool} (h : TR g lv fd t μ σ b σ₁) (h' : EV g lv fd (if b = true then e₁ else e₂) μ σ₁ r σ₂) : EV g lv fd (.IfExp t e₁ e₂ pos) μ σ r σ₂ := by
  intro c m α s Q E A F M S k
  refine IfExp_ (h c m α s _ E A F M S fun α' h'' tk' x F' S' => ?_)
  cases b <;> exact h' c m α' _ Q E A F' (M.ext x) S' fun v₂ α₂ h₃ tk₃ x₂ i₂ F₂ S₂ => k v₂ α₂ h₃ tk₃ (x.trans x₂) i₂ F₂ S₂

/-! arguments and calls -/
theorem AR.nil : AR g lv fd [] μ σ [] σ := ⟨fun _ => rfl, by
  intro c m α s Q E pos A F M S k
  exact spliced_none (k [] α s.heap s.toks (List.prefix_refl _) .nil F S)⟩
theorem AR.cons {e : Expr} {es : List Expr} (h : EV g lv fd e μ σ r σ₁) (h' : AR g lv fd es μ σ₁ rs σ₂)
    (hc : ∀ env, starEach (e :: es) env = (false, eval e env) :: starEach es env) : AR g lv fd (e :: es) μ σ (r :: rs) σ₂ := ⟨fun env => by rw [hc, h'.1]; rfl, by
  intro c m α s Q E pos A F M S k
  refine spliced_more (h c m α s _ E A F M S fun v₁ α₁ h'' tk x₁ i₁ F₁ S₁ => ?_) (hc _)
  exact h'.2 c m α₁ _ _ E pos A F₁ (M.ext x₁) S₁ fun vs α₂ h₃ tk₃ x₂ i₂ F₂ S₂ => k (v₁ :: vs) α₂ h₃ tk₃ (x₁.trans x₂) (.cons (i₁.ext x₂) i₂) F₂ S₂⟩

/-- what a call keeps -/
def KP (g : G) (fv : Value) : Prop := ∀ h, g.K.In h → ∃ k, (k = Keeper.frame ∨ k = Keeper.machine ∨ k = Keeper.boundFrame) ∧ Looks (model g.prog g.w) h (keeperOf fv) k
theorem KP.fn {fv : Value} (h : keepIn g.K fv = true) : KP g fv := fun h' X => keeps_K h h' X
theorem KP.builtin {id : String} : KP g (.builtin id) := fun _ _ => ⟨.machine, .inr (.inl rfl), Looks.of_pure rfl⟩
theorem KP.type {id : String} : KP g (.type id) := fun _ _ => ⟨.machine, .inr (.inl rfl), Looks.of_pure rfl⟩

theorem back_plain {es : List Expr} {env : Env} (pos : Pos) (h : starEach es env = es.map fun e => (false, eval e env)) : (backTo pos (starEach es env)).any (·.1) = false := by
  rw [h]; unfold backTo
  induction es with
  | nil => rfl
  | cons e es ih =>
    simp only [List.map_cons, List.any_cons, Bool.false_or]
    exact List.any_eq_false.mpr fun x hx => by
      simp only [List.map_map, List.mem_map] at hx
      obtain ⟨y, _, rfl⟩ := hx
      simp
/-- the arguments, then the call -/
theorem AR.callWith {es : List Expr} {fv : Value} {first : List Value} (ha : AR g lv fd es μ σ rs σ₁) (hk : KP g fv) {c : Cfg} {m : Str → Option Value} {α : List Addr} {s : Shared} {Q E : Value → Shared → Prop} (A : Amb g lv c) (F : Fr c.h₀ c.L s.heap m) (M : MR c fd α m μ) (S : Sto g c s.heap α σ)
    (k : ∀ vs α' h' tk', α <+: α' → Iss c.lS α' rs vs → Fr c.h₀ c.L h' m → Sto g c h' α' σ₁ → wpAny (model g.prog g.w) (c.ar fd) (call fv (first ++ vs)) Q E { s with heap := h', toks := tk' }) :
    wpAny (model g.prog g.w) (c.ar fd) (callWith pos fv first (backTo pos (starEach es (c.env fd))) []) Q E s := by
  refine callWith_of (P := g.K.In) (by rw [back_plain pos (ha.1 _)]; rfl) hk ?_
  have main := ha.2 c m α s (fun vs s' => g.K.In s'.heap ∧ wpAny (model g.prog g.w) (c.ar fd) (call fv (first ++ vs)) Q E s') E pos A F M S
    fun vs α' h' tk' x i F' S' => ⟨A.X.keeps F'.keep, k vs α' h' tk' x i F' S'⟩
  cases es with
  | nil =>
    have e0 : backTo pos (starEach [] (c.env fd)) = [] := rfl
    rw [e0] at main ⊢
    refine evalArgs_nil3 ?_
    exact ⟨A.X.keeps F.keep, by
      have q : wpAny (model g.prog g.w) (c.ar fd) (spliced []) (fun vs s' => g.K.In s'.heap ∧ wpAny (model g.prog g.w) (c.ar fd) (call fv (first ++ vs)) Q E s') E s := main
      intro Γ p hΓ
      exact (q Γ p hΓ).2 Γ p hΓ⟩
  | cons e es =>
    have hs := ha.1 (c.env fd)
    have hb : backTo pos (starEach (e :: es) (c.env fd)) = (false, eval e (c.env fd)) :: backTo pos (es.map fun e => (false, eval e (c.env fd))) := by rw [hs]; rfl
    rw [hb] at main ⊢
    exact evalArgs_plain main
theorem EV.call {f : Expr} {args : List Expr} {fv : Value} (hf : EV g lv fd f μ σ (.raw fv) σ₁) (ha : AR g lv fd args μ σ₁ rs σ₂) (hc : CL g lv fv rs σ₂ r σ₃) (hk : KP g fv) (hkd : fd.cs.kind = .function)
    (he : ∀ env, eval (.Call f args [] pos) env = (do let r ← eval f env; PySem.callWith pos r [] (backTo pos (starEach args env)) (backToKw pos (keywordEach [] env)))) : EV g lv fd (.Call f args [] pos) μ σ r σ₃ := by
  intro c m α s Q E A F M S k
  refine Call_ (hf c m α s _ E A F M S fun v₁ α₁ h' tk x₁ i₁ F₁ S₁ => ?_) (he _)
  subst i₁
  refine AR.callWith (first := []) ha hk A F₁ (M.ext x₁) S₁ fun vs α₂ h'' tk'' x₂ i₂ F₂ S₂ => ?_
  exact hc c fd m α₂ _ Q E vs A F₂ S₂ hkd i₂ fun v α₃ h₃ tk₃ x₃ i₃ F₃ S₃ => k v α₃ h₃ tk₃ ((x₁.trans x₂).trans x₃) i₃ F₃ S₃
theorem EV.meth {o : Expr} {name : Str} {apos : Pos} {args : List Expr} {fv : Value} {pl : Env → Sem Bool} (ho : EV g lv fd o μ σ r₀ σ₁) (hg : GM g σ₁ r₀ name fv) (ha : AR g lv fd args μ σ₁ rs σ₂) (hc : CL g lv fv (r₀ :: rs) σ₂ r σ₃) (hk : KP g fv) (hkd : fd.cs.kind = .function)
    (he : ∀ env, eval (.Call (.Attribute o name apos) args [] pos) env = (do let ov ← eval o env; standAt apos.atName; let (f, first) ← holding [ov] (getMethod ov name (pl env)); PySem.callWith pos f first (backTo pos (starEach args env)) [])) :
    EV g lv fd (.Call (.Attribute o name apos) args [] pos) μ σ r σ₃ := by
  intro c m α s Q E A F M S k
  refine MethodCall_ (ho c m α s _ E A F M S fun v₁ α₁ h' tk x₁ i₁ F₁ S₁ => ?_) (he _)
  refine hg c lv fd m α₁ _ _ E v₁ _ A F₁ S₁ i₁ ?_
  refine AR.callWith (first := [v₁]) ha hk A F₁ (M.ext x₁) S₁ fun vs α₂ h'' tk'' x₂ i₂ F₂ S₂ => ?_
  exact hc c fd m α₂ _ Q E (v₁ :: vs) A F₂ S₂ hkd (.cons (i₁.ext x₂) i₂) fun v α₃ h₃ tk₃ x₃ i₃ F₃ S₃ => k v α₃ h₃ tk₃ ((x₁.trans x₂).trans x₃) i₃ F₃ S₃
end
end Mine
end
section
open PySem PySem.W PySem.Spec PySem.Calls PyProof.Rows
namespace Mine
section
variable {g : G} {lv : Nat} {fd : FD} {μ μ' μ₁ μ₂ : Loc} {σ σ' σ₁ σ₂ σ₃ : List AObj} {r r₀ r₁ r₂ : PV} {rs : List PV} {pos pos' : Pos} {o : Out}

/-! statements -/
theorem EX.nil : EX g lv fd [] μ σ .next μ σ := by
  intro c m α s Q E A F M S k
  exact wpAny_execs_nil (k .next m α s.heap s.toks (List.prefix_refl _) rfl F M S)
theorem EX.cons {st : Stmt} {b : List Stmt} (h : ES g lv fd st μ σ .next μ₁ σ₁) (h' : EX g lv fd b μ₁ σ₁ o μ' σ') : EX g lv fd (st :: b) μ σ o μ' σ' := by
  intro c m α s Q E A F M S k
  refine wpAny_execs_cons (h c m α s _ E A F M S fun f m₁ α₁ h₁ tk₁ x₁ i₁ F₁ M₁ S₁ => ?_)
  cases i₁
  exact h' c m₁ α₁ _ Q E A F₁ M₁ S₁ fun f m₂ α₂ h₂ tk₂ x₂ i₂ F₂ M₂ S₂ => k f m₂ α₂ h₂ tk₂ (x₁.trans x₂) i₂ F₂ M₂ S₂
theorem EX.stop {st : Stmt} {b : List Stmt} (h : ES g lv fd st μ σ o μ' σ') (ho : o ≠ .next) : EX g lv fd (st :: b) μ σ o μ' σ' := by
  intro c m α s Q E A F M S k
  refine wpAny_execs_cons (h c m α s _ E A F M S fun f m₁ α₁ h₁ tk₁ x₁ i₁ F₁ M₁ S₁ => ?_)
  have q := k f m₁ α₁ h₁ tk₁ x₁ i₁ F₁ M₁ S₁
  cases o with
  | next => exact absurd rfl ho
  | cont => cases i₁; exact q
  | ret r => obtain ⟨v, rfl, _⟩ := i₁; exact q
theorem EX.cov {b : List Stmt} (h : EX g lv fd b μ σ o μ₁ σ') (k₀ : Cov μ₁ μ') : EX g lv fd b μ σ o μ' σ' :=
  fun c m α s Q E A F M S k => h c m α s Q E A F M S fun f m' α' h' tk' x i F' M' S' => k f m' α' h' tk' x i F' (M'.cov k₀) S'
theorem EX.pre {b : List Stmt} (h : EX g lv fd b μ₁ σ o μ' σ') (k₀ : Cov μ μ₁) : EX g lv fd b μ σ o μ' σ' :=
  fun c m α s Q E A F M S k => h c m α s Q E A F (M.cov k₀) S k
theorem ES.cov {b : Stmt} (h : ES g lv fd b μ σ o μ₁ σ') (k₀ : Cov μ₁ μ') : ES g lv fd b μ σ o μ' σ' :=
  fun c m α s Q E A F M S k => h c m α s Q E A F M S fun f m' α' h' tk' x i F' M' S' => k f m' α' h' tk' x i F' (M'.cov k₀) S'
theorem ES.ret {e : Expr} (h : EV g lv fd e μ σ r σ') : ES g lv fd (.Return (some e) pos) μ σ (.ret r) μ σ' := by
  intro c m α s Q E A F M S k
  exact wpAny_Return_some (h c m α s _ E A F M S fun v α' h' tk' x i F' S' => k _ m α' h' tk' x ⟨v, rfl, i⟩ F' (M.ext x) S')
theorem ES.cont : ES g lv fd (.Continue pos) μ σ .cont μ σ := by
  intro c m α s Q E A F M S k
  exact wpAny_Continue (k _ m α s.heap s.toks (List.prefix_refl _) rfl F M S)
theorem ES.expr {e : Expr} (h : EV g lv fd e μ σ r σ') (hk : fd.sc.kind = .function) (hs : ∀ env : Env, swapsWith e none pos.line env = pure false) : ES g lv fd (.Expr e pos) μ σ .next μ σ' := by
  intro c m α s Q E A F M S k
  refine wpAny_Expr_any (h c m α s _ E A F M S fun v α' h' tk' x i F' S' => k _ m α' h' tk' x rfl F' (M.ext x) S') ?_ (hs _)
  show ((c.env fd).scope.kind == ScopeKind.module && _) = false
  rw [env_sc, hk]; rfl
theorem noCls {c : Cfg} (hk : fd.sc.kind = .function) : ((c.env fd).scope.kind == .class || ((c.env fd).scope.kind == .module && (c.env fd).locals != (c.env fd).globals)) = false := by
  rw [env_sc, hk]; rfl
/-- a name of the def's own is stored -/
theorem store_ {x : Str} {v : Value} {c : Cfg} {m : Str → Option Value} {α : List Addr} {s : Shared} {Q : Unit → Shared → Prop} {E : Value → Shared → Prop} (hc : fd.comp = none) (hl : fd.sc.names.lookup x = some .local) (hk : fd.sc.kind = .function)
    (F : Fr c.h₀ c.L s.heap m) (M : MR c fd α m μ) (S : Sto g c s.heap α σ) (i : Is c.lS α r v)
    (k : ∀ m' h' tk', Fr c.h₀ c.L h' m' → MR c fd α m' ((x, r) :: μ) → Sto g c h' α σ → Q () { s with heap := h', toks := tk' }) : wpAny (model g.prog g.w) (c.ar fd) (storeName (c.env fd) x v) Q E s := by
  have hL : (c.env fd).locals = c.L := by show (envAt c fd fd.comp).locals = _; rw [hc]
  exact wpAny_storeName_local (by show (c.env fd).scope.names.lookup x = _; rw [env_sc]; exact hl) (by rw [hL]; exact F.ns) (fun h₂ hn hs' => by
    rw [hL] at hn hs'
    exact k _ h₂ _ (F.set hn hs') (M.put hc i) (S.local_ hs')) (noCls hk)
/-- a cell of the def's own is stored -/
theorem storeC_ {x : Str} {j : Nat} {r₀ : Option PV} {v : Value} {c : Cfg} {m : Str → Option Value} {α : List Addr} {s : Shared} {Q : Unit → Shared → Prop} {E : Value → Shared → Prop} (e : fd.ix.lookup x = some j) (e' : σ[j]? = some (.cell r₀)) (hl : fd.sc.names.lookup x = some .cell) (hk : fd.sc.kind = .function)
    (F : Fr c.h₀ c.L s.heap m) (M : MR c fd α m μ) (S : Sto g c s.heap α σ) (i : Is c.lS α r v)
    (k : ∀ h' tk', Fr c.h₀ c.L h' m → Sto g c h' α (σ.set j (.cell (some r))) → Q () { s with heap := h', toks := tk' }) : wpAny (model g.prog g.w) (c.ar fd) (storeName (c.env fd) x v) Q E s := by
  obtain ⟨a, hc, ea⟩ := M.cells e
  obtain ⟨a', o, x', y, z, n', f'⟩ := S.get e'
  rw [ea] at x'; cases x'
  have ho : ∃ v₀, o.data = .cell v₀ := by cases r₀ with | none => exact ⟨_, y⟩ | some r₀ => obtain ⟨v₀, q, _⟩ := y; exact ⟨_, q⟩
  obtain ⟨v₀, ho⟩ := ho
  refine wpAny_storeName_cell (by rw [env_sc]; exact hk) (by show (c.env fd).scope.names.lookup x = _; rw [env_sc]; exact hl) hc ⟨o, z, ho⟩ fun h' hv hs => ?_
  obtain ⟨o', ho', hd'⟩ := hv
  exact k h' _ (F.change hs n' f') (S.set_at ea hs ho' ⟨v, hd', i⟩)
theorem ES.assign {x : Str} {e : Expr} (h : EV g lv fd e μ σ r σ') (hc : fd.comp = none) (hl : fd.sc.names.lookup x = some .local) (hk : fd.sc.kind = .function) (hs : ∀ c : Cfg, swapsWith e (some (.Name x pos')) pos.line (c.env fd) = pure false) :
    ES g lv fd (.Assign [.Name x pos'] e pos) μ σ .next ((x, r) :: μ) σ' := by
  intro c m α s Q E A F M S k
  refine wpAny_Assign_Name (h c m α s _ E A F M S fun v α' h' tk' x' i F' S' => ?_) (hs c)
  exact store_ hc hl hk F' (M.ext x') S' i fun m' h₂ tk₂ F₂ M₂ S₂ => k _ m' α' h₂ _ x' rfl F₂ M₂ S₂
theorem ES.assignC {x : Str} {e : Expr} {j : Nat} {r₀ : Option PV} (h : EV g lv fd e μ σ r σ') (ej : fd.ix.lookup x = some j) (ej' : σ'[j]? = some (.cell r₀)) (hl : fd.sc.names.lookup x = some .cell) (hk : fd.sc.kind = .function) (hs : ∀ c : Cfg, swapsWith e (some (.Name x pos')) pos.line (c.env fd) = pure false) :
    ES g lv fd (.Assign [.Name x pos'] e pos) μ σ .next μ (σ'.set j (.cell (some r))) := by
  intro c m α s Q E A F M S k
  refine wpAny_Assign_Name (h c m α s _ E A F M S fun v α' h' tk' x' i F' S' => ?_) (hs c)
  exact storeC_ ej ej' hl hk F' (M.ext x') S' i fun h₂ tk₂ F₂ S₂ => k _ m α' h₂ _ x' rfl F₂ (M.ext x') S₂
theorem ES.aug {x : Str} {e : Expr} {op : Operator} (e₀ : μ.lookup x = some r₀) (h : EV g lv fd e μ σ r₁ σ') (ho : OP2 g σ' (inplaceOp op) r₀ r₁ r) (hc : fd.comp = none) (hl : fd.sc.names.lookup x = some .local) (hk : fd.sc.kind = .function) :
    ES g lv fd (.AugAssign (.Name x pos') op e pos) μ σ .next ((x, r) :: μ) σ' := by
  intro c m α s Q E A F M S k
  obtain ⟨nm, hn, kk⟩ := M.loc
  have hL : (c.env fd).locals = c.L := by show (envAt c fd fd.comp).locals = _; rw [hc]
  have hn' : nm = m := by rw [hc] at hn; exact hn
  subst hn'
  obtain ⟨v₀, hv, i₀⟩ := kk x r₀ e₀
  refine wpAny_AugAssign_Name (wpAny_loadName_local (by rw [env_sc]; exact hk) (by show (c.env fd).scope.names.lookup x = _; rw [env_sc]; exact hl) (by rw [hL]; exact F.ns) hv ?_)
  refine h c nm α s _ E A F M S fun v α' h' tk' x' i F' S' => ?_
  refine ho c lv fd nm α' _ _ E v₀ v A F' S' (i₀.ext x') i fun u h₂ tk₂ i₂ F₂ S₂ => ?_
  exact store_ hc hl hk F₂ (M.ext x') S₂ i₂ fun m' h₂ tk₂ F₂ M₂ S₂ => k _ m' α' h₂ _ x' rfl F₂ M₂ S₂
theorem ES.ifs {t : Expr} {b b' : List Stmt} {y : Bool} (h : TR g lv fd t μ σ y σ₁) (h' : EX g lv fd (if y = true then b else b') μ σ₁ o μ' σ') : ES g lv fd (.If t b b' pos) μ σ o μ' σ' := by
  intro c m α s Q E A F M S k
  refine wpAny_If (h c m α s _ E A F M S fun α₁ h₁ tk₁ x₁ F₁ S₁ => ?_)
  have q := h' c m α₁ { s with heap := h₁, toks := tk₁ } Q E A F₁ (M.ext x₁) S₁ fun f m₂ α₂ h₂ tk₂ x₂ i₂ F₂ M₂ S₂ => k f m₂ α₂ h₂ tk₂ (x₁.trans x₂) i₂ F₂ M₂ S₂
  cases y <;> exact q

/-! entering a def -/
def NR (lS : Addr) (α : List Addr) (m : Str → Option Value) (μ : Loc) : Prop := ∀ x r, μ.lookup x = some r → ∃ v, m x = some v ∧ Is lS α r v
theorem zip_mr {lS : Addr} {α : List Addr} : ∀ {ns : List Str} {rs : List PV} {vs : List Value}, Iss lS α rs vs → ∀ (μ : Loc) (l : List (Str × Value)), NR lS α (fun y => l.lookup y) μ → NR lS α (fun y => ((ns.zip vs).reverse ++ l).lookup y) ((ns.zip rs).reverse ++ μ)
  | [], _, _, _, _, _, h => h
  | _ :: _, _, _, .nil, _, _, h => h
  | n :: ns, _, _, .cons (r := r) (v := v) i is, μ, l, h => by
    have := zip_mr (ns := ns) is ((n, r) :: μ) ((n, v) :: l) (fun y q e => by
      rw [List.lookup_cons] at e
      by_cases hy : y = n
      · subst hy; simp at e; subst e; exact ⟨v, by simp, i⟩
      · have hb : (y == n) = false := by simp [hy]
        rw [hb] at e
        obtain ⟨u, a, b⟩ := h y q e
        exact ⟨u, by show List.lookup y ((n, v) :: l) = some u; rw [List.lookup_cons, hb]; exact a, b⟩)
    simpa using this
/-- a call's code -/
def CX (g : G) (lv : Nat) (fv : Value) (rs : List PV) (σ : List AObj) (r : PV) (σ' : List AObj) : Prop :=
  ∀ (c : Cfg) (fd : FD) (m : Str → Option Value) (α : List Addr) (s : Shared) (R : Result → Shared → Prop) (vs : List Value),
    Amb g lv c → Fr c.h₀ c.L s.heap m → Sto g c s.heap α σ → fd.cs.kind = .function → Iss c.lS α rs vs →
    (∀ v α' h' tk', α <+: α' → Is c.lS α' r v → Fr c.h₀ c.L h' m → Sto g c h' α' σ' → R (.ok (.ret v)) { s with heap := h', toks := tk' }) →
    codeAny (model g.prog g.w) (c.ar fd) (.call fv ⟨vs, []⟩) R s
theorem CX.cl {fv : Value} (h : CX g lv fv rs σ r σ') : CL g lv fv rs σ r σ' :=
  fun c fd m α s _ _ vs A F S hkd I k => wpAny_call (h c fd m α s _ vs A F S hkd I fun v α' h' tk' x i F' S' => k v α' h' tk' x i F' S')
theorem CX.def_ {f : Addr} {name qual : Str} {params : Arguments} {body : List Stmt} {scope : Scope} {dV kV doc pm cdv ct oc : Value} {an od : Option Addr} {osl : Array (Option Value)} (pn : List Str)
    (ho : g.K.lookup f = some ⟨oc, od, .func (fnOf name qual params body scope dV kV doc pm an cdv ct), osl⟩) (hcd : codeIn g.K cdv qual = true)
    (hb : ∀ vs : List Value, vs.length = pn.length → bindArgs (fnOf name qual params body scope dV kV doc pm an cdv ct) ⟨vs, []⟩ = pure (pn.zip vs))
    (hl : ∀ x ∈ pn, scope.names.lookup x = some .local) (hn : rs.length = pn.length)
    (h : ∃ o μ', EX g lv ⟨qual, scope, f, cdv, [], none⟩ body (pn.zip rs).reverse σ o μ' σ' ∧ (match o with | .ret q => q | _ => .none) = r)
    (hco : scope.isCoroutine = false) (hgen : scope.isGenerator = false) (hk : scope.kind = .function) (hcell : ∀ x ∈ scope.names, x.2 ≠ .cell) : CX g (lv + 1) (.ref f) rs σ r σ' := by
  intro c fd m α s R vs A F S hkd I k
  obtain ⟨o, μ', h, hr⟩ := h
  have hlen : vs.length = pn.length := by rw [I.len, hn]
  refine code_def (env := c.fenv fd) (outer := c.outer) (binds := pn.zip vs) A.B F A.X S.news A.T rfl rfl hkd ho hcd (by have := A.hd; show c.dp < _; omega) (BindsTo.of_eq (hb vs hlen)) ?_ ?_ hco hgen hk hcell
  · intro y hy; exact hl _ (List.of_mem_zip hy).1
  · intro g' L' h₁ FG F' N' B' X' T'
    let c' : Cfg := { c with dp := c.dp + 1, un := c.un + 3, outer := c.fenv fd :: c.outer, A₀ := c.ar fd, h₀ := g', L := L', cl := [] }
    have Sg : Sto g c' h₁ α σ := by
      have N'' : News g' L' h₁ (led s.heap α ++ c.rest) := N'
      refine ⟨S.len, fun i ao e => ?_, S.nd, fun p hp => N'' p (List.mem_append_right _ hp), S.off⟩
      obtain ⟨a, o', x, y, z, _⟩ := S.at_ i ao e
      have q := N'' (a, (s.heap.get? a).getD default) (List.mem_append_left _ (List.mem_map.mpr ⟨a, List.mem_of_getElem? x, rfl⟩))
      rw [z] at q
      exact ⟨a, o', x, y, q⟩
    have A' : Amb g lv c' := ⟨B', X', T', A.scr, A.fit, by have := A.hd; show c.dp + 1 + lv < _; omega, by have := A.hu; show c.un + 3 + 8 * lv < _; omega⟩
    have M' : MR c' ⟨qual, scope, f, cdv, [], none⟩ α (fun y => (pn.zip vs).reverse.lookup y) (pn.zip rs).reverse := by
      have q : NR c.lS α (fun y => List.lookup y (pn.zip vs).reverse) (pn.zip rs).reverse := by
        have := zip_mr (ns := pn) I [] [] (fun _ _ e => by cases e)
        simpa using this
      exact ⟨⟨_, rfl, q⟩, trivial, fun _ _ e => nomatch e⟩
    refine h c' _ α _ _ _ A' F' M' Sg fun f m' α' h' tk' x i F₂ M₂ S₂ => ?_
    refine leaveK_ F₂ S₂.news fun F₃ N₃ => ?_
    have Sb : Sto g c h' α' σ' := by
      refine ⟨S₂.len, fun i ao e => ?_, S₂.nd, fun p hp => N₃ p (List.mem_append_right _ hp), S₂.off⟩
      obtain ⟨a, o', x, y, z, _⟩ := S₂.at_ i ao e
      have q := N₃ (a, (h'.get? a).getD default) (List.mem_append_left _ (List.mem_map.mpr ⟨a, List.mem_of_getElem? x, rfl⟩))
      exact ⟨a, o', x, y, z, q.2⟩
    subst hr
    cases o with
    | next => cases i; exact k _ α' h' tk' x rfl F₃ Sb
    | cont => cases i; exact k _ α' h' tk' x rfl F₃ Sb
    | ret q => obtain ⟨v, rfl, i⟩ := i; exact k v α' h' tk' x i F₃ Sb
/-- what a call has made and does not hand on may be forgotten -/
theorem CL.drop {fv : Value} {τ : List AObj} (h : CL g lv fv rs σ r (σ ++ τ)) (hr : ∀ lS α β v, Is lS (α ++ β) r v → Is lS α r v) : CL g lv fv rs σ r σ := by
  intro c fd m α s Q E vs A F S hkd I k
  refine h c fd m α s Q E vs A F S hkd I fun v α' h' tk' x i F' S' => ?_
  obtain ⟨β, rfl⟩ := x
  exact k v α h' tk' (List.prefix_refl _) (hr _ _ _ _ i) F' (S.drop rfl S')

/-! operations: ints, bools, none, texts -/
theorem OP2.add {i j : Int} : OP2 g σ (binaryOp .Add) (.int i) (.int j) (.int (i + j)) := by
  rintro c lv fd m α s Q E _ _ A F S ⟨t, rfl⟩ ⟨u, rfl⟩ k; exact add_int (k _ s.heap _ ⟨_, rfl⟩ F S)
theorem OP2.sub {i j : Int} : OP2 g σ (binaryOp .Sub) (.int i) (.int j) (.int (i - j)) := by
  rintro c lv fd m α s Q E _ _ A F S ⟨t, rfl⟩ ⟨u, rfl⟩ k; exact sub_int (k _ s.heap _ ⟨_, rfl⟩ F S)
theorem OP2.mul {i j : Int} (h : IntMulOk i j) : OP2 g σ (binaryOp .Mult) (.int i) (.int j) (.int (i * j)) := by
  rintro c lv fd m α s Q E _ _ A F S ⟨t, rfl⟩ ⟨u, rfl⟩ k; exact mul_int (k _ s.heap _ ⟨_, rfl⟩ F S) h
theorem OP2.div {i j : Int} (h : j ≠ 0) (h' : j.natAbs < 1073741824) : OP2 g σ (binaryOp .FloorDiv) (.int i) (.int j) (.int (i.fdiv j)) := by
  rintro c lv fd m α s Q E _ _ A F S ⟨t, rfl⟩ ⟨u, rfl⟩ k; exact floordiv_int h (k _ s.heap _ ⟨_, rfl⟩ F S) (.inl (PyProof.noPylong_small h'))
theorem OP2.mod {i j : Int} (h : j ≠ 0) : OP2 g σ (binaryOp .Mod) (.int i) (.int j) (.int (i.fmod j)) := by
  rintro c lv fd m α s Q E _ _ A F S ⟨t, rfl⟩ ⟨u, rfl⟩ k; exact mod_int' h (k _ s.heap _ ⟨_, rfl⟩ F S)
theorem OP2.pow {i j : Int} (h₀ : 0 ≤ j) (h₁ : j ≤ 1000000) (h₂ : i.natAbs < 2 ^ 64) : OP2 g σ (binaryOp .Pow) (.int i) (.int j) (.int (i ^ j.toNat)) := by
  rintro c lv fd m α s Q E _ _ A F S ⟨t, rfl⟩ ⟨u, rfl⟩ k; exact pow_int_small h₀ h₁ h₂ (k _ s.heap _ ⟨_, rfl⟩ F S)
theorem OP1.neg {i : Int} : OP1 g σ (unaryOp .USub) (.int i) (.int (-i)) := by
  rintro c lv fd m α s Q E _ A F S ⟨t, rfl⟩ k; exact neg_int (k _ s.heap _ ⟨_, rfl⟩ F S)
theorem OP1.not {b : Bool} (h : TV g σ r b) : OP1 g σ (unaryOp .Not) r (.bool (!b)) := by
  intro c lv fd m α s Q E v A F S i k; exact not_of (h c fd lv m α s _ E v A F S i fun tk' => k _ s.heap tk' rfl F S)
theorem OP2.lt {i j : Int} : OP2 g σ (compareOp .Lt) (.int i) (.int j) (.bool (decide (i < j))) := by
  rintro c lv fd m α s Q E _ _ A F S ⟨t, rfl⟩ ⟨u, rfl⟩ k; exact lt_int (k _ s.heap _ rfl F S)
theorem OP2.le {i j : Int} : OP2 g σ (compareOp .LtE) (.int i) (.int j) (.bool (decide (i ≤ j))) := by
  rintro c lv fd m α s Q E _ _ A F S ⟨t, rfl⟩ ⟨u, rfl⟩ k; exact le_int (k _ s.heap _ rfl F S)
theorem OP2.gt {i j : Int} : OP2 g σ (compareOp .Gt) (.int i) (.int j) (.bool (decide (j < i))) := by
  rintro c lv fd m α s Q E _ _ A F S ⟨t, rfl⟩ ⟨u, rfl⟩ k; exact gt_int (k _ s.heap _ rfl F S)
theorem OP2.ge {i j : Int} : OP2 g σ (compareOp .GtE) (.int i) (.int j) (.bool (decide (j ≤ i))) := by
  rintro c lv fd m α s Q E _ _ A F S ⟨t, rfl⟩ ⟨u, rfl⟩ k; exact ge_int (k _ s.heap _ rfl F S)
theorem OP2.eq {i j : Int} : OP2 g σ (compareOp .Eq) (.int i) (.int j) (.bool (i == j)) := by
  rintro c lv fd m α s Q E _ _ A F S ⟨t, rfl⟩ ⟨u, rfl⟩ k; exact eq_int (k _ s.heap _ rfl F S)
theorem OP2.ne {i j : Int} : OP2 g σ (compareOp .NotEq) (.int i) (.int j) (.bool (i != j)) := by
  rintro c lv fd m α s Q E _ _ A F S ⟨t, rfl⟩ ⟨u, rfl⟩ k; exact ne_int (k _ s.heap _ rfl F S)
theorem OP2.neB {i j : Bool} : OP2 g σ (compareOp .NotEq) (.bool i) (.bool j) (.bool (i != j)) := by
  rintro c lv fd m α s Q E _ _ A F S rfl rfl k; exact ne_bool (k _ s.heap _ rfl F S)
theorem OP2.eqS {x y : Str} : OP2 g σ (compareOp .Eq) (.str x) (.str y) (.bool (x == y)) := by
  rintro c lv fd m α s Q E _ _ A F S ⟨t, rfl⟩ ⟨u, rfl⟩ k; exact eq_str (k _ s.heap _ rfl F S)
theorem OP2.neS {x y : Str} : OP2 g σ (compareOp .NotEq) (.str x) (.str y) (.bool (x != y)) := by
  rintro c lv fd m α s Q E _ _ A F S ⟨t, rfl⟩ ⟨u, rfl⟩ k; exact ne_str (k _ s.heap _ rfl F S)
theorem OP2.addS {x y : Str} (h : x.length + y.length ≤ 16777216) : OP2 g σ (binaryOp .Add) (.str x) (.str y) (.str (x ++ y)) := by
  rintro c lv fd m α s Q E _ _ A F S ⟨t, rfl⟩ ⟨u, rfl⟩ k; exact add_str (fun t' tk => k _ s.heap _ ⟨_, rfl⟩ F S) (by rw [sizeLine_eq]; exact h)
theorem OP2.iaddS {x y : Str} (h : x.length + y.length ≤ 16777216) : OP2 g σ (inplaceOp .Add) (.str x) (.str y) (.str (x ++ y)) := by
  rintro c lv fd m α s Q E _ _ A F S ⟨t, rfl⟩ ⟨u, rfl⟩ k; exact iadd_str (fun t' tk => k _ s.heap _ ⟨_, rfl⟩ F S) (by rw [sizeLine_eq]; exact h)
theorem OP2.isNN : OP2 g σ (compareOp .Is) .none .none (.bool true) := by
  rintro c lv fd m α s Q E _ _ A F S rfl rfl k; exact is_none_none (k _ s.heap _ rfl F S)
theorem OP2.isIN {i : Int} : OP2 g σ (compareOp .Is) (.int i) .none (.bool false) := by
  rintro c lv fd m α s Q E _ _ A F S ⟨t, rfl⟩ rfl k; exact is_int_none (k _ s.heap _ rfl F S)
theorem TV.bool {b : Bool} : TV g σ (.bool b) b := by
  rintro c fd lv m α s Q E _ A F S rfl k; exact wpAny_truthy_bool (k s.toks)
theorem TV.list {i : Nat} {xs : List PV} (e : σ[i]? = some (.list xs)) (hl : xs.length < 1000000) : TV g σ (.ref i) (!xs.isEmpty) := by
  rintro c fd lv m α s Q E _ A F S ⟨a, ea, rfl⟩ k
  obtain ⟨a', o', x, y, z, _⟩ := S.get e
  rw [ea] at x; cases x
  obtain ⟨vs, n, rfl, I⟩ := y
  have := I.len
  refine wpAny_truthy_list ⟨_, z, rfl, n, rfl⟩ (by rw [List.size_toArray]; omega) ?_
  have : (!vs.toArray.isEmpty) = !xs.isEmpty := by
    cases I <;> simp
  rw [this]
  exact k _
end
end Mine
end
section
open PySem PySem.W PySem.Spec PySem.Calls PyProof.Rows
namespace Mine
section
variable {g : G} {lv : Nat} {fd : FD} {μ μ' μ₁ μ₂ : Loc} {σ σ' σ₁ σ₂ σ₃ : List AObj} {r r₀ r₁ r₂ : PV} {rs xs : List PV} {pos pos' : Pos} {o : Out}

theorem Sto.new {c : Cfg} {h : Heap} {α : List Addr} {m : Str → Option Value} (S : Sto g c h α σ) (F : Fr c.h₀ c.L h m) {ob : Obj} {ao : AObj} (hf : ob.isFreed = false) (q : OR g c.lS (α ++ [h.objs.size]) h.objs.size ob ao) : Sto g c (h.push ob) (α ++ [h.objs.size]) (σ ++ [ao]) :=
  S.push_at F (fun b o e => Heap.get?_push_of_some _ e) (Nat.le_refl _) (Heap.get?_push_size _ hf) q
theorem Sto.ofNews {c : Cfg} {h h' : Heap} {α : List Addr} (S : Sto g c h α σ) (N : News c.h₀ c.L h' (led h α ++ c.rest)) : Sto g c h' α σ := by
  refine ⟨S.len, fun i ao e => ?_, S.nd, fun p hp => N p (List.mem_append_right _ hp), S.off⟩
  obtain ⟨a, o', x, y, z, _⟩ := S.at_ i ao e
  have q := N (a, (h.get? a).getD default) (List.mem_append_left _ (List.mem_map.mpr ⟨a, List.mem_of_getElem? x, rfl⟩))
  rw [z] at q
  exact ⟨a, o', x, y, q⟩
theorem Sto.ofNew {c : Cfg} {h h' : Heap} {α : List Addr} (S : Sto g c h α σ) {D : Addr} {ob : Obj} {ao : AObj} (N : News c.h₀ c.L h' ((D, ob) :: (led h α ++ c.rest))) (hlt : ∀ q ∈ led h α ++ c.rest, q.1 < D) (q : OR g c.lS (α ++ [D]) D ob ao) : Sto g c h' (α ++ [D]) (σ ++ [ao]) := by
  have S' := S.ofNews fun p hp => N p (.tail _ hp)
  have z := N _ (.head _)
  have lt : ∀ a ∈ α, a < D := fun a ha => hlt (a, (h.get? a).getD default) (List.mem_append_left _ (List.mem_map.mpr ⟨a, ha, rfl⟩))
  refine ⟨by simp [S.len], fun i ao' e => ?_, ?_, S'.rest, fun p hp hm => ?_⟩
  · by_cases hi : i < σ.length
    · rw [List.getElem?_append_left hi] at e
      obtain ⟨b, o', x, y, w, n⟩ := S'.at_ i ao' e
      exact ⟨b, o', pre_get (List.prefix_append _ _) x, y.ext (List.prefix_append _ _), w, n⟩
    · rw [List.getElem?_append_right (Nat.le_of_not_lt hi)] at e
      have h0 : i - σ.length = 0 := by
        cases q : i - σ.length with
        | zero => rfl
        | succ n => rw [q] at e; simp at e
      rw [h0] at e; simp at e; subst e
      have hi' : i = α.length := by have := S.len; omega
      subst hi'
      exact ⟨D, ob, by simp, q, z⟩
  · refine List.nodup_append.mpr ⟨S.nd, by simp, fun x hx y hy => ?_⟩
    simp at hy; subst hy
    exact Nat.ne_of_lt (lt x hx)
  · rcases List.mem_append.mp hm with hm | hm
    · exact S.off p hp hm
    · simp at hm; exact absurd (hlt p (List.mem_append_right _ hp)) (by rw [hm]; exact Nat.lt_irrefl _)
theorem at_new {α : List Addr} {a : Addr} : (α ++ [a])[α.length]? = some a := by simp
theorem EV.list {es : List Expr} (h : AR g lv fd es μ σ rs σ₁) (hl : rs.length ≤ 1000) : EV g lv fd (.List es pos) μ σ (.ref σ₁.length) (σ₁ ++ [.list rs]) := by
  intro c m α s Q E A F M S k
  refine List_ (h.2 c m α s _ E pos A F M S fun vs α' h' tk' x i F' S' => ?_)
  have hv := i.len
  refine wpAny_newObj_type (T := "list") (data := .seq vs.toArray) (dict := none) (k _ (α' ++ [h'.objs.size]) _ _ (x.trans (List.prefix_append _ _)) ⟨_, ?_, rfl⟩ (F'.push _) (S'.new F' rfl ⟨vs, 0, rfl, i.ext (List.prefix_append _ _)⟩)) ?_
  · rw [← S'.len]; exact at_new
  · show vs.toArray.size ≤ sizeLine; rw [List.size_toArray, sizeLine_eq]; omega
theorem EV.tuple {es : List Expr} {n : Nat} (h : AR g lv fd es μ σ rs σ₁) (hl : rs.length ≤ 1000) : EV g lv fd (.Tuple es n pos) μ σ (.ref σ₁.length) (σ₁ ++ [.tup rs]) := by
  intro c m α s Q E A F M S k
  refine Tuple_ (h.2 c m α s _ E pos A F M S fun vs α' h' tk' x i F' S' => ?_)
  have hv := i.len
  refine wpAny_newObj_type (T := "tuple") (data := .seq vs.toArray) (dict := none) (k _ (α' ++ [h'.objs.size]) _ _ (x.trans (List.prefix_append _ _)) ⟨_, ?_, rfl⟩ (F'.push _) (S'.new F' rfl ⟨vs, 0, rfl, i.ext (List.prefix_append _ _)⟩)) ?_
  · rw [← S'.len]; exact at_new
  · show vs.toArray.size ≤ sizeLine; rw [List.size_toArray, sizeLine_eq]; omega

/-- an item -/
theorem EV.sub {a b : Expr} (h : EV g lv fd a μ σ r₁ σ₁) (h' : EV g lv fd b μ σ₁ r₂ σ₂) (ho : OP2 g σ₂ (subscriptTail a b) r₁ r₂ r) : EV g lv fd (.Subscript a b pos) μ σ r σ₂ := by
  intro c m α s Q E A F M S k
  refine Subscript_ (h c m α s _ E A F M S fun v₁ α₁ h₁ tk₁ x₁ i₁ F₁ S₁ => ?_)
  refine h' c m α₁ _ _ E A F₁ (M.ext x₁) S₁ fun v₂ α₂ h₂ tk₂ x₂ i₂ F₂ S₂ => ?_
  exact ho c lv fd m α₂ _ Q E v₁ v₂ A F₂ S₂ (i₁.ext x₂) i₂ fun v hp tk₃ i₃ F₃ S₃ => k v α₂ hp tk₃ (x₁.trans x₂) i₃ F₃ S₃
theorem OP2.item {a b : Expr} {i : Nat} {k : Int} (e : σ[i]? = some (.list xs)) (h0 : 0 ≤ k) (hk : xs[k.toNat]? = some r) (hl : xs.length < 1000000) (hs : ∀ o i, subscripted b false o i = operate [o, i] (getItem o i)) : OP2 g σ (subscriptTail a b) (.ref i) (.int k) r := by
  rintro c lv fd m α s Q E _ _ A F S ⟨ad, ea, rfl⟩ ⟨t, rfl⟩ q
  obtain ⟨a', o', x, y, z, _⟩ := S.get e
  rw [ea] at x; cases x
  obtain ⟨vs, n, rfl, I⟩ := y
  obtain ⟨v, hv, iv⟩ := I.get hk
  have hL : s.heap.IsList ad vs.toArray := ⟨_, z, rfl, n, rfl⟩
  have hlt : k.toNat < xs.length := (List.getElem?_eq_some_iff.mp hk).1
  exact tail_any hL.typeIs slot_list_getitem.lookup (wpAny_getItem_list hL h0 (by omega) (by simpa using hv) (q v s.heap s.toks iv F S)) (hs _ _)
theorem OP2.itemT {a b : Expr} {i : Nat} {k : Int} (e : σ[i]? = some (.tup xs)) (h0 : 0 ≤ k) (hk : xs[k.toNat]? = some r) (hl : xs.length < 1000000) (hs : ∀ o i, subscripted b false o i = operate [o, i] (getItem o i)) : OP2 g σ (subscriptTail a b) (.ref i) (.int k) r := by
  rintro c lv fd m α s Q E _ _ A F S ⟨ad, ea, rfl⟩ ⟨t, rfl⟩ q
  obtain ⟨a', o', x, y, z, _⟩ := S.get e
  rw [ea] at x; cases x
  obtain ⟨vs, n, rfl, I⟩ := y
  obtain ⟨v, hv, iv⟩ := I.get hk
  have hlt : k.toNat < xs.length := (List.getElem?_eq_some_iff.mp hk).1
  have hn := I.len
  refine item_tupleT (l := vs) (j := k.toNat) ⟨_, z, rfl, n, rfl⟩ (by omega) (by omega) ?_ hv (q v s.heap s.toks iv F S) (hs _ _)
  unfold seqIndex?
  have : ¬ k < 0 := by omega
  simp only [this, if_false]
  rw [if_pos (by simp only [Bool.and_eq_true, decide_eq_true_eq]; omega)]
/-- the last item: xs[-1] -/
theorem OP2.last {a b : Expr} {i : Nat} (e : σ[i]? = some (.list (xs ++ [r]))) (hl : xs.length < 1000000) (hs : ∀ o i, subscripted b false o i = operate [o, i] (getItem o i)) : OP2 g σ (subscriptTail a b) (.ref i) (.int (-1)) r := by
  rintro c lv fd m α s Q E _ _ A F S ⟨ad, ea, rfl⟩ ⟨t, rfl⟩ q
  obtain ⟨a', o', x, y, z, _⟩ := S.get e
  rw [ea] at x; cases x
  obtain ⟨vs, n, rfl, I⟩ := y
  have hn := I.len
  simp at hn
  obtain ⟨v, hv, iv⟩ := I.get (i := xs.length) (r := r) (by simp)
  have hL : s.heap.IsList ad vs.toArray := ⟨_, z, rfl, n, rfl⟩
  refine tail_any hL.typeIs slot_list_getitem.lookup (wpAny_getItem_list_neg hL (by decide) (by rw [List.size_toArray]; omega) (by decide) ?_ (q v s.heap s.toks iv F S)) (hs _ _)
  rw [List.size_toArray]
  have : ((-1 : Int) + (vs.length : Int)).toNat = xs.length := by omega
  rw [this]; simpa using hv
/-- the script's item -/
theorem OP2.scr {a b : Expr} {k : Int} (h0 : 0 ≤ k) (hk : k < g.ns.length) (hs : ∀ o i, subscripted b false o i = operate [o, i] (getItem o i)) : OP2 g σ (subscriptTail a b) .scr (.int k) (.int (g.ns.getD k.toNat 0)) := by
  rintro c lv fd m α s Q E _ _ A F S rfl ⟨t, rfl⟩ q
  obtain ⟨vs, hl, hi⟩ := A.scr
  have hL : s.heap.IsList c.lS vs.toArray := hl.at fun o e => F.keep _ _ (A.B.stays _ _ e)
  have hlt : k.toNat < g.ns.length := by omega
  obtain ⟨u, hx⟩ := hi.get k.toNat g.ns[k.toNat] (by simp [hlt])
  refine tail_any hL.typeIs slot_list_getitem.lookup (wpAny_getItem_list hL h0 (by have := A.fit; omega) (by simpa using hx) (q _ s.heap s.toks ⟨u, ?_⟩ F S)) (hs _ _)
  rw [List.getD_eq_getElem?_getD, List.getElem?_eq_getElem hlt]; rfl
theorem CL.lenScr : CL g lv (.builtin "len") [.scr] σ (.int g.ns.length) σ := by
  intro c fd m α s Q E vs A F S hkd I k
  obtain _ | ⟨rfl, _ | _⟩ := I
  obtain ⟨vs, hl, hi⟩ := A.scr
  have hL : s.heap.IsList c.lS vs.toArray := hl.at fun o e => F.keep _ _ (A.B.stays _ _ e)
  have hn := hi.length
  have hf := A.fit
  have e : ((vs.toArray.size : Nat) : Int) = g.ns.length := by rw [List.size_toArray, hn]
  refine call_len_list hL (by rw [List.size_toArray]; omega) ?_
  rw [e]
  exact k _ α s.heap _ (List.prefix_refl _) ⟨_, rfl⟩ F S
theorem CL.len {i : Nat} (e : σ[i]? = some (.list xs)) (hl : xs.length < 1000000) : CL g lv (.builtin "len") [.ref i] σ (.int xs.length) σ := by
  intro c fd m α s Q E vs A F S hkd I k
  obtain _ | ⟨⟨ad, ea, rfl⟩, _ | _⟩ := I
  obtain ⟨a', o', x, y, z, _⟩ := S.get e
  rw [ea] at x; cases x
  obtain ⟨vs, n, rfl, I⟩ := y
  have hn := I.len
  have e : ((vs.toArray.size : Nat) : Int) = xs.length := by rw [List.size_toArray, hn]
  refine call_len_list ⟨_, z, rfl, n, rfl⟩ (by rw [List.size_toArray]; omega) ?_
  rw [e]
  exact k _ α s.heap _ (List.prefix_refl _) ⟨_, rfl⟩ F S
theorem CL.abs {i : Int} : CL g lv (.builtin "abs") [.int i] σ (.int (if i < 0 then -i else i)) σ := by
  intro c fd m α s Q E vs A F S hkd I k
  obtain _ | ⟨⟨t, rfl⟩, _ | _⟩ := I
  exact call_abs_int fun u tk => k _ α s.heap tk (List.prefix_refl _) ⟨_, rfl⟩ F S
theorem CL.min {i j : Int} : CL g lv (.builtin "min") [.int i, .int j] σ (.int (if j < i then j else i)) σ := by
  intro c fd m α s Q E vs A F S hkd I k
  obtain _ | ⟨⟨t, rfl⟩, _ | ⟨⟨u, rfl⟩, _ | _⟩⟩ := I
  exact min_two_N rfl F S.news fun h' tk F' N' => k _ α h' tk (List.prefix_refl _) ⟨_, rfl⟩ F' (S.ofNews N')
theorem CL.max {i j : Int} : CL g lv (.builtin "max") [.int i, .int j] σ (.int (if j > i then j else i)) σ := by
  intro c fd m α s Q E vs A F S hkd I k
  obtain _ | ⟨⟨t, rfl⟩, _ | ⟨⟨u, rfl⟩, _ | _⟩⟩ := I
  exact max_two_N rfl F S.news fun h' tk F' N' => k _ α h' tk (List.prefix_refl _) ⟨_, rfl⟩ F' (S.ofNews N')

/-! a made thing: its attributes and methods -/
theorem inst_at {c : Cfg} {s : Shared} {α : List Addr} (S : Sto g c s.heap α σ) {i d : Nat} {C : Addr} {fs : List (Str × PV)} (e : σ[i]? = some (.inst C d)) (e' : σ[d]? = some (.ns fs)) :
    ∃ ad dx es n, α[i]? = some ad ∧ α[d]? = some dx ∧ PySem.W.InstAt s.heap ad (instObj C dx) C (some (dictOf es n)) ∧ Fields c.lS α fs es := by
  obtain ⟨ad, o', x, y, z, _⟩ := S.get e
  obtain ⟨dx, ed, rfl⟩ := y
  obtain ⟨dx', o'', x', y', z', _⟩ := S.get e'
  rw [ed] at x'; cases x'
  obtain ⟨es, n, rfl, fi, _⟩ := y'
  exact ⟨ad, dx, es, n, x, ed, ⟨z, rfl, rfl, z'⟩, fi⟩
theorem EV.attr {a : Expr} {i d : Nat} {C : Addr} {fs : List (Str × PV)} {name : Str} (h : EV g lv fd a μ σ (.ref i) σ₁) (e : σ₁[i]? = some (.inst C d)) (e' : σ₁[d]? = some (.ns fs)) (ef : fs.lookup name = some r)
    {attr : Option Value} (k₁ : plainGet g.K C name = true) (k₂ : hasDictIn g.K C = true) (k₃ : findIn g.K (.ref C) name = some attr) (k₄ : noGet g.K attr = true) (hh : ∀ lS α v, Is lS α r v → handedIn v = true)
    (he : ∀ env, eval (.Attribute a name pos) env = (do let o ← eval a env; standAt pos.atName; let r ← holding [o] (getAttr o name true); letTemporaryGo a o r; pure r)) : EV g lv fd (.Attribute a name pos) μ σ r σ₁ := by
  intro c m α s Q E A F M S k
  refine Attribute_any_ (h c m α s _ E A F M S fun v₁ α₁ h₁ tk₁ x₁ i₁ F₁ S₁ => ?_) (he _)
  obtain ⟨ad, ea, rfl⟩ := i₁
  obtain ⟨ad', dx, es, n, ea', ed, I, fi⟩ := inst_at (s := { s with heap := h₁, toks := tk₁ }) S₁ e e'
  rw [ea] at ea'; cases ea'
  obtain ⟨v, gl, iv⟩ := fi.get ef
  exact get_own F₁ A.X I k₁ k₂ k₃ k₄ gl (hh _ _ _ iv) (k v α₁ h₁ _ x₁ iv F₁ S₁)
theorem GM.inst {i d : Nat} {C f : Addr} {fs : List (Str × PV)} {name : Str} (e : σ[i]? = some (.inst C d)) (e' : σ[d]? = some (.ns fs)) (ef : fs.lookup name = none)
    (k₁ : plainGet g.K C name = true) (k₂ : findIn g.K (.ref C) name = some (some (.ref f))) (k₃ : isFn g.K (.ref f) = true) : GM g σ (.ref i) name (.ref f) := by
  rintro c lv fd m α s Q E _ pl A F S ⟨ad, ea, rfl⟩ q
  obtain ⟨ad', dx, es, n, ea', ed, I, fi⟩ := inst_at S e e'
  rw [ea] at ea'; cases ea'
  exact method_inst F A.X I k₁ k₂ k₃ (fi.miss ef) q

/-! lists: their methods -/
theorem GM.list {i : Nat} {name : Str} {id : String} (slot : Slot "list" name id) (hty : typeOf (.builtin id) = pure (.type "method_descriptor")) (e : σ[i]? = some (.list xs)) : GM g σ (.ref i) name (.builtin id) := by
  rintro c lv fd m α s Q E _ pl A F S ⟨ad, ea, rfl⟩ q
  obtain ⟨a', o', x, y, z, _⟩ := S.get e
  rw [ea] at x; cases x
  obtain ⟨vs, n, rfl, I⟩ := y
  exact getMethod_list_of slot hty ⟨_, z, rfl, n, rfl⟩ ⟨_, z, rfl⟩ q
theorem CL.append {i : Nat} (e : σ[i]? = some (.list xs)) (hl : xs.length < 1000000) : CL g lv (.builtin "list.append") [.ref i, r] σ .none (σ.set i (.list (xs ++ [r]))) := by
  intro c fd m α s Q E vs A F S hkd I k
  obtain _ | ⟨⟨ad, ea, rfl⟩, _ | ⟨i₂, _ | _⟩⟩ := I
  rename_i v
  obtain ⟨a', o', x, y, z, n', f'⟩ := S.get e
  rw [ea] at x; cases x
  obtain ⟨us, n, rfl, I⟩ := y
  have hn := I.len
  refine append_at (hsz := by rw [List.size_toArray, sizeLine_eq]; omega) z fun h' hs ho' => ?_
  refine k _ α h' _ (List.prefix_refl _) rfl (F.change hs n' f') (S.set_at ea hs ho' ?_)
  exact ⟨us ++ [v], n + 1, by simp, I.append (.one i₂)⟩
theorem Iss.snoc {lS : Addr} {α : List Addr} : ∀ {xs : List PV} {us : List Value}, Iss lS α (xs ++ [r]) us → ∃ p v, us = p ++ [v] ∧ Iss lS α xs p ∧ Is lS α r v
  | [], _, .cons i .nil => ⟨[], _, rfl, .nil, i⟩
  | x :: xs, _, .cons i is => let ⟨p, v, e, j, k⟩ := Iss.snoc (xs := xs) is; ⟨_ :: p, v, by rw [e]; rfl, .cons i j, k⟩
theorem CL.pop {i : Nat} (e : σ[i]? = some (.list (xs ++ [r]))) (hl : xs.length < 1000000) : CL g lv (.builtin "list.pop") [.ref i] σ r (σ.set i (.list xs)) := by
  intro c fd m α s Q E vs A F S hkd I k
  obtain _ | ⟨⟨ad, ea, rfl⟩, _ | _⟩ := I
  obtain ⟨a', o', x, y, z, n', f'⟩ := S.get e
  rw [ea] at x; cases x
  obtain ⟨us, n, rfl, I⟩ := y
  obtain ⟨p, v, rfl, Ip, iv⟩ := I.snoc
  have hn := Ip.len
  have hk : (p ++ [v]).toArray.size - 1 = p.length := by rw [List.size_toArray, List.length_append]; rfl
  have hy : (p ++ [v]).toArray[(p ++ [v]).toArray.size - 1]? = some v := by rw [hk]; simp
  refine call_meets PySem.F.slot_list_pop ⟨_, z, rfl⟩ PySem.F.entry_list_pop (PySem.F.args_list_pop_1 _) (PySem.MeetsSeq.list_pop_last ad _ n v hy (by rw [List.size_toArray, List.length_append, sizeLine_eq]; simp; omega)) ⟨z, ?_⟩
  have go := PySem.IsL.update z (fun xs => xs.eraseIdxIfInBounds ((p ++ [v]).toArray.size - 1))
  have hs : Heap.SameBut ad s.heap (s.heap.update ad (Obj.mapSeq fun xs => xs.eraseIdxIfInBounds ((p ++ [v]).toArray.size - 1))) := Heap.SameBut.update ..
  have e2 : (p ++ [v]).toArray.eraseIdxIfInBounds ((p ++ [v]).toArray.size - 1) = p.toArray := by rw [hk, kl_erase, List.append_nil]
  rw [e2] at go
  exact k _ α _ _ (List.prefix_refl _) iv (F.change hs n' f') (S.set_at ea hs go ⟨p, _, rfl, Ip⟩)
end
end Mine
end
section
open PySem PySem.W PySem.Spec PySem.Calls PyProof.Rows
namespace Mine
/-! for loops -/
abbrev Cfg.more (c : Cfg) (I : Addr) (o : Obj) : Cfg := { c with rest := (I, o) :: c.rest }
section
variable {g : G} {lv : Nat} {fd : FD} {μ μ' μ₁ μ₂ : Loc} {σ σ' σ₁ σ₂ σ₃ : List AObj} {r r₀ r₁ r₂ : PV} {rs xs : List PV} {pos pos' px : Pos} {o : Out} {c : Cfg} {h h' : Heap} {α : List Addr} {m : Str → Option Value} {I : Addr}

theorem Amb.more (A : Amb g lv c) {ob : Obj} : Amb g lv (c.more I ob) := ⟨A.B, A.X, A.T, A.scr, A.fit, A.hd, A.hu⟩
theorem MR.more (M : MR c fd α m μ) (hc : fd.comp = none) {ob : Obj} : MR (c.more I ob) fd α m μ :=
  ⟨let ⟨nm, q, k⟩ := M.loc; ⟨nm, by rw [hc] at q ⊢; exact q, k⟩, M.cel, M.cmp⟩
theorem MR.less {ob : Obj} (M : MR (c.more I ob) fd α m μ) (hc : fd.comp = none) : MR c fd α m μ :=
  ⟨let ⟨nm, q, k⟩ := M.loc; ⟨nm, by rw [hc] at q ⊢; exact q, k⟩, M.cel, M.cmp⟩
theorem Sto.more (S : Sto g c h α σ) {ob : Obj} (e : h.get? I = some ob) (n : I ≠ c.L) (f : c.h₀.get? I = none) (a : I ∉ α) : Sto g (c.more I ob) h α σ :=
  ⟨S.len, S.at_, S.nd, fun p hp => by rcases List.mem_cons.mp hp with rfl | hp; exact ⟨e, n, f⟩; exact S.rest p hp, fun p hp => by rcases List.mem_cons.mp hp with rfl | hp; exact a; exact S.off p hp⟩
theorem Sto.less {ob : Obj} (S : Sto g (c.more I ob) h α σ) : Sto g c h α σ := ⟨S.len, S.at_, S.nd, fun p hp => S.rest p (.tail _ hp), fun p hp => S.off p (.tail _ hp)⟩
theorem Sto.but (S : Sto g c h α σ) (k : ∀ b o, b ≠ I → h.get? b = some o → h'.get? b = some o) (a : I ∉ α) (nr : ∀ p ∈ c.rest, p.1 ≠ I) : Sto g c h' α σ :=
  ⟨S.len, fun i ao e => let ⟨b, o, x, y, z, q⟩ := S.at_ i ao e; ⟨b, o, x, y, k b o (fun w => a (w ▸ List.mem_of_getElem? x)) z, q⟩, S.nd, fun p hp => ⟨k _ _ (nr p hp) (S.rest p hp).1, (S.rest p hp).2⟩, S.off⟩

/-- an iterator: what it stands at -/
structure It (g : G) (I : Addr) (lS : Addr) (xs : List PV) (P : Nat → Obj → Prop) (kp : List Addr → List AObj → Prop) : Prop where
  next : ∀ (c : Cfg) (fd : FD) (lv : Nat) (m : Str → Option Value) (α : List Addr) (σ : List AObj) (s : Shared) (Q : Option Value → Shared → Prop) (E : Value → Shared → Prop) (i : Nat) (r : PV) (ob : Obj),
    c.lS = lS → Amb g lv c → Fr c.h₀ c.L s.heap m → Sto g c s.heap α σ → kp α σ → s.heap.get? I = some ob → P i ob → xs[i]? = some r → I ∉ α →
    (∀ v h' tk ob', Is c.lS α r v → Heap.SameBut I s.heap h' → h'.get? I = some ob' → P (i + 1) ob' → Q (some v) { s with heap := h', toks := tk }) → wpAny (model g.prog g.w) (c.ar fd) (pyNext (.ref I)) Q E s
  fin : ∀ (c : Cfg) (fd : FD) (lv : Nat) (m : Str → Option Value) (α : List Addr) (σ : List AObj) (s : Shared) (Q : Option Value → Shared → Prop) (E : Value → Shared → Prop) (ob : Obj),
    Amb g lv c → Fr c.h₀ c.L s.heap m → Sto g c s.heap α σ → kp α σ → s.heap.get? I = some ob → P xs.length ob →
    (∀ h' tk, (∀ b o, b ≠ I → s.heap.get? b = some o → h'.get? b = some o) → Q none { s with heap := h', toks := tk }) → wpAny (model g.prog g.w) (c.ar fd) (pyNext (.ref I)) Q E s
  self : ∀ (A : Around) (s : Shared) (Q : Value → Shared → Prop) (E : Value → Shared → Prop) (i : Nat) (ob : Obj), s.heap.get? I = some ob → P i ob → Q (.ref I) s → wpAny (model g.prog g.w) A (pyIter (.ref I)) Q E s

abbrev Bnd := PV → Loc → List AObj → Loc × List AObj
/-- the turns of a loop -/
noncomputable def Loop (g : G) (lv : Nat) (fd : FD) (body : List Stmt) (bnd : Bnd) (keep : List AObj → Prop) : List PV → Loc → List AObj → Out → Loc → List AObj → Prop
  | [], μ, σ, o, μ', σ' => o = .next ∧ μ' = μ ∧ σ' = σ
  | v :: vs, μ, σ, o, μ', σ' => ∃ o₁ μ₁ σ₁, EX g lv fd body (bnd v μ σ).1 (bnd v μ σ).2 o₁ μ₁ σ₁ ∧ (match o₁ with | .ret r => o = .ret r ∧ μ' = μ₁ ∧ σ' = σ₁ | _ => keep σ₁ ∧ Loop g lv fd body bnd keep vs μ₁ σ₁ o μ' σ')
def BIND (g : G) (fd : FD) (x : Str) (bnd : Bnd) (keep : List AObj → Prop) : Prop :=
  ∀ (c : Cfg) (m : Str → Option Value) (α : List Addr) (s : Shared) (Q : Unit → Shared → Prop) (E : Value → Shared → Prop) (v : Value) (r : PV) (μ : Loc) (σ : List AObj),
    Fr c.h₀ c.L s.heap m → MR c fd α m μ → Sto g c s.heap α σ → keep σ → Is c.lS α r v →
    (∀ m' h' tk', Fr c.h₀ c.L h' m' → MR c fd α m' (bnd r μ σ).1 → Sto g c h' α (bnd r μ σ).2 → Q () { s with heap := h', toks := tk' }) → wpAny (model g.prog g.w) (c.ar fd) (storeName (c.env fd) x v) Q E s
abbrev bndL (x : Str) : Bnd := fun r μ σ => ((x, r) :: μ, σ)
abbrev bndC (j : Nat) : Bnd := fun r μ σ => (μ, σ.set j (.cell (some r)))
theorem BIND.loc {x : Str} {keep : List AObj → Prop} (hc : fd.comp = none) (hl : fd.sc.names.lookup x = some .local) (hk : fd.sc.kind = .function) : BIND g fd x (bndL x) keep :=
  fun c m α s Q E v r μ σ F M S _ i k => store_ hc hl hk F M S i k
theorem BIND.cel {x : Str} {j : Nat} {keep : List AObj → Prop} (e : fd.ix.lookup x = some j) (e' : ∀ σ, keep σ → ∃ r₀, σ[j]? = some (.cell r₀)) (hl : fd.sc.names.lookup x = some .cell) (hk : fd.sc.kind = .function) : BIND g fd x (bndC j) keep :=
  fun c m α s Q E v r μ σ F M S q i k => let ⟨_, w⟩ := e' σ q; storeC_ e w hl hk F M S i fun h' tk' F' S' => k m h' tk' F' M S'

def FInv (g : G) (lv : Nat) (fd : FD) (c : Cfg) (s : Shared) (body : List Stmt) (bnd : Bnd) (keep : List AObj → Prop) (xs : List PV) (P : Nat → Obj → Prop) (I : Addr) (α : List Addr) (o : Out) (μ' : Loc) (σ' : List AObj) (n : Nat) (s' : Shared) : Prop :=
  ∃ zs ys h' tk m₁ α₁ μ₁ σ₁ ob, s' = { s with heap := h', toks := tk } ∧ xs = zs ++ ys ∧ n = ys.length ∧ α <+: α₁ ∧ Fr c.h₀ c.L h' m₁ ∧ MR c fd α₁ m₁ μ₁ ∧ Sto g c h' α₁ σ₁ ∧ I ∉ α₁ ∧ h'.get? I = some ob ∧ P zs.length ob ∧ keep σ₁ ∧ Loop g lv fd body bnd keep ys μ₁ σ₁ o μ' σ'
abbrev Nxt (g : G) (lv : Nat) (fd : FD) (body : List Stmt) (bnd : Bnd) (keep : List AObj → Prop) (vs : List PV) (μ₁ : Loc) (σ₁ : List AObj) (o : Out) (μ' : Loc) (σ' : List AObj) (o₁ : Out) : Prop :=
  match o₁ with | .ret r => o = .ret r ∧ μ' = μ₁ ∧ σ' = σ₁ | _ => keep σ₁ ∧ Loop g lv fd body bnd keep vs μ₁ σ₁ o μ' σ'
theorem for_gen {x : Str} {body : List Stmt} {P : Nat → Obj → Prop} {kp : List Addr → List AObj → Prop} {bnd : Bnd} {keep : List AObj → Prop} {s : Shared} {R : Result → Shared → Prop} {ob : Obj} (hI : It g I c.lS xs P kp) (hb : BIND g fd x bnd keep) (hc : fd.comp = none)
    (hkp : ∀ α' σ', α <+: α' → keep σ' → kp α' σ') (A : Amb g lv c) (F : Fr c.h₀ c.L s.heap m) (M : MR c fd α m μ) (S : Sto g c s.heap α σ) (ha : I ∉ α) (hL : I ≠ c.L) (h0 : c.h₀.get? I = none) (hr : ∀ p ∈ c.rest, p.1 ≠ I)
    (e : s.heap.get? I = some ob) (p0 : P 0 ob) (k0 : keep σ) (lp : Loop g lv fd body bnd keep xs μ σ o μ' σ')
    (k : ∀ f m' α' h' tk', α <+: α' → OutIs c.lS α' o f → Fr c.h₀ c.L h' m' → MR c fd α' m' μ' → Sto g c h' α' σ' → R (.ok f) { s with heap := h', toks := tk' }) :
    codeAny (model g.prog g.w) (c.ar fd) (.forLoop (.Name x px) (.ref I) body [] (c.env fd)) R s := by
  refine codeAny_forLoop (FInv g lv fd c s body bnd keep xs P I α o μ' σ') ?_ xs.length ⟨[], xs, s.heap, s.toks, m, α, μ, σ, ob, rfl, rfl, rfl, List.prefix_refl _, F, M, S, ha, e, p0, k0, lp⟩
  rintro n s' ⟨zs, ys, h₁, tk, m₁, α₁, μ₁, σ₁, ob, rfl, ex, rfl, x₁, F₁, M₁, S₁, a₁, e₁, p₁, k₁, l₁⟩
  have fr : ∀ h₂ : Heap, (∀ b o, b ≠ I → h₁.get? b = some o → h₂.get? b = some o) → Fr c.h₀ c.L h₂ m₁ := fun h₂ kk =>
    LCg.fr_but F₁ (fun b o hb => kk b o (by simpa using hb)) (Ne.symm hL) h0
  cases ys with
  | nil =>
    refine hI.fin c fd lv m₁ α₁ σ₁ _ _ _ ob A F₁ S₁ (hkp _ _ x₁ k₁) e₁ (by rw [ex, List.append_nil]; exact p₁) fun h₂ tk₂ kk => wpAny_execs_nil ?_
    obtain ⟨rfl, rfl, rfl⟩ := l₁
    exact k .next m₁ α₁ h₂ tk₂ x₁ rfl (fr h₂ kk) M₁ (S₁.but kk a₁ hr)
  | cons v vs =>
    refine hI.next c fd lv m₁ α₁ σ₁ _ _ _ zs.length v ob rfl A F₁ S₁ (hkp _ _ x₁ k₁) e₁ p₁ (by rw [ex]; simp) a₁ fun u h₂ tk₂ ob' iu hs eb pb => ?_
    have kk : ∀ b o, b ≠ I → h₁.get? b = some o → h₂.get? b = some o := fun b o hb q => (hs.2 b hb).trans q
    obtain ⟨o₁, μ₂, σ₂, ex₂, l₂⟩ := l₁
    replace l₂ : Nxt g lv fd body bnd keep vs μ₂ σ₂ o μ' σ' o₁ := l₂
    refine wpAny_assign_Name (hb (c.more I ob') m₁ α₁ { s with heap := h₂, toks := tk₂ } _ _ u v μ₁ σ₁ (fr h₂ kk) (M₁.more hc) ((S₁.but kk a₁ hr).more eb hL h0 a₁) k₁ iu fun m₃ h₃ tk₃ F₃ M₃ S₃ => ?_)
    refine ex₂ (c.more I ob') m₃ α₁ _ _ _ A.more F₃ M₃ S₃ fun f m₄ α₄ h₄ tk₄ x₄ i₄ F₄ M₄ S₄ => ?_
    have nx : keep σ₂ ∧ Loop g lv fd body bnd keep vs μ₂ σ₂ o μ' σ' → ∃ n', n' < (v :: vs).length ∧ FInv g lv fd c s body bnd keep xs P I α o μ' σ' n' { s with heap := h₄, toks := tk₄ } := fun q' =>
      ⟨vs.length, Nat.lt_succ_self _, zs ++ [v], vs, h₄, tk₄, m₄, α₄, μ₂, σ₂, ob', rfl, by rw [ex]; simp, rfl, x₁.trans x₄, F₄, M₄.less hc, S₄.less, S₄.off _ (.head _), (S₄.rest _ (.head _)).1, by simpa using pb, q'.1, q'.2⟩
    cases o₁ with
    | next => cases i₄; exact nx l₂
    | cont => cases i₄; exact nx l₂
    | ret r => obtain ⟨v', rfl, iv⟩ := i₄; obtain ⟨rfl, rfl, rfl⟩ := l₂; exact k _ m₄ α₄ h₄ tk₄ (x₁.trans x₄) ⟨v', rfl, iv⟩ F₄ (M₄.less hc) S₄.less

/-! iterators -/
theorem It.list {j l : Nat} {lS : Addr} (hne : I ≠ l) (hl : xs.length < 1000000) : It g I lS xs (fun i o => o.cls = .type "list_iterator" ∧ o.data = .fields #[.ref l, .int i 0]) (fun α σ => α[j]? = some l ∧ σ[j]? = some (.list xs)) where
  next := by
    rintro c fd lv m α σ s Q E i r ob rfl A F S ⟨ej, es⟩ e p hx ha k
    obtain ⟨a', o', x, y, z, _⟩ := S.get es
    rw [ej] at x; cases x
    obtain ⟨vs, n, rfl, Iv⟩ := y
    obtain ⟨v, hv, iv⟩ := Iv.get hx
    exact wpAny_pyNext_list_item ⟨ob, e, p⟩ ⟨_, z, rfl, n, rfl⟩ (by simpa using hv) fun h' ⟨ob', e', p'⟩ hs => k v h' s.toks ob' iv hs e' p'
  fin := by
    rintro c fd lv m α σ s Q E ob A F S ⟨ej, es⟩ e p k
    obtain ⟨a', o', x, y, z, _⟩ := S.get es
    rw [ej] at x; cases x
    obtain ⟨vs, n, rfl, Iv⟩ := y
    have hn := Iv.len
    exact wpAny_pyNext_list_end rfl ⟨ob, e, p⟩ ⟨_, z, rfl, n, rfl⟩ (by rw [← hn]; simp) fun h' he => k h' s.toks he
  self := fun A s Q E i ob e p q => wpAny_pyIter_listiter ⟨ob, e, p⟩ q
abbrev rInts (a b : Int) : List PV := (List.range (b - a).toNat).map fun (i : Nat) => .int (a + (i : Int))
theorem It.range {lS : Addr} {a b : Int} : It g I lS (rInts a b) (fun i o => o = { cls := .type "range_iterator", dict := none, data := .fields #[rawInt (a + (i : Nat) * 1), rawInt (((b - a).toNat : Nat) - (i : Nat) : Int), rawInt 1], slots := #[] }) (fun _ _ => True) where
  next := by
    rintro c fd lv m α σ s Q E i r ob rfl A F S _ e rfl hx ha k
    have hi : i < (b - a).toNat := by have := (List.getElem?_eq_some_iff.mp hx).1; simpa using this
    have hr : r = .int (a + (i : Int)) := by simp [hi] at hx; exact hx.symm
    subst hr
    refine wpAny_pyNext_range_item e (by omega) fun h' e' hs => k _ h' _ _ ⟨s.toks, by rw [Int.mul_one]⟩ hs e' ?_
    have e1 : a + ((i + 1 : Nat) : Int) * 1 = a + (i : Int) * 1 + 1 := by push_cast; omega
    have e2 : ((b - a).toNat : Int) - ((i + 1 : Nat) : Int) = ((b - a).toNat : Int) - (i : Int) - 1 := by push_cast; omega
    rw [e1, e2]
  fin := by
    rintro c fd lv m α σ s Q E ob A F S _ e rfl k
    exact wpAny_pyNext_range_end rfl e (by simp) fun h' he => k h' s.toks he
  self := fun A s Q E i ob e p q => by subst p; exact wpAny_pyIter_rangeiter e q

theorem Sto.lt (S : Sto g c h α σ) {a : Addr} (ha : a ∈ α) : a < h.objs.size := by
  obtain ⟨i, hi, rfl⟩ := List.getElem_of_mem ha
  obtain ⟨_, o', _, _, z, _⟩ := S.mem (List.getElem?_eq_getElem hi)
  exact Heap.lt_size z
/-- what is gone through -/
def SRC (g : G) (σ : List AObj) (rv : PV) (xs : List PV) (keep : List AObj → Prop) : Prop :=
  ∀ (c : Cfg) (fd : FD) (α : List Addr) (s : Shared) (Q E : Value → Shared → Prop) (v : Value), Sto g c s.heap α σ → Is c.lS α rv v →
    (∀ ob P kp, It g s.heap.objs.size c.lS xs P kp → P 0 ob → ob.isFreed = false → (∀ α' σ', α <+: α' → keep σ' → kp α' σ') → Q (.ref s.heap.objs.size) { s with heap := s.heap.push ob }) → wpAny (model g.prog g.w) (c.ar fd) (pyIter v) Q E s
theorem SRC.list {j : Nat} (e : σ[j]? = some (.list xs)) (hl : xs.length < 1000000) : SRC g σ (.ref j) xs fun σ' => σ'[j]? = some (.list xs) := by
  rintro c fd α s Q E _ S ⟨l, el, rfl⟩ k
  obtain ⟨a', o', x', y, z, n', f'⟩ := S.get e
  rw [el] at x'; cases x'
  obtain ⟨vs, n, rfl, Iv⟩ := y
  exact wpAny_pyIter_list (l := l) ⟨_, z, rfl, n, rfl⟩ (k _ _ _ (It.list (j := j) (Nat.ne_of_gt (S.lt (List.mem_of_getElem? el))) hl) ⟨rfl, rfl⟩ rfl fun α' σ' x' q => ⟨pre_get x' el, q⟩)
theorem SRC.range {j : Nat} {a b : Int} (e : σ[j]? = some (.rng a b)) (hab : -1000000 ≤ a ∧ a < 1000000 ∧ -1000000 ≤ b ∧ b < 1000000) : SRC g σ (.ref j) (rInts a b) fun _ => True := by
  rintro c fd α s Q E _ S ⟨l, el, rfl⟩ k
  obtain ⟨a', o', x', y, z, n', f'⟩ := S.get e
  rw [el] at x'; cases x'
  obtain ⟨t, u, v, rfl⟩ := y
  exact wpAny_pyIter_range (r := l) z (small_one (by omega) (by omega) (by omega) (by omega)) (k _ _ _ It.range (by rw [rangeSize_nat]; simp) rfl fun _ _ _ _ => trivial)
theorem ES.for_ {x : Str} {iter : Expr} {body : List Stmt} {rv : PV} {bnd : Bnd} {keep : List AObj → Prop} (h : EV g lv fd iter μ σ rv σ₁) (sr : SRC g σ₁ rv xs keep) (hc : fd.comp = none) (hb : BIND g fd x bnd keep) (k0 : keep σ₁)
    (lp : Loop g lv fd body bnd keep xs μ σ₁ o μ' σ') (hs : ∀ env x, foldedSetIterable iter env x = pure x) : ES g lv fd (.For (.Name x px) iter body [] pos) μ σ o μ' σ' := by
  intro c m α s Q E A F M S k
  refine wpAny_For (h c m α s _ E A F M S fun v₁ α₁ h₁ tk₁ x₁ i₁ F₁ S₁ => ?_) (hs _)
  refine sr c fd α₁ _ _ E v₁ S₁ i₁ fun ob P kp hI p0 hf hkp => ?_
  exact for_gen hI hb hc hkp A (F₁.push _) (M.ext x₁) (S₁.keeps fun b o e => Heap.get?_push_of_some _ e) (fun hm => Nat.lt_irrefl _ (S₁.lt hm)) (Nat.ne_of_gt F₁.ns.lt) (next_is_new F₁)
    (fun p hp => Nat.ne_of_lt (Heap.lt_size (S₁.rest p hp).1)) (Heap.get?_push_size _ hf) p0 k0 lp fun f m' α' h' tk' x' i' F' M' S' => k f m' α' h' tk' (x₁.trans x') i' F' M' S'
theorem CL.range1 {n : Int} : CL g lv (.type "range") [.int n] σ (.ref σ.length) (σ ++ [.rng 0 n]) := by
  intro c fd m α s Q E vs A F S hkd I k
  obtain _ | ⟨⟨t, rfl⟩, _ | _⟩ := I
  refine call_range_1 (k _ (α ++ [s.heap.objs.size]) _ _ (List.prefix_append _ _) ⟨_, ?_, rfl⟩ (F.push _) (S.new F rfl ⟨_, _, _, rfl⟩))
  rw [← S.len]; exact at_new
theorem CL.range2 {a b : Int} : CL g lv (.type "range") [.int a, .int b] σ (.ref σ.length) (σ ++ [.rng a b]) := by
  intro c fd m α s Q E vs A F S hkd I k
  obtain _ | ⟨⟨t, rfl⟩, _ | ⟨⟨u, rfl⟩, _ | _⟩⟩ := I
  refine call_range_2 (k _ (α ++ [s.heap.objs.size]) _ _ (List.prefix_append _ _) ⟨_, ?_, rfl⟩ (F.push _) (S.new F rfl ⟨_, _, _, rfl⟩))
  rw [← S.len]; exact at_new
end
end Mine
end
section
open PySem PySem.W PySem.Spec PySem.Calls PyProof.Rows
namespace Mine
section
variable {g : G} {lv : Nat} {fd : FD} {μ μ' μ₁ μ₂ : Loc} {σ σ' σ₁ σ₂ σ₃ : List AObj} {r r₀ r₁ r₂ : PV} {rs xs : List PV} {pos pos' px : Pos} {o : Out} {c : Cfg} {h h' : Heap} {α : List Addr} {m : Str → Option Value} {I : Addr}

/-! ints in lists and tuples -/
abbrev pis (ns : List Int) : List PV := ns.map .int
theorem ints_of {lS : Addr} {α : List Addr} : ∀ {ns : List Int} {vs : List Value}, Iss lS α (pis ns) vs → IntsAre vs ns
  | [], _, .nil => .nil
  | n :: ns, _, .cons ⟨t, e⟩ r => e ▸ .cons n t (ints_of r)
theorem of_ints {lS : Addr} {α : List Addr} {vs : List Value} {ns : List Int} (h : IntsAre vs ns) : Iss lS α (pis ns) vs := by
  induction h with
  | nil => exact .nil
  | cons n t _ ih => exact .cons ⟨t, rfl⟩ ih
theorem Sto.list_at (S : Sto g c h α σ) {i : Nat} {a : Addr} (e : σ[i]? = some (.list xs)) (ea : α[i]? = some a) : ∃ vs, h.IsList a (List.toArray vs) ∧ Iss c.lS α xs vs := by
  obtain ⟨a', o', x, y, z, _⟩ := S.get e
  rw [ea] at x; cases x
  obtain ⟨vs, n, rfl, I⟩ := y
  exact ⟨vs, ⟨_, z, rfl, n, rfl⟩, I⟩
theorem Sto.tup_at (S : Sto g c h α σ) {i : Nat} {a : Addr} (e : σ[i]? = some (.tup xs)) (ea : α[i]? = some a) : ∃ vs, IsTup h a (List.toArray vs) ∧ Iss c.lS α xs vs := by
  obtain ⟨a', o', x, y, z, _⟩ := S.get e
  rw [ea] at x; cases x
  obtain ⟨vs, n, rfl, I⟩ := y
  exact ⟨vs, ⟨_, z, rfl, n, rfl⟩, I⟩
theorem OP2.inList {ns : List Int} {i : Nat} {k : Int} (e : σ[i]? = some (.list (pis ns))) : OP2 g σ (compareOp .In) (.int k) (.ref i) (.bool (ns.any (· == k))) := by
  rintro c lv fd m α s Q E _ _ A F S ⟨t, rfl⟩ ⟨a, ea, rfl⟩ q
  obtain ⟨vs, hl, I⟩ := S.list_at e ea
  exact in_list_ints hl (ints_of I) (q _ s.heap s.toks rfl F S)
theorem OP2.inTup {ns : List Int} {i : Nat} {k : Int} (e : σ[i]? = some (.tup (pis ns))) : OP2 g σ (compareOp .In) (.int k) (.ref i) (.bool (ns.any (· == k))) := by
  rintro c lv fd m α s Q E _ _ A F S ⟨t, rfl⟩ ⟨a, ea, rfl⟩ q
  obtain ⟨vs, hl, I⟩ := S.tup_at e ea
  exact in_tuple_ints hl (ints_of I) (q _ s.heap s.toks rfl F S)
theorem CL.minL {ns : List Int} {i : Nat} {M : Int} (e : σ[i]? = some (.list (pis ns))) (h0 : M ∈ ns) (h1 : ∀ a ∈ ns, M ≤ a) : CL g lv (.builtin "min") [.ref i] σ (.int M) σ := by
  intro c fd m α s Q E vs A F S hkd I k
  obtain _ | ⟨⟨a, ea, rfl⟩, _ | _⟩ := I
  obtain ⟨vs, hl, I⟩ := S.list_at e ea
  refine kso_min F S.news hl (ints_of I) (List.length_pos_of_mem h0) rfl fun h' M' t tk F' N' a b => ?_
  have : M' = M := Int.le_antisymm (b _ h0) (h1 _ a)
  subst this
  exact k _ α h' tk (List.prefix_refl _) ⟨_, rfl⟩ F' (S.ofNews N')
theorem CL.maxL {ns : List Int} {i : Nat} {M : Int} (e : σ[i]? = some (.list (pis ns))) (h0 : M ∈ ns) (h1 : ∀ a ∈ ns, a ≤ M) : CL g lv (.builtin "max") [.ref i] σ (.int M) σ := by
  intro c fd m α s Q E vs A F S hkd I k
  obtain _ | ⟨⟨a, ea, rfl⟩, _ | _⟩ := I
  obtain ⟨vs, hl, I⟩ := S.list_at e ea
  refine kso_max F S.news hl (ints_of I) (List.length_pos_of_mem h0) rfl fun h' M' t tk F' N' a b => ?_
  have : M' = M := Int.le_antisymm (h1 _ a) (b _ h0)
  subst this
  exact k _ α h' tk (List.prefix_refl _) ⟨_, rfl⟩ F' (S.ofNews N')
theorem CL.sorted {ns ns' : List Int} {i : Nat} (e : σ[i]? = some (.list (pis ns))) (hl : ns.length < 64) (h0 : ∀ l : List Int, l.Perm ns → l.Pairwise (· ≤ ·) → l = ns') : CL g lv (.builtin "sorted") [.ref i] σ (.ref σ.length) (σ ++ [.list (pis ns')]) := by
  intro c fd m α s Q E vs A F S hkd I k
  obtain _ | ⟨⟨a, ea, rfl⟩, _ | _⟩ := I
  obtain ⟨vs, hl', I⟩ := S.list_at e ea
  refine kso_sorted F S.news hl' (ints_of I) hl fun D vs' l n h' F' N' lt hi _ hp hw _ => ?_
  have := h0 l hp hw
  subst this
  exact k _ (α ++ [D]) h' s.toks (List.prefix_append _ _) ⟨D, by rw [← S.len]; exact at_new, rfl⟩ F' (S.ofNew N' lt ⟨vs', n, rfl, of_ints hi⟩)
theorem CL.listRange {i : Nat} {a b : Int} (e : σ[i]? = some (.rng a b)) (hab : -1000000 ≤ a ∧ a < 1000000 ∧ -1000000 ≤ b ∧ b < 1000000) : CL g lv (.type "list") [.ref i] σ (.ref σ.length) (σ ++ [.list (rInts a b)]) := by
  intro c fd m α s Q E vs A F S hkd I k
  obtain _ | ⟨⟨ad, ea, rfl⟩, _ | _⟩ := I
  obtain ⟨a', o', x, y, z, _⟩ := S.get e
  rw [ea] at x; cases x
  obtain ⟨t, u, v, rfl⟩ := y
  refine call_list_range (n := (b - a).toNat) rfl z (small_one (by omega) (by omega) (by omega) (by omega)) (by rw [rangeSize_nat]) (by omega) fun h' tk acc' c' hk ho hi => ?_
  refine k _ (α ++ [s.heap.objs.size]) h' tk (List.prefix_append _ _) ⟨_, by rw [← S.len]; exact at_new, rfl⟩ (F.keeps hk) (S.push_at F hk (Nat.le_refl _) ho ⟨acc'.toList, c', by simp [W.listOf], ?_⟩)
  obtain ⟨hn, hi⟩ := hi
  have key : ∀ (n : Nat) (l : List Value), l.length = n → (∀ (i : Nat) (v : Value), l[i]? = some v → ∃ t, v = Value.int (a + (i : Int) * 1) t) → Iss c.lS (α ++ [s.heap.objs.size]) ((List.range n).map fun (i : Nat) => PV.int (a + (i : Int))) l := by
    intro n
    induction n with
    | zero => intro l hl _; obtain rfl := List.length_eq_zero_iff.mp hl; exact .nil
    | succ n ih =>
      intro l hl q
      obtain ⟨p, v, rfl⟩ : ∃ p v, l = p ++ [v] := ⟨l.dropLast, l.getLast (by intro e; rw [e] at hl; cases hl), (List.dropLast_concat_getLast _).symm⟩
      have hp : p.length = n := by simpa using hl
      rw [List.range_succ, List.map_append]
      refine (ih p hp fun i w e => q i w ?_).append (.one ?_)
      · have := (List.getElem?_eq_some_iff.mp e).1
        rw [List.getElem?_append_left this]; exact e
      · obtain ⟨t, e⟩ := q n v (by rw [List.getElem?_append_right (by omega)]; simp [hp])
        exact ⟨t, by rw [e, Int.mul_one]⟩
  exact key _ _ (by simpa using hn) (fun i v e => hi i v (by simpa using e))
/-- [False] * n -/
theorem EV.mulL {a b : Expr} {i : Nat} {n : Int} (h₁ : EV g lv fd a μ σ (.ref i) σ₁) (h₂ : EV g lv fd b μ σ₁ (.int n) σ₂) (e : σ₂[i]? = some (.list [r])) (h0 : 0 ≤ n) (h1 : n ≤ 256) : EV g lv fd (.BinOp a .Mult b pos) μ σ (.ref σ₂.length) (σ₂ ++ [.list (List.replicate n.toNat r)]) := by
  intro c m α s Q E A F M S k
  refine wpAny_BinOp (h₁ c m α s _ E A F M S fun v₁ α₁ hp tk x₁ i₁ F₁ S₁ => ?_)
  refine h₂ c m α₁ _ _ E A F₁ (M.ext x₁) S₁ fun v₂ α₂ hp₂ tk₂ x₂ i₂ F₂ S₂ => ?_
  obtain ⟨ad, ea, rfl⟩ := i₁.ext x₂
  obtain ⟨t, rfl⟩ := i₂
  obtain ⟨vs, hl, I⟩ := S₂.list_at e ea
  obtain _ | ⟨iv, _ | _⟩ := I
  rename_i v
  refine KMa.mul F₂ S₂.news hl (by omega) (by omega) (by simp; omega) (ws := List.replicate n.toNat v) (by rw [List.flatten_replicate_singleton]) fun D h' F' N' lt => ?_
  refine k _ (α₂ ++ [D]) h' _ ((x₁.trans x₂).trans (List.prefix_append _ _)) ⟨D, by rw [← S₂.len]; exact at_new, rfl⟩ F' (S₂.ofNew N' lt ⟨_, 0, rfl, ?_⟩)
  have : ∀ n, Iss c.lS (α₂ ++ [D]) (List.replicate n r) (List.replicate n v) := fun n => by
    induction n with
    | zero => exact .nil
    | succ n ih => exact .cons (iv.ext (List.prefix_append _ _)) ih
  exact this _

/-! dicts from int to int -/
abbrev enI (es : List (Int × Int)) : List (PyData × PyData) := es.map fun p => (PyData.int p.1, PyData.int p.2)
theorem Sto.tab_at (S : Sto g c h α σ) {i : Nat} {a : Addr} {es : List (Int × Int)} (e : σ[i]? = some (.tab es)) (ea : α[i]? = some a) : ∃ o kvs, h.get? a = some o ∧ (a == sysModules) = false ∧ o.IsDictOf (intKind g.prog g.w) kvs ∧ PyProof.V.FlatPairs PyData.int kvs (enI es) ∧ a ≠ c.L ∧ c.h₀.get? a = none := by
  obtain ⟨a', o', x, y, z, q⟩ := S.get e
  rw [ea] at x; cases x
  obtain ⟨n, kvs, D, hd, hf, rfl⟩ := y
  exact ⟨o', kvs, z, n, hd, hf, q⟩
theorem Sto.tab_in (S : Sto g c h α σ) {i : Nat} {a : Addr} {es : List (Int × Int)} (e : σ[i]? = some (.tab es)) (ea : α[i]? = some a) : IntTab g.prog g.w h a (enI es) := by
  obtain ⟨o, kvs, z, n, hd, hf, _⟩ := S.tab_at e ea
  exact ⟨n, kvs, Heap.dictOf_iff.mpr ⟨o, z, hd⟩, hf⟩
theorem tab_lookup (es : List (Int × Int)) (k : Int) : Spec.lookup (PyData.int k) (enI es) = (es.lookup k).map PyData.int := by
  induction es with
  | nil => rfl
  | cons p es ih =>
    obtain ⟨a, b⟩ := p
    rw [List.lookup_cons]
    show (if Spec.same (PyData.int a) (PyData.int k) = true then some (PyData.int b) else Spec.lookup (PyData.int k) (enI es)) = _
    have e : Spec.same (PyData.int a) (PyData.int k) = (k == a) := by
      show (a == k) = (k == a)
      rw [Bool.eq_iff_iff, beq_iff_eq, beq_iff_eq]; exact eq_comm
    rw [e]
    cases k == a with
    | true => rfl
    | false => exact ih
def putI (k v : Int) (es : List (Int × Int)) : List (Int × Int) := if es.any (fun p => p.1 == k) then es.map fun p => if p.1 == k then (p.1, v) else p else es ++ [(k, v)]
theorem putD_int (k v : Int) (es : List (Int × Int)) : PyProof.V.putD (PyData.int k) (PyData.int v) (enI es) = enI (putI k v es) := by
  have e : ∀ a : Int, Spec.same (PyData.int a) (PyData.int k) = (a == k) := fun _ => rfl
  unfold PyProof.V.putD putI
  rw [List.any_map]
  have e2 : (es.any ((fun p => Spec.same p.1 (PyData.int k)) ∘ fun p => (PyData.int p.1, PyData.int p.2))) = es.any fun p => p.1 == k := rfl
  rw [e2]
  split
  · show _ = List.map (fun p : Int × Int => (PyData.int p.1, PyData.int p.2)) (List.map _ es)
    rw [List.map_map, List.map_map]
    refine List.map_congr_left fun p _ => ?_
    show (if Spec.same (PyData.int p.1) (PyData.int k) = true then _ else _) = _
    rw [e]
    show _ = (PyData.int (if (p.1 == k) = true then (p.1, v) else p).1, PyData.int (if (p.1 == k) = true then (p.1, v) else p).2)
    split <;> rfl
  · show _ = List.map (fun p : Int × Int => (PyData.int p.1, PyData.int p.2)) (es ++ [(k, v)])
    rw [List.map_append]; rfl
theorem OP2.inTab {es : List (Int × Int)} {i : Nat} {k : Int} (e : σ[i]? = some (.tab es)) : OP2 g σ (compareOp .In) (.int k) (.ref i) (.bool (es.lookup k).isSome) := by
  rintro c lv fd m α s Q E _ _ A F S ⟨t, rfl⟩ ⟨a, ea, rfl⟩ q
  refine in_intTab (S.tab_in e ea) ?_
  rw [tab_lookup, Option.isSome_map]
  exact q _ s.heap _ rfl F S
theorem GM.get {es : List (Int × Int)} {i : Nat} (e : σ[i]? = some (.tab es)) : GM g σ (.ref i) (Str.ofString "get") (.builtin "dict.get") := by
  rintro c lv fd m α s Q E _ pl A F S ⟨a, ea, rfl⟩ q
  exact getMethod_intTab_get (S.tab_in e ea) q
theorem CL.get2 {es : List (Int × Int)} {i : Nat} {k d : Int} (e : σ[i]? = some (.tab es)) : CL g lv (.builtin "dict.get") [.ref i, .int k, .int d] σ (.int ((es.lookup k).getD d)) σ := by
  intro c fd m α s Q E vs A F S hkd I q
  obtain _ | ⟨⟨a, ea, rfl⟩, _ | ⟨⟨t, rfl⟩, _ | ⟨⟨u, rfl⟩, _ | _⟩⟩⟩ := I
  refine call_get2_intTab (S.tab_in e ea) (PyProof.V.Flat.int _ _) fun v hv => ?_
  rw [tab_lookup] at hv
  have e2 : ((es.lookup k).map PyData.int).getD (PyData.int d) = PyData.int ((es.lookup k).getD d) := by cases es.lookup k <;> rfl
  rw [e2] at hv
  obtain ⟨tf, rfl⟩ := PyProof.V.Flat.int_inv hv
  exact q _ α s.heap _ (List.prefix_refl _) ⟨_, rfl⟩ F S
abbrev ofOpt : Option Int → PV
  | .none => .none
  | .some i => .int i
theorem CL.get1 {es : List (Int × Int)} {i : Nat} {k : Int} (e : σ[i]? = some (.tab es)) : CL g lv (.builtin "dict.get") [.ref i, .int k] σ (ofOpt (es.lookup k)) σ := by
  intro c fd m α s Q E vs A F S hkd I q
  obtain _ | ⟨⟨a, ea, rfl⟩, _ | ⟨⟨t, rfl⟩, _ | _⟩⟩ := I
  refine call_get1_intTab (S.tab_in e ea) fun v hv => ?_
  rw [tab_lookup] at hv
  cases hq : es.lookup k with
  | none => rw [hq] at hv q; exact q _ α s.heap _ (List.prefix_refl _) (PyProof.V.Flat.none_inv hv) F S
  | some j => rw [hq] at hv q; obtain ⟨tf, rfl⟩ := PyProof.V.Flat.int_inv hv; exact q _ α s.heap _ (List.prefix_refl _) ⟨_, rfl⟩ F S
theorem EV.dict : EV g lv fd (.Dict [] [] pos) μ σ (.ref σ.length) (σ ++ [.tab []]) := by
  intro c m α s Q E A F M S k
  refine newDict_K F S.news (topRead_of A.T).nolimit fun d h' ob F' N' lt lo _ _ hd hf => ?_
  exact k _ (α ++ [d]) h' s.toks (List.prefix_append _ _) ⟨d, by rw [← S.len]; exact at_new, rfl⟩ F' (S.ofNew N' lt ⟨lo, [], [], hd, hf, rfl⟩)
theorem ES.setTab {v a b : Expr} {es : List (Int × Int)} {i : Nat} {k n : Int} (hv : EV g lv fd v μ σ (.int n) σ₁) (ha : EV g lv fd a μ σ₁ (.ref i) σ₂) (hb : EV g lv fd b μ σ₂ (.int k) σ₃) (e : σ₃[i]? = some (.tab es)) (hl : es.length < 100000) (hs : ∀ c : Cfg, swapsWith v (some (.Subscript a b pos')) pos.line (c.env fd) = pure false) :
    ES g lv fd (.Assign [.Subscript a b pos'] v pos) μ σ .next μ (σ₃.set i (.tab (putI k n es))) := by
  intro c m α s Q E A F M S q
  refine wpAny_Assign_Subscript (hv c m α s _ E A F M S fun v₁ α₁ h₁ tk₁ x₁ i₁ F₁ S₁ => ?_) (hs c)
  refine ha c m α₁ _ _ E A F₁ (M.ext x₁) S₁ fun v₂ α₂ h₂ tk₂ x₂ i₂ F₂ S₂ => ?_
  refine hb c m α₂ _ _ E A F₂ (M.ext (x₁.trans x₂)) S₂ fun v₃ α₃ h₃ tk₃ x₃ i₃ F₃ S₃ => ?_
  obtain ⟨t, rfl⟩ := i₁
  obtain ⟨ad, ea, rfl⟩ := i₂.ext x₃
  obtain ⟨u, rfl⟩ := i₃
  obtain ⟨ob, kvs, z, lo, hd, hf, n', f'⟩ := S₃.tab_at e ea
  refine wpAny_setItem_pairs (hsz := by rw [← hf.length]; simp; rw [sizeLine_eq]; omega) (knd := intKind g.prog g.w) (k := k) (intKind_is _ _ _ _) (Heap.dictOf_iff.mpr ⟨ob, z, hd⟩) fun h' hmm hs' => ?_
  obtain ⟨o', ho', hd'⟩ := Heap.dictOf_iff.mp hmm
  refine q .next m α₃ h' _ ((x₁.trans x₂).trans x₃) rfl (F₃.change hs' n' f') (M.ext ((x₁.trans x₂).trans x₃)) (S₃.set_at ea hs' ho' ⟨lo, _, _, hd', hf.stored PyProof.V.same_int k (PyProof.V.Flat.int n t), ?_⟩)
  exact putD_int k n es
end
end Mine
end
section
open PySem PySem.W PySem.Spec PySem.Calls PyProof.Rows
namespace Mine
section
variable {g : G} {lv : Nat} {fd : FD} {μ μ' μ₁ μ₂ : Loc} {σ σ' σ₁ σ₂ σ₃ : List AObj} {r r₀ r₁ r₂ : PV} {rs xs : List PV} {pos pos' px : Pos} {o : Out} {c : Cfg} {h h' : Heap} {α : List Addr} {m : Str → Option Value} {I C D : Addr}

/-! comprehensions -/
/-- the items, one by one -/
noncomputable def CompL (g : G) (lv : Nat) (fd : FD) (elt : Expr) (x : Str) (keep : List AObj → Prop) : List PV → List AObj → List PV → List AObj → Prop
  | [], σ, rs, σ' => rs = [] ∧ σ' = σ
  | v :: vs, σ, rs, σ' => ∃ r rs' σ₁, EV g lv fd elt [(x, v)] σ r σ₁ ∧ keep σ₁ ∧ rs = r :: rs' ∧ CompL g lv fd elt x keep vs σ₁ rs' σ'
abbrev Off (c : Cfg) (α : List Addr) (a : Addr) : Prop := a ∉ α ∧ a ≠ c.L ∧ c.h₀.get? a = none ∧ ∀ p ∈ c.rest, p.1 ≠ a
theorem fr_same {a : Addr} (F : Fr c.h₀ c.L h m) (kk : ∀ b o, b ≠ a → h.get? b = some o → h'.get? b = some o) (q : Off c α a) : Fr c.h₀ c.L h' m := LCg.fr_but F (fun b o hb => kk b o (by simpa using hb)) (Ne.symm q.2.1) q.2.2.1
def CInv (g : G) (lv : Nat) (fdC : FD) (c : Cfg) (m : Str → Option Value) (s : Shared) (elt : Expr) (x : Str) (keep : List AObj → Prop) (xs rs : List PV) (P : Nat → Obj → Prop) (I C D : Addr) (α : List Addr) (σ' : List AObj) (n : Nat) (s' : Shared) : Prop :=
  ∃ zs ys h' tk α₁ σ₁ ob mC us rs₀ rs₁, s' = { s with heap := h', toks := tk } ∧ xs = zs ++ ys ∧ n = ys.length ∧ α <+: α₁ ∧ Fr c.h₀ c.L h' m ∧ Sto g c h' α₁ σ₁ ∧ Off c α₁ I ∧ Off c α₁ C ∧ Off c α₁ D ∧ h'.get? I = some ob ∧ P zs.length ob ∧ h'.Ns C mC ∧
    h'.get? D = some (LCg.lst us) ∧ Iss c.lS α₁ rs₀ us ∧ us.length ≤ zs.length ∧ rs = rs₀ ++ rs₁ ∧ keep σ₁ ∧ CompL g lv fdC elt x keep ys σ₁ rs₁ σ'
theorem comp_loop {x : Str} {elt iter : Expr} {scope : Scope} {kix : List (Str × Nat)} {ccl : List (Str × Addr)} {P : Nat → Obj → Prop} {kp : List Addr → List AObj → Prop} {keep : List AObj → Prop} {s : Shared} {R : Result → Shared → Prop} {ob : Obj} {mC : Str → Option Value} (hI : It g I c.lS xs P kp) (hc : fd.comp = none) (hx : scope.names.lookup x = some .local) (hkd : scope.kind = .function)
    (hkp : ∀ α' σ', α <+: α' → keep σ' → kp α' σ') (A : Amb g lv c) (F : Fr c.h₀ c.L s.heap m) (cel : CR α c.cl fd.cx) (ccr : CR α ccl kix) (S : Sto g c s.heap α σ) (qI : Off c α I) (qC : Off c α C) (qD : Off c α D) (nIC : I ≠ C) (nID : I ≠ D) (nCD : C ≠ D)
    (e : s.heap.get? I = some ob) (p0 : P 0 ob) (nC : s.heap.Ns C mC) (eD : s.heap.get? D = some (LCg.lst [])) (k0 : keep σ) (hl : xs.length ≤ 100000) (lp : CompL g lv { fd with comp := some (scope, kix) } elt x keep xs σ rs σ')
    (k : ∀ h' tk' α' us m', α <+: α' → Fr c.h₀ c.L h' m → Sto g c h' α' σ' → Off c α' D → h'.get? D = some (LCg.lst us) → Iss c.lS α' rs us → Off c α' C → h'.Ns C m' → R (.ok .next) { s with heap := h', toks := tk' }) :
    codeAny (model g.prog g.w) (c.ar fd) (.compLoop (.ListComp elt [⟨.Name x px, iter, [], 0⟩] scope pos) 0 (.ref I) (.ref D) (compEnvC scope ccl C (c.fenv fd))) R s := by
  refine codeAny_compLoop_tests (CInv g lv { fd with comp := some (scope, kix) } c m s elt x keep xs rs P I C D α σ') ?_ xs.length ⟨[], xs, s.heap, s.toks, α, σ, ob, mC, [], [], rs, rfl, rfl, rfl, List.prefix_refl _, F, S, qI, qC, qD, e, p0, nC, eD, .nil, Nat.le_refl _, rfl, k0, lp⟩
  rintro n s' ⟨zs, ys, h₁, tk, α₁, σ₁, ob, mC, us, rs₀, rs₁, rfl, ex, rfl, x₁, F₁, S₁, a₁, b₁, d₁, e₁, p₁, n₁, u₁, i₁, l₁, er, k₁, c₁⟩
  cases ys with
  | nil =>
    refine hI.fin c fd lv m α₁ σ₁ _ _ _ ob A F₁ S₁ (hkp _ _ x₁ k₁) e₁ (by rw [ex, List.append_nil]; exact p₁) fun h₂ tk₂ kk => ?_
    obtain ⟨rfl, rfl⟩ := c₁
    rw [List.append_nil] at er
    subst er
    exact k h₂ tk₂ α₁ us mC x₁ (fr_same F₁ kk a₁) (S₁.but kk a₁.1 a₁.2.2.2) d₁ (kk _ _ (Ne.symm nID) u₁) i₁ b₁ (n₁.at' fun o e => kk _ o (Ne.symm nIC) e)
  | cons v vs =>
    refine hI.next c fd lv m α₁ σ₁ _ _ _ zs.length v ob rfl A F₁ S₁ (hkp _ _ x₁ k₁) e₁ p₁ (by rw [ex]; simp) a₁.1 fun u h₂ tk₂ ob' iu hs eb pb => ?_
    have kk : ∀ b o, b ≠ I → h₁.get? b = some o → h₂.get? b = some o := fun b o hb q => (hs.2 b hb).trans q
    obtain ⟨rv, rs', σ₂, ev, k₂, rfl, c₂⟩ := c₁
    refine wpAny_assign_Name (wpAny_storeName_local (lookup_relabel_local hx) (n₁.at' fun o e => kk _ o (Ne.symm nIC) e) (fun h₃ hn₃ hs₃ => ?_) (by simp [compEnvC, relabel, hkd]))
    refine wpAny_tests_nil ?_
    simp only [if_true]
    have k3 : ∀ b o, b ≠ C → h₂.get? b = some o → h₃.get? b = some o := fun b o hb q => (hs₃.2 b hb).trans q
    obtain ⟨oC, heC, hoC⟩ := LCg.ns_obj hn₃
    have F₃ := fr_same (fr_same F₁ kk a₁) k3 b₁
    have S₃ := (S₁.but kk a₁.1 a₁.2.2.2).but k3 b₁.1 b₁.2.2.2
    let cC : Cfg := { c with rest := (I, ob') :: (C, oC) :: (D, LCg.lst us) :: c.rest, C := C, ccl := ccl }
    have SC : Sto g cC h₃ α₁ σ₁ := by
      refine ⟨S₃.len, S₃.at_, S₃.nd, fun p hp => ?_, fun p hp => ?_⟩
      · rcases List.mem_cons.mp hp with rfl | hp
        · exact ⟨k3 _ _ nIC eb, a₁.2.1, a₁.2.2.1⟩
        · rcases List.mem_cons.mp hp with rfl | hp
          · exact ⟨heC, b₁.2.1, b₁.2.2.1⟩
          · rcases List.mem_cons.mp hp with rfl | hp
            · exact ⟨k3 _ _ (Ne.symm nCD) (kk _ _ (Ne.symm nID) u₁), d₁.2.1, d₁.2.2.1⟩
            · exact S₃.rest p hp
      · rcases List.mem_cons.mp hp with rfl | hp
        · exact a₁.1
        · rcases List.mem_cons.mp hp with rfl | hp
          · exact b₁.1
          · rcases List.mem_cons.mp hp with rfl | hp
            · exact d₁.1
            · exact S₃.off p hp
    have MC : MR cC { fd with comp := some (scope, kix) } α₁ m [(x, v)] := ⟨⟨_, ⟨oC, .tail _ (.head _), hoC⟩, fun y q ey => by
      rw [List.lookup_cons] at ey
      by_cases hy : y = x
      · subst hy; simp at ey; subst ey; exact ⟨u, by simp, iu⟩
      · have hb : (y == x) = false := by simp [hy]
        rw [hb] at ey; cases ey⟩, cel.ext x₁, fun sc kx eq => by cases eq; exact ccr.ext x₁⟩
    refine ev cC m α₁ _ _ _ (⟨A.B, A.X, A.T, A.scr, A.fit, A.hd, A.hu⟩ : Amb g lv cC) F₃ MC SC fun y α₄ h₄ tk₄ x₄ i₄ F₄ S₄ => ?_
    have zI := S₄.rest _ (.head _)
    have zC := S₄.rest _ (.tail _ (.head _))
    have zD := S₄.rest _ (.tail _ (.tail _ (.head _)))
    have hul := i₁.len
    have hz : xs.length = zs.length + (vs.length + 1) := by rw [ex]; simp
    refine append_at (hsz := by show us.toArray.size ≤ sizeLine; rw [List.size_toArray, sizeLine_eq]; omega) zD.1 fun h₅ hs₅ hD₅ => ?_
    have k5 : ∀ b o, b ≠ D → h₄.get? b = some o → h₅.get? b = some o := fun b o hb q => (hs₅.2 b hb).trans q
    have dI := S₄.off _ (.head _)
    have dC := S₄.off _ (.tail _ (.head _))
    have dD := S₄.off _ (.tail _ (.tail _ (.head _)))
    have SL : Sto g c h₄ α₄ σ₂ := ⟨S₄.len, S₄.at_, S₄.nd, fun p hp => S₄.rest p (.tail _ (.tail _ (.tail _ hp))), fun p hp => S₄.off p (.tail _ (.tail _ (.tail _ hp)))⟩
    refine ⟨vs.length, Nat.lt_succ_self _, zs ++ [v], vs, h₅, tk₄, α₄, σ₂, ob', _, us ++ [y], rs₀ ++ [rv], rs', rfl, by rw [ex]; simp, rfl, x₁.trans x₄, fr_same F₄ k5 (α := α₄) ⟨dD, d₁.2⟩, SL.but k5 dD d₁.2.2.2, ⟨dI, a₁.2⟩, ⟨dC, b₁.2⟩, ⟨dD, d₁.2⟩, k5 _ _ nID zI.1, by simpa using pb,
      (hoC.ns zC.1).at' (fun o e => k5 _ o nCD e), hD₅.trans (congrArg some (LCg.lst_snoc us y)), (i₁.ext x₄).append (.one i₄), by simp; omega, by rw [er]; simp, k₂, c₂⟩
theorem Sto.made (S : Sto g c h α σ) {us : List Value} (q : Off c α D) (e : h.get? D = some (LCg.lst us)) (iu : Iss c.lS α rs us) : Sto g c h (α ++ [D]) (σ ++ [.list rs]) := by
  refine ⟨by simp [S.len], fun i ao e' => ?_, List.nodup_append.mpr ⟨S.nd, by simp, fun a ha b hb => by simp at hb; subst hb; exact fun z => q.1 (z ▸ ha)⟩, S.rest, fun p hp hm => ?_⟩
  · by_cases hi : i < σ.length
    · rw [List.getElem?_append_left hi] at e'
      obtain ⟨b, o', x, y, z, n⟩ := S.at_ i ao e'
      exact ⟨b, o', pre_get (List.prefix_append _ _) x, y.ext (List.prefix_append _ _), z, n⟩
    · rw [List.getElem?_append_right (Nat.le_of_not_lt hi)] at e'
      have h0 : i - σ.length = 0 := by
        cases q : i - σ.length with
        | zero => rfl
        | succ n => rw [q] at e'; simp at e'
      rw [h0] at e'; simp at e'; subst e'
      have hi' : i = α.length := by have := S.len; omega
      subst hi'
      exact ⟨D, _, by simp, ⟨us, us.length, rfl, iu.ext (List.prefix_append _ _)⟩, e, q.2.1, q.2.2.1⟩
  · rcases List.mem_append.mp hm with hm | hm
    · exact S.off p hp hm
    · simp at hm; exact q.2.2.2 p hp hm
theorem comp_core {x : Str} {elt iter : Expr} {scope : Scope} {kix : List (Str × Nat)} {rv : PV} {keep : List AObj → Prop} {s : Shared} {use : Option (Value → Sem Unit)} {Q E : Value → Shared → Prop} (h : EV g lv fd iter μ σ rv σ₁) (sr : SRC g σ₁ rv xs keep) (k0 : keep σ₁) (hc : fd.comp = none) (hl : xs.length ≤ 100000) (lp : CompL g lv { fd with comp := some (scope, kix) } elt x keep xs σ₁ rs σ')
    (hcl : ∀ (c : Cfg) (α : List Addr), CR α c.cl fd.cx → ∃ ccl, closureFor scope (c.env fd) = pure ccl ∧ CR α ccl kix)
    (hx : scope.names.lookup x = some .local) (hkd : scope.kind = .function) (hcell : ∀ y ∈ scope.names, y.2 ≠ .cell) (hnames : ∀ y ∈ scope.names, y.2 = .local → scope.names.lookup y.1 = some .local) (hs : ∀ env x, foldedSetIterable iter env x = pure x)
    (A : Amb g lv c) (F : Fr c.h₀ c.L s.heap m) (M : MR c fd α m μ) (S : Sto g c s.heap α σ)
    (k : ∀ h' tk' α' us C D m', α <+: α' → Fr c.h₀ c.L h' m → Sto g c h' α' σ' → Off c α' D → h'.get? D = some (LCg.lst us) → Iss c.lS α' rs us → Off c α' C → C ≠ D → h'.Ns C m' → compPost (model g.prog g.w) (c.ar fd) E use Q (.ref D) C (.ok .next) { s with heap := h', toks := tk' }) :
    wpAny (model g.prog g.w) (c.ar fd) (comprehension (.ListComp elt [⟨.Name x px, iter, [], 0⟩] scope pos) scope (c.env fd) pos' (newList []) false (eval iter (c.env fd)) use) Q E s := by
  obtain ⟨ccl, hclos, ccr⟩ := hcl c α M.cel
  have env_c : c.env fd = c.fenv fd := by show envAt c fd fd.comp = _; rw [hc]
  refine wpAny_comprehension_free rfl (hs _) hclos hkd hnames (h c m α s _ E A F M S fun v₁ α₁ h₁ tk₁ x₁ i₁ F₁ S₁ => ?_)
  refine sr c fd α₁ _ _ E v₁ S₁ i₁ fun ob P kp hI p0 hf hkp => ?_
  generalize hH : h₁.push ob = H1
  have sz : H1.objs.size = h₁.objs.size + 1 := by rw [← hH, Heap.size_push]
  have up : ∀ b o, h₁.get? b = some o → H1.get? b = some o := fun b o e => hH ▸ Heap.get?_push_of_some _ e
  have eI : H1.get? h₁.objs.size = some ob := hH ▸ Heap.get?_push_size _ hf
  refine wpAny_newObj_type (wpAny_newFunctionEnv hcell (by intro y hy; simp at hy) (fun h₂ hns hsb => ?_) hkd)
  dsimp only at hns hsb ⊢
  generalize hH2 : H1.push { cls := .type "list", dict := none, data := .seq ([] : List Value).toArray } = H2 at hns hsb ⊢
  have sz2 : H2.objs.size = h₁.objs.size + 2 := by rw [← hH2, Heap.size_push, sz]
  have old : ∀ b o, H1.get? b = some o → h₂.get? b = some o := fun b o e => hsb.extBut b o (by have := Heap.lt_size e; rw [sz2]; show b ≠ _; have e2 : b < h₁.objs.size + 1 := sz ▸ this; exact Nat.ne_of_lt (Nat.lt_succ_of_lt e2)) (Heap.get?_push_of_some _ (hH2 ▸ Heap.get?_push_of_some _ e))
  have eD : h₂.get? H1.objs.size = some (LCg.lst []) := hsb.extBut _ _ (by rw [sz2, sz]; exact Nat.ne_of_lt (Nat.lt_succ_self _)) (Heap.get?_push_of_some _ (hH2 ▸ Heap.get?_push_size _ rfl))
  have big : ∀ a, h₁.objs.size ≤ a → Off c α₁ a := fun a ha =>
    ⟨fun hm => absurd (S₁.lt hm) (Nat.not_lt.mpr ha), fun e => absurd (e ▸ F₁.ns.lt) (Nat.not_lt.mpr ha), by
      cases q : c.h₀.get? a with
      | none => rfl
      | some o' => exact absurd (Heap.lt_size (F₁.keep a o' q)) (Nat.not_lt.mpr ha), fun p hp e => absurd (Heap.lt_size (S₁.rest p hp).1) (Nat.not_lt.mpr (e ▸ ha))⟩
  have k2 : ∀ b o, h₁.get? b = some o → h₂.get? b = some o := fun b o e => old b o (up b o e)
  have nCD : H2.objs.size ≠ H1.objs.size := by rw [sz2, sz]; exact Nat.ne_of_gt (Nat.lt_succ_self _)
  have loop : codeAny (model g.prog g.w) (c.ar fd) (.compLoop (.ListComp elt [⟨.Name x px, iter, [], 0⟩] scope pos) 0 (.ref h₁.objs.size) (.ref H1.objs.size) (compEnvC scope ccl H2.objs.size (c.fenv fd))) (compPost (model g.prog g.w) (c.ar fd) E use Q (.ref H1.objs.size) H2.objs.size) { s with heap := h₂, toks := tk₁ } :=
    comp_loop (C := H2.objs.size) (D := H1.objs.size) hI hc hx hkd hkp A (F₁.keeps k2) (M.cel.ext x₁) (ccr.ext x₁) (S₁.keeps k2) (big _ (Nat.le_refl _)) (big _ (by rw [sz2]; exact Nat.le_add_right _ _)) (big _ (by rw [sz]; exact Nat.le_add_right _ _)) (by rw [sz2]; exact Nat.ne_of_lt (Nat.lt_succ_of_lt (Nat.lt_succ_self _))) (by rw [sz]; exact Nat.ne_of_lt (Nat.lt_succ_self _)) nCD
      (old _ _ eI) p0 hns eD k0 hl lp fun h' tk' α' us m' x' F' S' qD eD' iu qC nC' => k h' tk' α' us _ _ m' (x₁.trans x') F' S' qD eD' iu qC nCD nC'
  rw [env_c]
  exact codeAny_compStart_list loop (hI.self _ _ _ _ 0 ob (old _ _ eI) p0 loop)
theorem EV.comp {x : Str} {elt iter : Expr} {scope : Scope} {kix : List (Str × Nat)} {rv : PV} {keep : List AObj → Prop} (h : EV g lv fd iter μ σ rv σ₁) (sr : SRC g σ₁ rv xs keep) (k0 : keep σ₁) (hc : fd.comp = none) (hl : xs.length ≤ 100000) (lp : CompL g lv { fd with comp := some (scope, kix) } elt x keep xs σ₁ rs σ')
    (hcl : ∀ (c : Cfg) (α : List Addr), CR α c.cl fd.cx → ∃ ccl, closureFor scope (c.env fd) = pure ccl ∧ CR α ccl kix)
    (hx : scope.names.lookup x = some .local) (hkd : scope.kind = .function) (hcell : ∀ y ∈ scope.names, y.2 ≠ .cell) (hnames : ∀ y ∈ scope.names, y.2 = .local → scope.names.lookup y.1 = some .local) (hs : ∀ env x, foldedSetIterable iter env x = pure x) :
    EV g lv fd (.ListComp elt [⟨.Name x px, iter, [], 0⟩] scope pos) μ σ (.ref σ'.length) (σ' ++ [.list rs]) := by
  intro c m α s Q E A F M S k
  rw [eval_ListComp]
  refine comp_core (use := none) h sr k0 hc hl lp hcl hx hkd hcell hnames hs A F M S fun h' tk' α' us C D m' x' F' S' qD eD iu qC nCD nC => ⟨m', nC, fun h'' hs'' => ?_⟩
  have kk : ∀ b o, b ≠ C → h'.get? b = some o → h''.get? b = some o := fun b o hb q => (hs''.2 b hb).trans q
  have S'' := S'.but kk qC.1 qC.2.2.2
  exact k _ (α' ++ [D]) h'' tk' (x'.trans (List.prefix_append _ _)) ⟨_, by rw [← S'.len]; exact at_new, rfl⟩ (fr_same F' kk qC) (S''.made qD (kk D _ (Ne.symm nCD) eD) iu)
theorem ES.assignComp {x y : Str} {elt iter : Expr} {scope : Scope} {kix : List (Str × Nat)} {rv : PV} {keep : List AObj → Prop} {spos : Pos} (h : EV g lv fd iter μ σ rv σ₁) (sr : SRC g σ₁ rv xs keep) (k0 : keep σ₁) (hc : fd.comp = none) (hl : xs.length ≤ 100000) (lp : CompL g lv { fd with comp := some (scope, kix) } elt x keep xs σ₁ rs σ')
    (hcl : ∀ (c : Cfg) (α : List Addr), CR α c.cl fd.cx → ∃ ccl, closureFor scope (c.env fd) = pure ccl ∧ CR α ccl kix)
    (hx : scope.names.lookup x = some .local) (hkd : scope.kind = .function) (hcell : ∀ y ∈ scope.names, y.2 ≠ .cell) (hnames : ∀ y ∈ scope.names, y.2 = .local → scope.names.lookup y.1 = some .local) (hs : ∀ env x, foldedSetIterable iter env x = pure x)
    (hy : fd.sc.names.lookup y = some .local) (hk : fd.sc.kind = .function) (hsw : ∀ c : Cfg, swapsWith (.ListComp elt [⟨.Name x px, iter, [], 0⟩] scope pos) (some (.Name y pos')) spos.line (c.env fd) = pure true) :
    ES g lv fd (.Assign [.Name y pos'] (.ListComp elt [⟨.Name x px, iter, [], 0⟩] scope pos) spos) μ σ .next ((y, .ref σ'.length) :: μ) (σ' ++ [.list rs]) := by
  intro c m α s Q E A F M S k
  rw [exec_Assign_Name_used _ _ _ _ (hsw c)]
  refine wpAny_bind (wpAny_standAt (wpAny_bind ?_))
  show wpAny _ _ (do let _ ← comprehension (.ListComp elt [⟨.Name x px, iter, [], 0⟩] scope pos) scope (c.env fd) _ (newList []) false (eval iter (c.env fd)) (some (PySem.assign (.Name y pos') (c.env fd)))) _ _ s
  refine wpAny_bind (wpAny_mono (comp_core (use := some (PySem.assign (.Name y pos') (c.env fd))) (Q := fun _ s' => Q .next s') h sr k0 hc hl lp hcl hx hkd hcell hnames hs A F M S fun h' tk' α' us C D m' x' F' S' qD eD iu qC nCD nC => ?_) (fun _ s' hq => wpAny_pure (wpAny_pure hq)) fun _ _ e => e)
  show wpAny _ _ (PySem.assign (.Name y pos') (c.env fd) (.ref D)) _ _ _
  obtain ⟨oC, heC, hoC⟩ := LCg.ns_obj nC
  have SD : Sto g (c.more C oC) h' (α' ++ [D]) (σ' ++ [.list rs]) := (S'.made qD eD iu).more heC qC.2.1 qC.2.2.1 (fun hm => by
    rcases List.mem_append.mp hm with hm | hm
    · exact qC.1 hm
    · simp at hm; exact nCD hm)
  have iD : Is c.lS (α' ++ [D]) (.ref σ'.length) (.ref D) := ⟨_, by rw [← S'.len]; exact at_new, rfl⟩
  refine wpAny_assign_Name (store_ (c := c.more C oC) hc hy hk F' (((M.ext x').ext (List.prefix_append _ _)).more hc) SD iD fun m₂ h₂ tk₂ F₂ M₂ S₂ => ⟨_, hoC.ns (S₂.rest _ (.head _)).1, fun h₃ hs₃ => ?_⟩)
  have kk : ∀ b o, b ≠ C → h₂.get? b = some o → h₃.get? b = some o := fun b o hb q => (hs₃.2 b hb).trans q
  have oC' : Off c (α' ++ [D]) C := ⟨S₂.off _ (.head _), qC.2⟩
  exact k .next m₂ (α' ++ [D]) h₃ _ (x'.trans (List.prefix_append _ _)) rfl (fr_same F₂ kk oC') (M₂.less hc) (S₂.less.but kk oC'.1 oC'.2.2.2)
end
end Mine
end
section
open PySem PySem.W PySem.Spec PySem.Calls PyProof.Rows
namespace Mine
section
variable {g : G} {lv : Nat} {fd : FD} {μ μ' μ₁ μ₂ : Loc} {σ σ' σ₁ σ₂ σ₃ : List AObj} {r r₀ r₁ r₂ : PV} {rs xs : List PV} {pos pos' px : Pos} {o : Out} {c : Cfg} {h h' : Heap} {α : List Addr} {m : Str → Option Value} {I C D : Addr}

/-! a def with cells -/
theorem bindL_mr {lS : Addr} {α : List Addr} {kd : Str → Option NameKind} : ∀ {ns : List Str} {rs : List PV} {vs : List Value}, Iss lS α rs vs → (∀ x ∈ ns, kd x = some .local) → ∀ (μ : Loc) (m : Str → Option Value), NR lS α m μ → NR lS α (PySem.bindL kd (ns.zip vs) m) ((ns.zip rs).reverse ++ μ)
  | [], _, _, _, _, _, _, h => h
  | _ :: _, _, _, .nil, _, _, _, h => h
  | n :: ns, _, _, .cons (r := r) (v := v) i is, hl, μ, m, h => by
    have := bindL_mr (ns := ns) is (fun x hx => hl x (.tail _ hx)) ((n, r) :: μ) (fun y => if y = n then some v else m y) (fun y q e => by
      rw [List.lookup_cons] at e
      by_cases hy : y = n
      · subst hy; simp at e; subst e; exact ⟨v, by simp, i⟩
      · have hb : (y == n) = false := by simp [hy]
        rw [hb] at e
        obtain ⟨u, a, b⟩ := h y q e
        exact ⟨u, by simp [hy, a], b⟩)
    simp only [List.zip_cons_cons, PySem.bindL, hl n (.head _), if_true]
    simpa using this
theorem bindC_none {kd : Str → Option NameKind} : ∀ {l : List (Str × Value)} (m : Str → Option Value), (∀ x ∈ l, kd x.1 = some .local) → PySem.bindC kd l m = m
  | [], _, _ => rfl
  | (n, v) :: l, m, h => by
    simp only [PySem.bindC, h (n, v) (.head _), if_true]
    exact bindC_none m fun x hx => h x (.tail _ hx)
theorem CR.zip : ∀ {ns : List Str} {as pre : List Addr}, as.length = ns.length → CR (pre ++ as) (ns.zip as) (ns.zipIdx pre.length)
  | [], [], _, _ => trivial
  | n :: ns, a :: as, pre, h => by
    have := CR.zip (ns := ns) (as := as) (pre := pre ++ [a]) (by simpa using h)
    rw [List.zip_cons_cons, List.zipIdx_cons]
    refine ⟨rfl, by simp, ?_⟩
    simpa using this
theorem cells_are {cm : Str → Option Value} : ∀ {cs : List (Str × Addr)} {cells : List (Addr × Obj)}, CellsAre cm cs cells → (∀ x, cm x = none) → ∀ a ∈ cs.map (·.2), ∃ o, (a, o) ∈ cells ∧ o.data = .cell none
  | _, _, .nil, _, _, h => nomatch h
  | _, _, .cons (n := n) q r, hc, a, h => by
    rcases List.mem_cons.mp h with rfl | h
    · exact ⟨_, .head _, by rw [q, hc]⟩
    · obtain ⟨o, k, e⟩ := cells_are r hc a h
      exact ⟨o, .tail _ k, e⟩
abbrev noCells (cn : List Str) : List AObj := cn.map fun _ => .cell none
theorem CX.defC {f : Addr} {name qual : Str} {params : Arguments} {body : List Stmt} {scope : Scope} {dV kV doc pm cdv ct oc : Value} {an od : Option Addr} {osl : Array (Option Value)} (pn cn : List Str) (ks : List Nat)
    (ho : g.K.lookup f = some ⟨oc, od, .func (fnOf name qual params body scope dV kV doc pm an cdv ct), osl⟩) (hcd : codeIn g.K cdv qual = true)
    (hb : ∀ vs : List Value, vs.length = pn.length → bindArgs (fnOf name qual params body scope dV kV doc pm an cdv ct) ⟨vs, []⟩ = pure (pn.zip vs))
    (hl : ∀ x ∈ pn, scope.names.lookup x = some .local) (hn : rs.length = pn.length)
    (h : ∃ o μ', EX g lv ⟨qual, scope, f, cdv, cn.zipIdx σ.length, none⟩ body (pn.zip rs).reverse (σ ++ noCells cn) o μ' σ' ∧ (match o with | .ret q => q | _ => .none) = r)
    (hcf : ∀ n, cellsFrom n scope.names [] = cn.zip (ks.map (n + ·))) (hkl : ks.length = cn.length) (hkn : ks.Nodup) (hnd : cn.Nodup)
    (hco : scope.isCoroutine = false) (hgen : scope.isGenerator = false) (hk : scope.kind = .function) : CX g (lv + 1) (.ref f) rs σ r σ' := by
  intro c fd m α s R vs A F S hkd I k
  obtain ⟨o, μ', h, hr⟩ := h
  have hlen : vs.length = pn.length := by rw [I.len, hn]
  have hloc : ∀ y ∈ pn.zip vs, scope.names.lookup y.1 = some .local := fun y hy => hl _ (List.of_mem_zip hy).1
  refine code_defC (env := c.fenv fd) (outer := c.outer) (binds := pn.zip vs) A.B F A.X S.news A.T rfl rfl hkd ho hcd (by have := A.hd; show c.dp < _; omega) (BindsTo.of_eq (hb vs hlen))
    (List.all_eq_true.mpr fun y hy => by rw [hloc y hy]; rfl) ?_ ?_ hco hgen hk
  · rw [hcf, List.map_fst_zip (by simp [hkl])]; exact hnd
  · intro g' L' h₁ tk cells FG F' N' Y B' X' T' lt
    have bn : PySem.bindC (envOfC qual scope L' f cdv).kindOf (pn.zip vs) (fun _ => none) = fun _ => none := bindC_none _ hloc
    rw [bn, hcf] at Y
    let as := ks.map (L' + 1 + ·)
    let c' : Cfg := { c with dp := c.dp + 1, un := c.un + 3, outer := c.fenv fd :: c.outer, A₀ := c.ar fd, h₀ := g', L := L', cl := cn.zip as }
    have al : as.length = cn.length := by simp [as, hkl]
    have S1 : Sto g c' h₁ α σ := by
      refine ⟨S.len, fun i ao e => ?_, S.nd, fun p hp => N' p (List.mem_append_right _ (List.mem_append_right _ hp)), S.off⟩
      obtain ⟨a, o', x, y, z, _⟩ := S.at_ i ao e
      have q := N' (a, (s.heap.get? a).getD default) (List.mem_append_right _ (List.mem_append_left _ (List.mem_map.mpr ⟨a, List.mem_of_getElem? x, rfl⟩)))
      rw [z] at q
      exact ⟨a, o', x, y, q⟩
    have above : ∀ a ∈ as, L' < a := fun a ha => by obtain ⟨n, _, rfl⟩ := List.mem_map.mp ha; exact Nat.lt_of_lt_of_le (Nat.lt_succ_self _) (Nat.le_add_right _ _)
    have below : ∀ a ∈ α, a < L' := fun a ha => lt (a, (s.heap.get? a).getD default) (List.mem_append_left _ (List.mem_map.mpr ⟨a, ha, rfl⟩))
    have Sg : Sto g c' h₁ (α ++ as) (σ ++ noCells cn) := by
      refine ⟨by simp [S.len, al], fun i ao e => ?_, List.nodup_append.mpr ⟨S.nd, ?_, fun a ha b hb => ?_⟩, S1.rest, fun p hp hm => ?_⟩
      · by_cases hi : i < σ.length
        · rw [List.getElem?_append_left hi] at e
          obtain ⟨b, o', x, y, z, n⟩ := S1.at_ i ao e
          exact ⟨b, o', pre_get (List.prefix_append _ _) x, y.ext (List.prefix_append _ _), z, n⟩
        · have hsl := S.len
          rw [List.getElem?_append_right (Nat.le_of_not_lt hi)] at e
          obtain ⟨hj, ej⟩ := List.getElem?_eq_some_iff.mp e
          have hj' : i - σ.length < as.length := by simpa [al] using hj
          have ea : (α ++ as)[i]? = some as[i - σ.length] := by rw [List.getElem?_append_right (by omega), hsl, List.getElem?_eq_getElem hj']
          have hao : ao = .cell none := by simp at ej; exact ej.symm
          subst hao
          obtain ⟨ob, hm, hd⟩ := cells_are Y (fun _ => rfl) as[i - σ.length] (by rw [List.map_snd_zip (by show as.length ≤ _; omega)]; exact List.getElem_mem hj')
          exact ⟨_, ob, ea, hd, N' _ (List.mem_append_left _ hm)⟩
      · show (ks.map (L' + 1 + ·)).Nodup
        exact List.pairwise_map.mpr (hkn.imp fun h e => h (Nat.add_left_cancel e))
      · exact Nat.ne_of_lt (Nat.lt_trans (below a ha) (above b hb))
      · rcases List.mem_append.mp hm with hm | hm
        · exact S1.off p hp hm
        · exact absurd (lt p (List.mem_append_right _ hp)) (Nat.not_lt.mpr (Nat.le_of_lt (above _ hm)))
    have A' : Amb g lv c' := ⟨B', X', T', A.scr, A.fit, by have := A.hd; show c.dp + 1 + lv < _; omega, by have := A.hu; show c.un + 3 + 8 * lv < _; omega⟩
    have M' : MR c' ⟨qual, scope, f, cdv, cn.zipIdx σ.length, none⟩ (α ++ as) (PySem.bindL (envOfC qual scope L' f cdv).kindOf (pn.zip vs) fun _ => none) (pn.zip rs).reverse := by
      have q : NR c.lS (α ++ as) (PySem.bindL (envOfC qual scope L' f cdv).kindOf (pn.zip vs) fun _ => none) (pn.zip rs).reverse := by
        have := bindL_mr (kd := (envOfC qual scope L' f cdv).kindOf) (ns := pn) (I.ext (List.prefix_append α as)) hl [] (fun _ => none) (fun _ _ e => by cases e)
        simpa using this
      exact ⟨⟨_, rfl, q⟩, by rw [← S.len]; exact CR.zip al, fun _ _ e => nomatch e⟩
    have run := h c' _ (α ++ as) { s with heap := h₁, toks := tk } (fun fl s' => LeaveK c.h₀ c.L m g' R (match fl with | .ret v => v | _ => .none) s')
      (fun e s' => wpAny (model g.prog g.w) ((c.ar fd).deeper (envOfC qual scope L' f cdv)) (leaving (envOfC qual scope L' f cdv) e) (fun _ s'' => R (.error e) s'') (fun e' s'' => R (.error e') s'') s') A' F' M' Sg fun f m' α' h' tk' x i F₂ M₂ S₂ => by
      refine leaveK_ F₂ S₂.news fun F₃ N₃ => ?_
      have Sb : Sto g c h' α' σ' := by
        refine ⟨S₂.len, fun i ao e => ?_, S₂.nd, fun p hp => N₃ p (List.mem_append_right _ hp), S₂.off⟩
        obtain ⟨a, o', x, y, z, _⟩ := S₂.at_ i ao e
        have q := N₃ (a, (h'.get? a).getD default) (List.mem_append_left _ (List.mem_map.mpr ⟨a, List.mem_of_getElem? x, rfl⟩))
        exact ⟨a, o', x, y, z, q.2⟩
      have x₀ : α <+: α' := (List.prefix_append _ _).trans x
      subst hr
      cases o with
      | next => cases i; exact k _ α' h' tk' x₀ rfl F₃ Sb
      | cont => cases i; exact k _ α' h' tk' x₀ rfl F₃ Sb
      | ret q => obtain ⟨v, rfl, i⟩ := i; exact k v α' h' tk' x₀ i F₃ Sb
    have ee : envOfC qual scope L' f cdv = c'.env ⟨qual, scope, f, cdv, cn.zipIdx σ.length, none⟩ := by
      show envOfC qual scope L' f cdv = envX qual scope L' f cdv (cn.zip as)
      unfold envOfC; rw [hcf]
    rw [ee] at run ⊢
    exact run

/-! a thing is made -/
theorem CL.inst {fI : Addr} (hm : makesIn g.K C = true) (hi : findIn g.K (.ref C) "__init__" = some (some (.ref fI))) (hf : isFn g.K (.ref fI) = true)
    (h : CX g lv (.ref fI) (.ref (σ.length + 1) :: rs) (σ ++ [.ns []] ++ [.inst C σ.length]) .none σ') : CL g (lv + 1) (.ref C) rs σ (.ref (σ.length + 1)) σ' := by
  intro c fd m α s Q E vs A F S hkd Iv k
  refine call_cls F A.X S.news hm hi hf fun x dx h' F' N' lt lt' => ?_
  have S1 : Sto g c h' (α ++ [dx]) (σ ++ [.ns []]) := S.ofNew (fun p hp => N' p (.tail _ hp)) lt ⟨[], 0, rfl, .nil, rfl⟩
  have ed : (α ++ [dx])[σ.length]? = some dx := by rw [← S.len]; exact at_new
  have S2 : Sto g c h' (α ++ [dx] ++ [x]) (σ ++ [.ns []] ++ [.inst C σ.length]) := S1.ofNew (fun p hp => by
      rcases List.mem_cons.mp hp with rfl | hp
      · exact N' _ (.head _)
      · exact S1.news p hp) (fun q hq => by
      rcases List.mem_append.mp hq with hq | hq
      · obtain ⟨a, ha, rfl⟩ := List.mem_map.mp hq
        rcases List.mem_append.mp ha with ha | ha
        · exact Nat.lt_trans (lt (a, (s.heap.get? a).getD default) (List.mem_append_left _ (List.mem_map.mpr ⟨a, ha, rfl⟩))) lt'
        · rw [List.mem_singleton.mp ha]; exact lt'
      · exact Nat.lt_trans (lt q (List.mem_append_right _ hq)) lt') ⟨dx, pre_get (List.prefix_append _ _) ed, rfl⟩
  have px : α <+: α ++ [dx] ++ [x] := by rw [List.append_assoc]; exact List.prefix_append _ _
  have ex : (α ++ [dx] ++ [x])[σ.length + 1]? = some x := by
    have : σ.length + 1 = (α ++ [dx]).length := by simp [S.len]
    rw [this]; exact at_new
  let c' : Cfg := { c with dp := c.dp + 1, un := c.un + 1, gd := ((c.ar fd).under (.builtin "type.__call__" ⟨.ref C :: vs, []⟩)).guards }
  have A' : Amb g lv c' := ⟨A.B, A.X, A.T, A.scr, A.fit, by have := A.hd; show c.dp + 1 + lv < _; omega, by have := A.hu; show c.un + 1 + 8 * lv < _; omega⟩
  have S3 : Sto g c' h' (α ++ [dx] ++ [x]) (σ ++ [.ns []] ++ [.inst C σ.length]) := ⟨S2.len, S2.at_, S2.nd, S2.rest, S2.off⟩
  have run := h c' fd m _ { s with heap := h' } (InitBack x fun r s' => match r with | .ok (.ret v) => Q v s' | .ok _ => False | .error e => E e s') (.ref x :: vs) A' F' S3 hkd (.cons ⟨x, ex, rfl⟩ (Iv.ext px)) fun v α' h₂ tk₂ x₂ i₂ F₂ S₂ => by
    cases i₂
    exact ⟨rfl, k _ α' h₂ tk₂ (px.trans x₂) ⟨x, pre_get x₂ ex, rfl⟩ F₂ ⟨S₂.len, S₂.at_, S₂.nd, S₂.rest, S₂.off⟩⟩
  exact run
end
end Mine
end
section
open PySem PySem.W PySem.Spec PySem.Calls PyProof.Rows
namespace Mine
section
variable {g : G} {lv : Nat} {fd : FD} {μ μ' μ₁ μ₂ : Loc} {σ σ' σ₁ σ₂ σ₃ : List AObj} {r r₀ r₁ r₂ : PV} {rs xs : List PV} {pos pos' px : Pos} {o : Out} {c : Cfg} {h h' : Heap} {α : List Addr} {m : Str → Option Value} {I C D : Addr}

/-! an attribute stored -/
theorem Fields.put {lS : Addr} {α : List Addr} {fs : List (Str × PV)} {es : List DictEntry} (h : Fields lS α fs es) {x : Str} {r : PV} {v : Value} {hsh : Int} {t : Tok} (e : fs.lookup x = none) (i : Is lS α r v) :
    Fields lS α (fs ++ [(x, r)]) (putL x hsh (.str x t) v es) ∧ (putL x hsh (.str x t) v es).length = es.length + 1 := by
  induction h with
  | nil => exact ⟨.cons ⟨t, rfl⟩ i .nil, rfl⟩
  | @cons y q d fs es k a _ ih =>
    obtain ⟨t', k⟩ := k
    rw [List.lookup_cons] at e
    by_cases hy : x = y
    · subst hy; simp at e
    · have hb : (x == y) = false := by simp [hy]
      rw [hb] at e
      obtain ⟨g, l⟩ := ih e
      have : d.key.isStr x = false := by rw [k]; simp [Value.isStr]; exact fun q => hy q.symm
      simp only [putL, this, Bool.false_eq_true, if_false, List.length_cons, l]
      exact ⟨.cons ⟨t', k⟩ a g, trivial⟩
theorem upd_of {d : Addr} {o o' : Obj} {post : List (Addr × Obj)} (h2 : ∀ p ∈ post, p.1 ≠ d) : ∀ {pre : List (Addr × Obj)}, (∀ p ∈ pre, p.1 ≠ d) → Upd d o o' (pre ++ (d, o) :: post) (pre ++ (d, o') :: post)
  | [], _ => .head h2
  | p :: _, h => .tail (h p (.head _)) (upd_of h2 fun q hq => h q (.tail _ hq))
theorem Sto.change_at (S : Sto g c h α σ) {d : Nat} {dx : Addr} {α₁ α₂ : List Addr} {o' : Obj} {ao' : AObj} (ea : α = α₁ ++ dx :: α₂) (ed : α[d]? = some dx) (N : News c.h₀ c.L h' (led h α₁ ++ (dx, o') :: (led h α₂ ++ c.rest))) (q : OR g c.lS α dx o' ao') : Sto g c h' α (σ.set d ao') := by
  refine ⟨by simp [S.len], fun i ao e => ?_, S.nd, fun p hp => N p (List.mem_append_right _ (.tail _ (List.mem_append_right _ hp))), S.off⟩
  by_cases hj : d = i
  · subst hj
    obtain ⟨hl, _⟩ := List.getElem?_eq_some_iff.mp ed
    rw [List.getElem?_set_self (S.len ▸ hl)] at e; cases e
    exact ⟨dx, o', ed, q, N _ (List.mem_append_right _ (.head _))⟩
  · rw [List.getElem?_set_ne hj] at e
    obtain ⟨b, o, x, y, z, n, f⟩ := S.at_ i ao e
    have hb : b ≠ dx := fun w => by
      subst w
      obtain ⟨hl1, e1⟩ := List.getElem?_eq_some_iff.mp x
      obtain ⟨hl2, e2⟩ := List.getElem?_eq_some_iff.mp ed
      exact hj ((List.getElem_inj S.nd).mp (e2.trans e1.symm))
    have hm : b ∈ α₁ ++ dx :: α₂ := ea ▸ List.mem_of_getElem? x
    have hz : (b, (h.get? b).getD default) = (b, o) := by rw [z]; rfl
    have hm2 : (b, o) ∈ led h α₁ ++ (dx, o') :: (led h α₂ ++ c.rest) := by
      rcases List.mem_append.mp hm with hm | hm
      · exact List.mem_append_left _ (hz ▸ List.mem_map.mpr ⟨b, hm, rfl⟩)
      · rcases List.mem_cons.mp hm with hm | hm
        · exact absurd hm hb
        · exact List.mem_append_right _ (.tail _ (List.mem_append_left _ (hz ▸ List.mem_map.mpr ⟨b, hm, rfl⟩)))
    exact ⟨b, o, x, y, N _ hm2⟩
theorem ES.setAttr {a v : Expr} {i d : Nat} {fs : List (Str × PV)} {name : Str} (hv : EV g lv fd v μ σ r σ₁) (ha : EV g lv fd a μ σ₁ (.ref i) σ₂) (e : σ₂[i]? = some (.inst C d)) (e' : σ₂[d]? = some (.ns fs)) (ef : fs.lookup name = none) (hl : fs.length < 900)
    (k₁ : findIn g.K (.ref C) "__setattr__" = some (some (.builtin "object.__setattr__"))) (k₂ : plainOver g.K C = true) (k₃ : takerIn g.K C name = some none) (k₄ : hasDictIn g.K C = true)
    (hs : ∀ c : Cfg, swapsWith v (some (.Attribute a name pos')) pos.line (c.env fd) = pure false) :
    ES g lv fd (.Assign [.Attribute a name pos'] v pos) μ σ .next μ (σ₂.set d (.ns (fs ++ [(name, r)]))) := by
  intro c m α s Q E A F M S k
  refine plainObj_wpAny_Assign_Attribute (hv c m α s _ E A F M S fun v₁ α₁ h₁ tk₁ x₁ i₁ F₁ S₁ => ?_) (hs c)
  refine ha c m α₁ _ _ E A F₁ (M.ext x₁) S₁ fun v₂ α₂ h₂ tk₂ x₂ i₂ F₂ S₂ => ?_
  obtain ⟨ad, ea, rfl⟩ := i₂
  obtain ⟨ad', o1, x, y, z, _⟩ := S₂.get e
  rw [ea] at x; cases x
  obtain ⟨dx, ed, rfl⟩ := y
  obtain ⟨dx', o2, x', y', z', _⟩ := S₂.get e'
  rw [ed] at x'; cases x'
  obtain ⟨es, n, rfl, fi, le⟩ := y'
  obtain ⟨α₁', α₂', hα⟩ := List.append_of_mem (List.mem_of_getElem? ed)
  have nd : (α₁' ++ dx :: α₂').Nodup := hα ▸ S₂.nd
  obtain ⟨n1, n2, n3⟩ := List.nodup_append.mp nd
  obtain ⟨n4, n5⟩ := List.nodup_cons.mp n2
  have hN : led h₂ α₂ ++ c.rest = led h₂ α₁' ++ (dx, dictOf es n) :: (led h₂ α₂' ++ c.rest) := by
    rw [hα]; simp [led, z']
  have N := S₂.news
  rw [hN] at N
  obtain ⟨fp, pl⟩ := fi.put (hsh := PyData.keyHash g.w.params name) (t := tk₂ + 1) ef (i₁.ext x₂)
  refine set_dict (s := { s with heap := h₂, toks := tk₂ }) F₂ A.X N ⟨z, rfl, rfl, z'⟩ rfl k₁ k₂ k₃ k₄ (by rw [fi.miss ef]; rfl) rfl (upd_of (fun p hp => ?_) (fun p hp => ?_)) (by show (putL name _ (Value.str name (tk₂ + 1)) v₁ es).length ≤ 1000; omega) fun h' F' N' =>
    k .next m α₂ h' _ (x₁.trans x₂) rfl F' (M.ext (x₁.trans x₂)) (S₂.change_at hα ed N' ⟨_, _, rfl, fp, by simp; omega⟩)
  · rcases List.mem_append.mp hp with hp | hp
    · obtain ⟨b, hb, rfl⟩ := List.mem_map.mp hp
      exact fun w => n4 (w ▸ hb)
    · exact fun w => S₂.off p hp (by rw [hα]; exact List.mem_append_right _ (w ▸ .head _))
  · obtain ⟨b, hb, rfl⟩ := List.mem_map.mp hp
    exact n3 b hb dx (.head _)

/-! several names at once -/
theorem stores_ {A : Amb g lv c} {f : Str × Pos → Value → Sem Unit} {E : Value → Shared → Prop} (hf : ∀ (p : Str × Pos) (v : Value) (Q : Unit → Shared → Prop) (s : Shared), wpAny (model g.prog g.w) (c.ar fd) (storeName (c.env fd) p.1 v) Q E s → wpAny (model g.prog g.w) (c.ar fd) (f p v) Q E s)
    (hc : fd.comp = none) (hk : fd.sc.kind = .function) (ps : List (Str × Pos)) : ∀ (rs : List PV) (vs : List Value) (m : Str → Option Value) (μ : Loc) (s : Shared) (Q : Unit → Shared → Prop), (∀ p ∈ ps, fd.sc.names.lookup p.1 = some .local) → ps.length = rs.length → Iss c.lS α rs vs →
    Fr c.h₀ c.L s.heap m → MR c fd α m μ → Sto g c s.heap α σ →
    (∀ m' h' tk', Fr c.h₀ c.L h' m' → MR c fd α m' (((ps.map (·.1)).zip rs).reverse ++ μ) → Sto g c h' α σ → Q () { s with heap := h', toks := tk' }) → wpAny (model g.prog g.w) (c.ar fd) (assignInOrder (ps.map f) vs) Q E s := by
  induction ps with
  | nil =>
    intro rs vs m μ s Q hl hn I F M S k
    exact assignInOrder_nil (k _ s.heap s.toks F M S)
  | cons p ps ih =>
    intro rs vs m μ s Q hl hn I F M S k
    cases I with
    | nil => cases hn
    | cons i is =>
      refine assignInOrder_cons (hf p _ _ _ (store_ hc (hl p (.head _)) hk F M S i fun m' h' tk' F' M' S' => ?_))
      exact ih _ _ _ _ _ _ (fun q hq => hl q (.tail _ hq)) (by simpa using hn) is F' M' S' fun m₂ h₂ tk₂ F₂ M₂ S₂ => k m₂ h₂ tk₂ F₂ (by simpa using M₂) S₂
theorem ext_keeps {h h' : Heap} (he : Heap.ExtBut h.objs.size h h') : ∀ b o, h.get? b = some o → h'.get? b = some o := fun b o e => he b o (Nat.ne_of_lt (Heap.lt_size e)) e
theorem ES.unpack {elts : List Expr} {k : _} {tpos : Pos} {v : Expr} {i : Nat} (ps : List (Str × Pos)) (hv : EV g lv fd v μ σ (.ref i) σ₁) (e : σ₁[i]? = some (.tup rs)) (hc : fd.comp = none) (hk : fd.sc.kind = .function) (hl : ∀ p ∈ ps, fd.sc.names.lookup p.1 = some .local) (hn : ps.length = rs.length)
    (he : ∀ env, assignEach elts env = ps.map fun p => (false, PySem.assign (.Name p.1 p.2) env))
    (hs : ∀ c : Cfg, swapsWithSole [.Tuple elts k tpos] v pos.line (c.env fd) = pure false) (hw : ∀ c : Cfg, swappedStores [.Tuple elts k tpos] v (c.env fd) = pure none) :
    ES g lv fd (.Assign [.Tuple elts k tpos] v pos) μ σ .next (((ps.map (·.1)).zip rs).reverse ++ μ) σ₁ := by
  intro c m α s Q E A F M S kk
  refine Assign_Tuple (hv c m α s _ E A F M S fun v₁ α₁ h₁ tk₁ x₁ i₁ F₁ S₁ => ?_) (hs c) (hw c)
  obtain ⟨a, ea, rfl⟩ := i₁
  obtain ⟨vs, ht, Iv⟩ := S₁.tup_at e ea
  have hvl := Iv.len
  refine assign_Tuple_tuple rfl ht (by rw [he]; simp [hn, hvl]) (by rw [he]; simp [List.findIdx?_eq_none_iff]) fun h' hx => ?_
  have e2 : (assignEach elts (c.env fd)).map (·.2) = ps.map fun p => PySem.assign (.Name p.1 p.2) (c.env fd) := by rw [he, List.map_map]; rfl
  rw [e2]
  exact stores_ (A := A) (fun p v Q s q => assign_Name q) hc hk ps _ _ _ _ { s with heap := h', toks := tk₁ } _ hl hn Iv (F₁.keeps (ext_keeps hx)) (M.ext x₁) (S₁.keeps (ext_keeps hx)) fun m₂ h₂ tk₂ F₂ M₂ S₂ => kk .next m₂ α₁ h₂ tk₂ x₁ rfl F₂ M₂ S₂
theorem Iss.rev {lS : Addr} {rs : List PV} {vs : List Value} (h : Iss lS α rs vs) : Iss lS α rs.reverse vs.reverse := by
  induction h with
  | nil => exact .nil
  | cons i _ ih => simpa using ih.append (.one i)
theorem ES.swap {elts : List Expr} {k : _} {tpos : Pos} {v : Expr} {i : Nat} (ns : List Str) (hv : EV g lv fd v μ σ (.ref i) σ₁) (e : σ₁[i]? = some (.tup rs)) (hc : fd.comp = none) (hk : fd.sc.kind = .function) (hl : ∀ p ∈ ns, fd.sc.names.lookup p = some .local) (hn : ns.length = rs.length)
    (hs : ∀ c : Cfg, swapsWithSole [.Tuple elts k tpos] v pos.line (c.env fd) = pure false) (hw : ∀ c : Cfg, swappedStores [.Tuple elts k tpos] v (c.env fd) = pure (some ns)) :
    ES g lv fd (.Assign [.Tuple elts k tpos] v pos) μ σ .next (((ns.reverse).zip rs.reverse).reverse ++ μ) σ₁ := by
  intro c m α s Q E A F M S kk
  refine Assign_Tuple_swapped (hv c m α s _ E A F M S fun v₁ α₁ h₁ tk₁ x₁ i₁ F₁ S₁ => ?_) (hs c) (hw c)
  obtain ⟨a, ea, rfl⟩ := i₁
  obtain ⟨vs, ht, Iv⟩ := S₁.tup_at e ea
  have hvl := Iv.len
  have hsz : ns.length = vs.toArray.size := by rw [List.size_toArray, hn, hvl]
  rw [hsz]
  refine unpackItems_tuple rfl ht fun h' hx => ?_
  have e2 : (ns.reverse.map fun n => bindName (c.env fd) n) = (ns.reverse.map fun n => (n, pos)).map fun p => bindName (c.env fd) p.1 := by rw [List.map_map]; rfl
  rw [e2]
  exact stores_ (A := A) (fun p v Q s q => bindName_ q) hc hk (ns.reverse.map fun n => (n, pos)) _ _ _ _ { s with heap := h', toks := tk₁ } _ (fun p hp => by
    obtain ⟨n, hm, rfl⟩ := List.mem_map.mp hp
    exact hl n (List.mem_reverse.mp hm)) (by simp [hn]) Iv.rev (F₁.keeps (ext_keeps hx)) (M.ext x₁) (S₁.keeps (ext_keeps hx)) fun m₂ h₂ tk₂ F₂ M₂ S₂ => kk .next m₂ α₁ h₂ tk₂ x₁ rfl F₂ (by
      have : (ns.reverse.map fun n => (n, pos)).map (·.1) = ns.reverse := by rw [List.map_map]; exact List.map_id _
      rw [this] at M₂; exact M₂) S₂
end
end Mine
end
section
open PySem PySem.W PySem.Spec PySem.Calls PyProof.Rows
namespace Mine
section
variable {g : G} {lv : Nat} {fd : FD} {μ μ' μ₁ μ₂ : Loc} {σ σ' σ₁ σ₂ σ₃ : List AObj} {r r₀ r₁ r₂ : PV} {rs xs : List PV} {pos pos' px : Pos} {o : Out} {c : Cfg} {h h' : Heap} {α : List Addr} {m : Str → Option Value} {I C D : Addr} {x y : Str}

/-! texts -/
abbrev itx (i : Int) : Str := Str.ofString (toString i)
theorem CL.strI {i : Int} (hi : i.natAbs.log2 < 1920) : CL g lv (.type "str") [.int i] σ (.str (itx i)) σ := by
  intro c fd m α s Q E vs A F S hkd I k
  obtain _ | ⟨⟨t, rfl⟩, _ | _⟩ := I
  exact PySem.P.str_of_int hi (k _ α s.heap _ (List.prefix_refl _) ⟨_, rfl⟩ F S)
theorem CL.lenS (hx : x.length ≤ 16777216) : CL g lv (.builtin "len") [.str x] σ (.int x.length) σ := by
  intro c fd m α s Q E vs A F S hkd I k
  obtain _ | ⟨⟨t, rfl⟩, _ | _⟩ := I
  exact P.len_str (by omega) (k _ α s.heap _ (List.prefix_refl _) ⟨_, rfl⟩ F S)
theorem CL.intS {n : Int} (hn : PySem.intText? x = some n) (hl : x.length ≤ 640) : CL g lv (.type "int") [.str x] σ (.int n) σ := by
  intro c fd m α s Q E vs A F S hkd I k
  obtain _ | ⟨⟨t, rfl⟩, _ | _⟩ := I
  exact KIN.call_text hn hl (k _ α s.heap _ (List.prefix_refl _) ⟨_, rfl⟩ F S)
theorem OP2.notInS : OP2 g σ (compareOp .NotIn) (.str y) (.str x) (.bool (!Txt.contains x y)) := by
  rintro c lv fd m α s Q E _ _ A F S ⟨t, rfl⟩ ⟨u, rfl⟩ k; exact SB.notContains (k _ s.heap _ rfl F S)
theorem OP2.mulS {i : Int} (hx : x.length ≤ 16) (hlo : 0 ≤ i) (hhi : i ≤ 1048576) : OP2 g σ (binaryOp .Mult) (.str x) (.int i) (.str (Txt.mul x i)) := by
  rintro c lv fd m α s Q E _ _ A F S ⟨t, rfl⟩ ⟨u, rfl⟩ k; exact KXi.mul rfl hx (by omega) (by omega) fun t' tk _ _ => k _ s.heap _ ⟨_, rfl⟩ F S
theorem OP2.itemS {a b : Expr} {i : Int} (h0 : -(x.length : Int) ≤ i) (h1 : i < x.length) (hn : x.length ≤ 16777216) (hs : ∀ o i, subscripted b false o i = operate [o, i] (getItem o i)) (ht : ∀ o r, letTemporaryGo a o r = pure ()) :
    OP2 g σ (subscriptTail a b) (.str x) (.int i) (.str (Txt.item x i)) := by
  rintro c lv fd m α s Q E _ _ A F S ⟨t, rfl⟩ ⟨u, rfl⟩ k
  exact KXi.item rfl h0 h1 hn (fun _ => k _ s.heap _ ⟨_, rfl⟩ F S) (hs _ _) (ht _)
theorem EV.sliceNS {a b : Expr} {p : Pos} {j : Int} (ha : EV g lv fd a μ σ (.str x) σ₁) (hb : EV g lv fd b μ σ₁ (.int j) σ₂) (hn : x.length ≤ 16777216) (hs : ∀ o i, subscripted (.Slice none (some b) none p) false o i = operate [i, o] (getItem o i)) (ht : ∀ o r, letTemporaryGo a o r = pure ()) :
    EV g lv fd (.Subscript a (.Slice none (some b) none p) pos) μ σ (.str (Txt.slice x none (some j))) σ₂ := by
  intro c m α s Q E A F M S k
  refine Subscript_ (ha c m α s _ E A F M S fun v₁ α₁ h₁ tk₁ x₁ i₁ F₁ S₁ => ?_)
  obtain ⟨t, rfl⟩ := i₁
  refine wpAny_Slice (wpAny_pure (hb c m α₁ _ _ E A F₁ (M.ext x₁) S₁ fun v₂ α₂ h₂ tk₂ x₂ i₂ F₂ S₂ => wpAny_pure ?_))
  obtain ⟨u, rfl⟩ := i₂
  exact slice_strN_ns (s := { s with heap := h₂, toks := tk₂ }) F₂ S₂.news (fun h' t' tk F' N' => k _ α₂ h' tk (x₁.trans x₂) ⟨t', rfl⟩ F' (S₂.ofNews N')) (hs _ _) (ht _) (by rw [sizeLine_eq]; exact hn)
theorem EV.sliceSN {a b : Expr} {p : Pos} {j : Int} (ha : EV g lv fd a μ σ (.str x) σ₁) (hb : EV g lv fd b μ σ₁ (.int j) σ₂) (hn : x.length ≤ 16777216) (hs : ∀ o i, subscripted (.Slice (some b) none none p) false o i = operate [i, o] (getItem o i)) (ht : ∀ o r, letTemporaryGo a o r = pure ()) :
    EV g lv fd (.Subscript a (.Slice (some b) none none p) pos) μ σ (.str (Txt.slice x (some j) none)) σ₂ := by
  intro c m α s Q E A F M S k
  refine Subscript_ (ha c m α s _ E A F M S fun v₁ α₁ h₁ tk₁ x₁ i₁ F₁ S₁ => ?_)
  obtain ⟨t, rfl⟩ := i₁
  refine wpAny_Slice (hb c m α₁ _ _ E A F₁ (M.ext x₁) S₁ fun v₂ α₂ h₂ tk₂ x₂ i₂ F₂ S₂ => wpAny_pure (wpAny_pure ?_))
  obtain ⟨u, rfl⟩ := i₂
  exact slice_strN_sn (s := { s with heap := h₂, toks := tk₂ }) F₂ S₂.news (fun h' t' tk F' N' => k _ α₂ h' tk (x₁.trans x₂) ⟨t', rfl⟩ F' (S₂.ofNews N')) (hs _ _) (ht _) (by rw [sizeLine_eq]; exact hn)
theorem GM.split : GM g σ (.str x) (Str.ofString "split") (.builtin "str.split") := by
  rintro c lv fd m α s Q E _ pl A F S ⟨t, rfl⟩ q
  set_option maxRecDepth 100000 in exact PySem.GM.split q
theorem CL.split (hx : x.length ≤ 100000) (hy : (y.length == 0) = false) : CL g lv (.builtin "str.split") [.str x, .str y] σ (.ref σ.length) (σ ++ [.list ((Txt.split x y).map .str)]) := by
  intro c fd m α s Q E vs A F S hkd I k
  obtain _ | ⟨⟨t, rfl⟩, _ | ⟨⟨u, rfl⟩, _ | _⟩⟩ := I
  refine KSpl.split1 F S.news hy (fun D l h' tk e _ F' N' lt => ?_) (by rw [sizeLine_eq]; omega)
  refine k _ (α ++ [D]) h' tk (List.prefix_append _ _) ⟨D, by rw [← S.len]; exact at_new, rfl⟩ F' (S.ofNew N' lt ⟨_, 0, rfl, ?_⟩)
  rw [← e]
  have key : ∀ l : List (Str × Tok), Iss c.lS (α ++ [D]) ((l.map (·.1)).map PV.str) (strValues l) := fun l => by
    induction l with
    | nil => exact .nil
    | cons p l ih => exact .cons ⟨_, rfl⟩ ih
  exact key l
abbrev signs (x : Str) : List PV := x.cps.toList.map fun n => .str ⟨#[n]⟩
theorem It.strA {lS : Addr} {t : Tok} : It g I lS (signs x) (fun i o => o.cls = .type "str_ascii_iterator" ∧ o.data = .fields #[.str x t, .int i 0]) (fun _ _ => True) where
  next := by
    rintro c fd lv m α σ s Q E i r ob rfl A F S _ e p hx ha k
    obtain ⟨n, hn, rfl⟩ : ∃ n, x.cps[i]? = some n ∧ PV.str ⟨#[n]⟩ = r := by
      rw [List.getElem?_map, Option.map_eq_some_iff] at hx
      obtain ⟨n, hn, e⟩ := hx
      exact ⟨n, by simpa using hn, e⟩
    exact wpAny_pyNext_ascii_item ⟨ob, e, p⟩ hn fun h' ⟨ob', e', p'⟩ hs => k _ h' _ ob' ⟨_, rfl⟩ hs e' p'
  fin := by
    rintro c fd lv m α σ s Q E ob A F S _ e p k
    exact wpAny_pyNext_ascii_end rfl ⟨ob, e, p⟩ (by simp) fun h' he => k h' s.toks he
  self := fun A s Q E i ob e p q => wpAny_pyIter_striter_ascii ⟨ob, e, p⟩ q
theorem It.strW {lS : Addr} {t : Tok} : It g I lS (signs x) (fun i o => o.cls = .type "str_iterator" ∧ o.data = .fields #[.str x t, .int i 0]) (fun _ _ => True) where
  next := by
    rintro c fd lv m α σ s Q E i r ob rfl A F S _ e p hx ha k
    obtain ⟨n, hn, rfl⟩ : ∃ n, x.cps[i]? = some n ∧ PV.str ⟨#[n]⟩ = r := by
      rw [List.getElem?_map, Option.map_eq_some_iff] at hx
      obtain ⟨n, hn, e⟩ := hx
      exact ⟨n, by simpa using hn, e⟩
    exact wpAny_pyNext_wide_item ⟨ob, e, p⟩ hn fun h' ⟨ob', e', p'⟩ hs => k _ h' _ ob' ⟨_, rfl⟩ hs e' p'
  fin := by
    rintro c fd lv m α σ s Q E ob A F S _ e p k
    exact wpAny_pyNext_wide_end rfl ⟨ob, e, p⟩ (by simp) fun h' he => k h' s.toks he
  self := fun A s Q E i ob e p q => wpAny_pyIter_striter_wide ⟨ob, e, p⟩ q
theorem SRC.str : SRC g σ (.str x) (signs x) fun _ => True := by
  rintro c fd α s Q E _ S ⟨t, rfl⟩ k
  cases ha : x.cps.all (· < 128)
  · exact wpAny_pyIter_wide ha (k _ _ _ It.strW ⟨rfl, rfl⟩ rfl fun _ _ _ _ => trivial)
  · exact wpAny_pyIter_ascii ha (k _ _ _ It.strA ⟨rfl, rfl⟩ rfl fun _ _ _ _ => trivial)
end
end Mine
end
section
open PySem PySem.W PySem.Spec PySem.Calls PyProof.Rows
namespace Mine

abbrev bmE : List Value := [.type "Exception", .type "BaseException", .type "object"]
/-- an own class two steps below Exception -/
def exIn (K : Frag) (C : Addr) : Bool := match K.lookup C with
  | some ⟨.type "type", _, .cls cd, sl⟩ => (match cd.mro, sl.toList with
    | .ref C' :: .ref _ :: bm, [_, _, _, _, some (.builtin n), _] => C' == C && n == "Exception.__new__" && !cd.hasDel && cd.hasDict && bm == bmE
    | _, _ => false)
  | _ => false
theorem ex_cls {K : Frag} {h : Heap} {C : Addr} (X : K.In h) (q : exIn K C = true) : ∃ nm qn N bs P sn sub ab col dd k0 k1 k2 k3 k5,
    h.get? C = some (excClassObj nm qn C N bs (.ref P :: bmE) true sn sub ab col dd k0 k1 k2 k3 k5 "Exception.__new__") := by
  unfold exIn at q
  split at q
  · rename_i dd cd sl ho
    split at q
    · rename_i C' P bm k0 k1 k2 k3 n k5 hm hs
      simp only [Bool.and_eq_true, beq_iff_eq, Bool.not_eq_true'] at q
      obtain ⟨⟨⟨⟨rfl, rfl⟩, hdel⟩, hdc⟩, rfl⟩ := q
      obtain ⟨nm, bs, mro, ns, qn, hd, sn, sub, ab, col, del⟩ := cd
      dsimp only at hm hdel hdc
      subst hm hdel hdc
      have hsl : sl = #[k0, k1, k2, k3, some (.builtin "Exception.__new__"), k5] := by
        obtain ⟨l⟩ := sl
        simp only at hs
        rw [hs]
      subst hsl
      exact ⟨nm, qn, ns, bs, P, sn, sub, ab, col, dd, k0, k1, k2, k3, k5, X _ _ ho⟩
    · cases q
  · cases q

section
variable {prog : Program} {w : World} {A : Around} {R : Result → Shared → Prop} {h : Heap} {g : Array GenState} {d : Drawn} {t : Nat} {os : OsState}
variable {nm q : Str} {C N P : Addr} {bs : List Value} {sn : List Str} {sub : List Value} {ab : Bool} {col : Option Bool} {dd : Option Addr} {k0 k1 k2 k3 k5 : Option Value}
abbrev excObj (C : Addr) (dx : Option Addr) (t : Addr) : Obj := { cls := .ref C, dict := dx, data := .fields #[.ref t, .none, .none, .none, .bool false, .none] }
theorem FE : ExcBaseFacts "Exception" "Exception.__new__" "Exception.__init__" bmE := PySem.F.excBase_Exception
variable {B newId initId : String} {bm bmB : List Value}
theorem xck (F : ExcBaseFacts B newId initId bmB) (hcB : (Value.ref C :: bm).contains (.type B) = true) {M : Model} {E : Value → Shared → Prop} {rest : List Value} {Q : Unit → Shared → Prop} (hC : h.get? C = some (excClassObj nm q C N bs bm true sn sub ab col dd k0 k1 k2 k3 k5 newId))
    (hq : Q () ⟨h, g, d, t, os⟩) : wpAny M A (checkBuiltinCall newId ⟨.ref C :: rest, []⟩) Q E ⟨h, g, d, t, os⟩ := by
  have hstar := F.noStar
  simp only [checkBuiltinCall, F.newKind, F.newSplit, F.newRow]
  repeat (first | refine wpAny_loadPart_at hC ?_ | (refine wpAny_isSubtype_exc hC ?_; rw [hcB]) | refine wpAny_staticBase_exc hC ?_ | refine wpAny_madeBy_exc hC ?_ | simp only [bne_self_eq_false, Bool.false_eq_true, if_false] | wp_step)
  exact hq
theorem xnew (F : ExcBaseFacts B newId initId bmB) (hcB : (Value.ref C :: bm).contains (.type B) = true) (hcA : (Value.ref C :: bm).contains (.type "AttributeError") = false) (hcN : (Value.ref C :: bm).contains (.type "NameError") = false) {rest : List Value} (hC : h.get? C = some (excClassObj nm q C N bs bm true sn sub ab col dd k0 k1 k2 k3 k5 newId))
    (hq : R (.ok (.ret (.ref (h.objs.size + 1)))) ⟨(h.push { cls := .type "tuple", data := .seq rest.toArray }).push { cls := .ref C, data := .fields #[.ref h.objs.size, .none, .none, .none, .bool false, .none] }, g, d, t, os⟩) (hrest : rest.length ≤ sizeLine) :
    codeAny (model prog w) A (.builtin newId ⟨.ref C :: rest, []⟩) R ⟨h, g, d, t, os⟩ := by
  have hends := F.ends
  refine codeAny_builtinAt F.entry ?_
  unfold Builtin.«BaseException.__new__»
  refine PySem.wpAt_bind ?_
  show PySem.wpAt _ _ _ (stack >>= _) _ _ _
  refine PySem.wpAt_bind (PySem.wpAt_stack fun p below => PySem.wpAt_of_wpAny ?_)
  wp_walk
  refine PySem.wpAt_of_wpAny ?_
  rw [F.owner]
  repeat (first | with_reducible refine wpAny_madeHere_exc F.canon hC ?_ | with_reducible refine wpAny_loadPart_at hC ?_ | (with_reducible refine wpAny_isSubtype_exc hC ?_; first | rw [hcB] | rw [hcA] | rw [hcN]) | wp_step)
  show R _ _
  rw [Heap.size_push]
  exact hq
theorem xmake {K : Frag} {rest : List Value} {fI : Addr} (X : K.In h) (hx : exIn K C = true) (hi : findIn K (.ref C) "__init__" = some (some (.ref fI))) (hf : typeIn K (.ref fI) = some (.type "function")) (hrest : rest.length ≤ sizeLine)
    (hq : codeAny (model prog w) (A.under (.builtin "type.__call__" ⟨.ref C :: rest, []⟩)) (.call (.ref fI) ⟨.ref (h.objs.size + 1) :: rest, []⟩) (InitBack (h.objs.size + 1) R) ⟨(h.push { cls := .type "tuple", data := .seq rest.toArray }).push (excObj C none h.objs.size), g, d, t, os⟩) :
    codeAny (model prog w) A (.call (.ref C) ⟨rest, []⟩) R ⟨h, g, d, t, os⟩ := by
  obtain ⟨nm, qn, N, bs, P, sn, sub, ab, col, dd, k0, k1, k2, k3, k5, hC⟩ := ex_cls X hx
  have f1 := tc_lookup
  have f2 := tc_bind (.ref C)
  have hT : (⟨h, g, d, t, os⟩ : Shared).TypeIs (.ref C) "type" := ⟨_, hC, rfl⟩
  refine codeAny_of_tree ?_
  show wpAny _ _ (callAny (.ref C) _) _ _ _
  repeat (any_goals (first | assumption | with_reducible refine wpAny_loadPart_at hC ?_ | wp_step))
  refine ⟨rfl, ?_⟩
  refine codeAny_call_builtin_at (Code.quiet_builtin _ (by decide +kernel)) entry_typeCall (wpAny_check_type_call_sub hC ?_)
  show wpAny (model prog w) (A.under (.builtin "type.__call__" ⟨.ref C :: rest, []⟩)) (Builtin.«type.__call__» ⟨.ref C :: rest, []⟩) _ _ ⟨h, g, d, t, os⟩
  repeat (first | with_reducible refine wpAny_loadPart_at hC ?_ | with_reducible refine wpAny_madeBy_exc hC ?_ | wp_step)
  refine codeAny_call_builtin_code (Code.quiet_builtin _ FE.quiet) (xck FE rfl hC ?_)
  refine xnew FE rfl rfl rfl hC ?_ hrest
  show wpAny _ _ _ _ _ _
  have up : ∀ b o, h.get? b = some o → ((h.push { cls := .type "tuple", data := .seq rest.toArray }).push (excObj C none h.objs.size)).get? b = some o := fun b o e => Heap.get?_push_of_some _ (Heap.get?_push_of_some _ e)
  have hC₁ := up _ _ hC
  have X₁ := X.keeps up
  obtain ⟨ob, hob⟩ : ∃ ob, ob = excObj C none h.objs.size := ⟨_, rfl⟩
  have hobc : ob.cls = .ref C := by rw [hob]
  have hget : ((h.push { cls := .type "tuple", data := .seq rest.toArray }).push (excObj C none h.objs.size)).get? (h.objs.size + 1) = some ob := by rw [hob]; heap_get
  have hcC : (Value.ref C :: .ref P :: bmE).contains (.ref C) = true := by simp
  unfold isInstance
  repeat (first | (with_reducible refine wpAny_loadPart_at hget ?_; rw [hobc]) | (with_reducible refine wpAny_isSubtype_exc hC₁ ?_; rw [hcC]) | wp_step)
  show wpAny _ _ (typeLookup (.ref C) _) _ _ _
  refine (looks_findIn X₁ hi).here ?_
  refine wpAny_holding (wpAny_bind ((bind_fn X₁ _ hf).here ?_))
  refine wpAny_bind (wpAny_call ?_)
  refine codeAny_mono hq fun r s' z => ?_
  rcases r with e | (v | _ | _ | _) <;> first | exact z | exact z.elim | skip
  obtain ⟨rfl, z⟩ := z
  exact wpAny_pure (wpAny_pure z)
end
end Mine
end
section
open PySem PySem.W PySem.Spec PySem.Calls PyProof.Rows
namespace Mine
section
variable {prog : Program} {w : World} {A : Around} {E : Value → Shared → Prop} {s : Shared} {K : Frag} {C x : Addr} {name : Str} {v : Value} {ox : Obj} {vs : Array Value}
theorem ex_mro (q : exIn K C = true) : ∃ cd P, clsIn K C = some cd ∧ cd.mro = .ref C :: .ref P :: bmE ∧ cd.hasDict = true := by
  unfold exIn at q
  split at q
  · rename_i dd cd sl ho
    split at q
    · rename_i C' P bm k0 k1 k2 k3 n k5 hm hs
      simp only [Bool.and_eq_true, beq_iff_eq, Bool.not_eq_true'] at q
      obtain ⟨⟨⟨⟨rfl, rfl⟩, hdel⟩, hdc⟩, rfl⟩ := q
      exact ⟨cd, P, by unfold clsIn; rw [ho], hm, hdc⟩
    · cases q
  · cases q
theorem exc_osa {R : Result → Shared → Prop} {tk : Tok} (X : K.In s.heap) (hx : s.heap.get? x = some ox) (hcl : ox.cls = .ref C) (hd : ox.dict = none) (hdt : ox.data = .fields vs) (q : exIn K C = true) (hn : findIn K (.ref C) name = some none)
    (h : ∀ h' tk' dx, (∀ b o, b ≠ x → s.heap.get? b = some o → h'.get? b = some o) → h'.get? x = some { ox with dict := some dx } → R (.ok (.ret .none)) { s with heap := h', toks := tk' }) :
    codeAny (model prog w) A (.call (.builtin "object.__setattr__") ⟨[.ref x, .str name tk, v], []⟩) R s := by
  obtain ⟨cd, P, hc, hm, hhd⟩ := ex_mro q
  have SF := PySem.F.store_object
  have I : InstAt s.heap x ox C none := ⟨hx, hcl, by unfold notCls; rw [hdt], by rw [hd]; trivial⟩
  have ne : cd.mro.isEmpty = false := by rw [hm]; rfl
  have sub : Looks (model prog w) s.heap (isInstance (.ref x) (.type "object")) true := I.type.andThen (looks_mroIn X (by unfold mroIn; rw [hc, Option.bind_some, if_neg (by rw [ne]; decide), hm]; rfl))
  refine codeAny_call_builtin SF.slot.plain SF.entry (@check_slot (model prog w) _ _ s "object.__setattr__" "object" "__setattr__" (.ref x) [.str name tk, v] [] _ SF.kind SF.split sub (SF.args (.ref x) (.str name tk) v) ?_)
  have hmm : Looks (model prog w) s.heap (mroOf (.ref C)) cd.mro := (looks_clsIn X hc).andThen .now
  rw [osa_eq, refuse_eq]
  refine wpAny_bind (wpAny_bind (I.type.here (wpAny_bind (hmm.here ?_))))
  rw [hm, refuseLoop_ref, refuseLoop_ref, PySem.F.store_Exception.passes]
  refine wpAny_pure (wpAny_bind (I.type.here (wpAny_bind ((looks_findIn X hn).here (wpAny_bind (wpAny_pure ?_))))))
  refine wpAny_bind (wpAny_pure (wpAny_bind (wpAny_bind (wpAny_loadPart hx ?_))))
  rw [hcl]
  refine wpAny_bind ((looks_clsIn X hc).here ?_)
  rw [hhd, hd, if_neg (by decide)]
  dsimp only
  rw [if_neg (by simp [typeHasDict]), hdt]
  have hx₁ : (s.heap.push { cls := .type "dict", data := .dict #[] }).get? x = some ox := Heap.get?_push_of_some _ hx
  have hxs : x ≠ s.heap.objs.size := Nat.ne_of_lt (Heap.lt_size hx)
  refine wpAny_bind (wpAny_alloc' (wpAny_bind (wpAny_update' hx₁ (wpAny_pure ?_))))
  generalize hH : (s.heap.push { cls := .type "dict", data := .dict #[] }).update x (fun o => { cls := o.cls, dict := some s.heap.objs.size, data := o.data, slots := o.slots }) = H
  have hgd : H.get? s.heap.objs.size = some { cls := .type "dict", data := .dict #[] } := hH ▸ (Heap.get?_update_ne _ _ _ _ hxs.symm).trans (Heap.get?_push_at rfl rfl)
  have hnd : H.Ns s.heap.objs.size (fun _ => none) := ⟨_, #[], _, hgd, rfl, fun e he => absurd he (by simp), fun _ => rfl⟩
  have keepH : ∀ b o, b ≠ x → s.heap.get? b = some o → H.get? b = some o := fun b o hb e => hH ▸ (Heap.get?_update_ne _ _ _ _ hb).trans (Heap.get?_push_of_some _ e)
  have hxH : H.get? x = some { cls := ox.cls, dict := some s.heap.objs.size, data := ox.data, slots := ox.slots } := hH ▸ Heap.get?_update_self _ hx₁ (by
    obtain ⟨oc, od, odt, osl⟩ := ox
    dsimp only at hdt ⊢
    rw [hdt]; rfl)
  show wpAny _ _ (Builtin.ObjectAttr.storeInDict s.heap.objs.size (.str name tk) name v) _ _ { s with heap := H }
  unfold Builtin.ObjectAttr.storeInDict Builtin.ObjectAttr.newKeyGuard
  refine wpAny_bind (wpAny_pure (wpAny_bind (wpAny_nsSet1 (Heap.Ns1.of_empty hnd) fun h' hn' hs => ?_)))
  obtain ⟨oD, esD, epD, hoD, hdD, hcD⟩ := hn'.count (Within.cons name v Within.nil)
  refine wpAny_bind (wpAny_lookBehind hoD (by rw [hdD]; exact pastItsLine_dict (Nat.le_trans hcD (by rw [List.length_cons, List.length_nil, sizeLine_eq]; omega))) ?_)
  refine wpAny_pure ?_
  exact h h' _ s.heap.objs.size (fun b o hb e => (hs.2 b (Nat.ne_of_lt (Heap.lt_size e))).trans (keepH b o hb e)) ((hs.2 x hxs).trans hxH)
theorem exc_setAttr {Q : Unit → Shared → Prop} (X : K.In s.heap) (hx : s.heap.get? x = some ox) (hcl : ox.cls = .ref C) (hd : ox.dict = none) (hdt : ox.data = .fields vs) (q : exIn K C = true)
    (hs : findIn K (.ref C) "__setattr__" = some (some (.builtin "object.__setattr__"))) (hn : findIn K (.ref C) name = some none)
    (h : ∀ h' tk' dx, (∀ b o, b ≠ x → s.heap.get? b = some o → h'.get? b = some o) → h'.get? x = some { ox with dict := some dx } → Q () { s with heap := h', toks := tk' }) : wpAny (model prog w) A (setAttr (.ref x) name v) Q E s := by
  have I : InstAt s.heap x ox C none := ⟨hx, hcl, by unfold notCls; rw [hdt], by rw [hd]; trivial⟩
  exact set_plain X I hs (exc_osa (s := { s with toks := s.toks + 1 }) X hx hcl hd hdt q hn h)
end
section
variable {prog : Program} {w : World} {A : Around} {E : Value → Shared → Prop} {h : Heap} {g : Array GenState} {d : Drawn} {t : Nat} {os : OsState}
variable {nm q : Str} {C N : Addr} {bs bm bmB : List Value} {sn : List Str} {sub : List Value} {ab : Bool} {col : Option Bool} {dd : Option Addr} {k0 k1 k2 k3 k5 : Option Value} {B newId initId : String}
theorem xci (F : ExcBaseFacts B newId initId bmB) (hcB : (Value.ref C :: bm).contains (.type B) = true) {M : Model} {e : Addr} {oe : Obj} {rest : List Value} {Q : Unit → Shared → Prop}
    (hC : h.get? C = some (excClassObj nm q C N bs bm true sn sub ab col dd k0 k1 k2 k3 k5 newId)) (he : h.get? e = some oe) (hcls : oe.cls = .ref C) (hq : Q () ⟨h, g, d, t, os⟩) :
    wpAny M A (checkBuiltinCall initId ⟨.ref e :: rest, []⟩) Q E ⟨h, g, d, t, os⟩ := by
  have hshort := F.noStar
  simp only [checkBuiltinCall, F.initKind, F.initSplit, F.initRow]
  repeat (first | (with_reducible refine wpAny_loadPart_at he ?_; rw [hcls]) | with_reducible refine wpAny_loadPart_at hC ?_ | (with_reducible refine wpAny_isSubtype_exc hC ?_; rw [hcB]) | wp_step)
  refine wpAny_onRaise ?_
  rw [show ∀ (a b : String) (n : Nat), Bind.check ⟨.positional, "*", B, .self, [⟨"args", .varPos, false⟩]⟩ a b n (List.map (fun x => x.fst) ({ pos := Value.ref e :: rest } : Args).kw) = pure () from
    fun a b n => check_star_args _ _ _ _ _ _]
  exact wpAny_pure hq
theorem xrun (F : ExcBaseFacts B newId initId bmB) (hcB : (Value.ref C :: bm).contains (.type B) = true) {e t0 : Addr} {v : Value} {Q : Value → Shared → Prop}
    (hC : h.get? C = some (excClassObj nm q C N bs bm true sn sub ab col dd k0 k1 k2 k3 k5 newId)) (he : h.get? e = some (excObj C none t0))
    (hq : ∀ h' t1, (∀ b o, b ≠ e → h.get? b = some o → h'.get? b = some o) → h'.get? e = some (excObj C none t1) → h'.get? t1 = some { cls := .type "tuple", data := .seq [v].toArray } → h.get? t1 = none → Q .none ⟨h', g, d, t, os⟩) :
    wpAny (model prog w) A (call (.builtin initId) [.ref e, v]) Q E ⟨h, g, d, t, os⟩ := by
  refine wpAny_call (codeAny_call_builtin F.init.plain F.initEntry (xci F hcB hC he rfl ?_))
  wp_walk
  have hlt := Heap.lt_size he
  refine hq _ h.objs.size (fun b o hb eb => ?_) ?_ ?_ (Heap.get?_none_of_le (Nat.le_refl _))
  · rw [Heap.get?_update_other _ _ (Ne.symm hb)]
    exact Heap.get?_push_of_some _ eb
  · rw [Heap.get?_update_self _ (Heap.get?_push_of_some _ he) rfl]
    rfl
  · rw [Heap.get?_update_other _ _ (Nat.ne_of_lt hlt)]
    exact Heap.get?_push_size _ rfl
theorem xinit {K : Frag} {e t0 : Addr} {v : Value} {Q : Value → Shared → Prop} (X : K.In h) (hx : exIn K C = true) (he : h.get? e = some (excObj C none t0))
    (hq : ∀ h' t1, (∀ b o, b ≠ e → h.get? b = some o → h'.get? b = some o) → h'.get? e = some (excObj C none t1) → h'.get? t1 = some { cls := .type "tuple", data := .seq [v].toArray } → h.get? t1 = none → Q .none ⟨h', g, d, t, os⟩) :
    wpAny (model prog w) A (call (.builtin "Exception.__init__") [.ref e, v]) Q E ⟨h, g, d, t, os⟩ := by
  obtain ⟨nm, qn, N, bs, P, sn, sub, ab, col, dd, k0, k1, k2, k3, k5, hC⟩ := ex_cls X hx
  exact xrun FE rfl hC he hq
/-- raise, of what has been made -/
theorem xraise {K : Frag} {M : Model} {env : Env} {s : Shared} {x : Sem Value} {Q : Flow → Shared → Prop} (hx : exIn K C = true) (hh : A.handled = none)
    (h : wpAny M A x (fun v s₁ => ∃ e dx t, v = .ref e ∧ K.In s₁.heap ∧ s₁.heap.get? e = some (excObj C dx t) ∧ E (.ref e) s₁) E s) :
    wpAny M A (raiseStmt env (some x) none) Q E s := by
  unfold raiseStmt
  refine wpAny_bind (wpAny_mono h (fun v s₁ h₁ => ?_) fun _ _ x => x)
  obtain ⟨e, dx, t, rfl, X, he, hE⟩ := h₁
  obtain ⟨nm, qn, N, bs, P, sn, sub, ab, col, dd, k0, k1, k2, k3, k5, hC⟩ := ex_cls X hx
  have hcB : (Value.ref C :: .ref P :: bmE).contains (.type "BaseException") = true := rfl
  obtain ⟨hp, g, d, tk, os⟩ := s₁
  obtain ⟨ob, hob⟩ : ∃ ob, ob = excObj C dx t := ⟨_, rfl⟩
  have hobc : ob.cls = .ref C := by rw [hob]
  have hobd : ob.data = .fields #[.ref t, .none, .none, .none, .bool false, .none] := by rw [hob]
  rw [← hob] at he
  repeat (first | (with_reducible refine wpAny_loadPart_at he ?_; (try rw [hobc]); (try rw [hobd])) | with_reducible refine wpAny_loadPart_at hC ?_ | (with_reducible refine wpAny_isSubtype_exc hC ?_; rw [hcB]) | wp_step)
  rw [hobd]
  refine wpAny_pure (wpAny_pure (a := Value.none) ?_)
  rw [if_neg (by decide)]
  exact wpAny_pure (wpAny_raiseNew_none hh hE)
end
end Mine
end
section
open PySem PySem.W PySem.Spec PySem.Calls PyProof.Rows
namespace Mine
section
variable {g : G} {lv : Nat} {fd : FD} {μ μ' μ₁ μ₂ : Loc} {σ σ' σ₁ σ₂ σ₃ : List AObj} {r r₀ r₁ r₂ : PV} {rs xs : List PV} {pos pos' px : Pos} {o : Out} {c : Cfg} {h h' : Heap} {α : List Addr} {m : Str → Option Value} {I C D : Addr}
abbrev tupO (vs : List Value) : Obj := { cls := .type "tuple", data := .seq vs.toArray }
/-- an exception has been made -/
structure Thr (c : Cfg) (h : Heap) (α : List Addr) (C e t : Addr) (vs : List Value) : Prop where
  oe : Off c α e
  ot : Off c α t
  ne : e ≠ t
  he : ∃ dx, h.get? e = some (excObj C dx t)
  ht : h.get? t = some (tupO vs)
theorem Sto.of (S : Sto g c h α σ) {c' : Cfg} {h' : Heap} (el : c'.lS = c.lS) (N : News c'.h₀ c'.L h' (led h α ++ c'.rest)) (off : ∀ p ∈ c'.rest, p.1 ∉ α) : Sto g c' h' α σ := by
  refine ⟨S.len, fun i ao e => ?_, S.nd, fun p hp => N p (List.mem_append_right _ hp), off⟩
  obtain ⟨a, o', x, y, z, _⟩ := S.at_ i ao e
  have q := N (a, (h.get? a).getD default) (List.mem_append_left _ (List.mem_map.mpr ⟨a, List.mem_of_getElem? x, rfl⟩))
  rw [z] at q
  exact ⟨a, o', x, el ▸ y, q⟩
theorem off_new (F : Fr c.h₀ c.L h m) (S : Sto g c h α σ) {a : Addr} (ha : h.objs.size ≤ a) : Off c α a :=
  ⟨fun hm => absurd (S.lt hm) (Nat.not_lt.mpr ha), fun e => absurd (e ▸ F.ns.lt) (Nat.not_lt.mpr ha), by
    cases q : c.h₀.get? a with
    | none => rfl
    | some o' => exact absurd (Heap.lt_size (F.keep a o' q)) (Nat.not_lt.mpr ha), fun p hp e => absurd (Heap.lt_size (S.rest p hp).1) (Nat.not_lt.mpr (e ▸ ha))⟩
theorem off_none (F : Fr c.h₀ c.L h m) (S : Sto g c h α σ) {a : Addr} (n : h.get? a = none) : Off c α a := by
  refine ⟨fun hm => ?_, fun q => ?_, ?_, fun p hp q => ?_⟩
  · obtain ⟨i, hi, rfl⟩ := List.getElem_of_mem hm
    obtain ⟨_, o', _, _, z, _⟩ := S.mem (List.getElem?_eq_getElem hi)
    rw [n] at z; cases z
  · obtain ⟨oL, _, _, hL, _⟩ := F.ns
    rw [q] at n; rw [n] at hL; cases hL
  · cases q : c.h₀.get? a with
    | none => rfl
    | some o' => have := F.keep a o' q; rw [n] at this; cases this
  · have := (S.rest p hp).1; rw [q, n] at this; cases this
theorem typ_exc : typeOf (.type "Exception") = pure (.type "type") := by kernel_rfl
theorem stub_exc : Manifest.isStub "Exception" = false := by decide +kernel
theorem XM {fI : Addr} {name qual : Str} {params : Arguments} {scope : Scope} {dV kV doc pm cdv ct oc : Value} {an od : Option Addr} {osl : Array (Option Value)} {xs xt : Str} {p1 p2 p3 p4 p5 p6 p7 p8 p9 p10 : Pos} (hx : exIn g.K C = true) (hi : findIn g.K (.ref C) "__init__" = some (some (.ref fI))) (hf : isFn g.K (.ref fI) = true)
    (ho : g.K.lookup fI = some ⟨oc, od, .func (fnOf name qual params [.Expr (.Call (.Attribute (.Name "Exception" p1) "__init__" p2) [.Name xs p3, .Name xt p4] [] p5) p6, .Assign [.Attribute (.Name xs p7) "text" p8] (.Name xt p9) p10] scope dV kV doc pm an cdv ct), osl⟩) (hcd : codeIn g.K cdv qual = true)
    (hb : ∀ a b : Value, bindArgs (fnOf name qual params [.Expr (.Call (.Attribute (.Name "Exception" p1) "__init__" p2) [.Name xs p3, .Name xt p4] [] p5) p6, .Assign [.Attribute (.Name xs p7) "text" p8] (.Name xt p9) p10] scope dV kV doc pm an cdv ct) ⟨[a, b], []⟩ = pure [(xs, a), (xt, b)])
    (l1 : scope.names.lookup xs = some .local) (l2 : scope.names.lookup xt = some .local) (l3 : scope.names.lookup ("Exception" : Str) = some .globalImplicit) (hne : (xs == xt) = false) (d1 : (xs == ("__debug__" : Str)) = false) (d2 : (xt == ("__debug__" : Str)) = false)
    (hco : scope.isCoroutine = false) (hgen : scope.isGenerator = false) (hk : scope.kind = .function) (hcell : ∀ x ∈ scope.names, x.2 ≠ .cell)
    {pl : Env → Sem Bool} (he : ∀ env, eval (.Call (.Attribute (.Name "Exception" p1) "__init__" p2) [.Name xs p3, .Name xt p4] [] p5) env = (do let ov ← eval (.Name "Exception" p1) env; standAt p2.atName; let (f, first) ← holding [ov] (getMethod ov "__init__" (pl env)); PySem.callWith p5 f first (backTo p5 (starEach [.Name xs p3, .Name xt p4] env)) []))
    (hs1 : ∀ env : Env, swapsWith (.Call (.Attribute (.Name "Exception" p1) "__init__" p2) [.Name xs p3, .Name xt p4] [] p5) none p6.line env = pure false) (hs2 : ∀ env : Env, swapsWith (.Name xt p9) (some (.Attribute (.Name xs p7) "text" p8)) p10.line env = pure false)
    (e1 : nsIn g.K mainGlobals "Exception" = some none) (e2 : findCls g.K (.type "Exception") (.type "type") "__init__" = some (.val (.builtin "Exception.__init__")))
    (e3 : findIn g.K (.ref C) "__setattr__" = some (some (.builtin "object.__setattr__"))) (e4 : findIn g.K (.ref C) "text" = some none)
    {s : Shared} {Q E : Value → Shared → Prop} {v : Value} (A : Amb g (lv + 2) c) (F : Fr c.h₀ c.L s.heap m) (S : Sto g c s.heap α σ) (hkd : fd.cs.kind = .function)
    (k : ∀ e t α' h' tk', α <+: α' → Fr c.h₀ c.L h' m → Sto g c h' α' σ → Thr c h' α' C e t [v] → Q (.ref e) { s with heap := h', toks := tk' }) :
    wpAny (model g.prog g.w) (c.ar fd) (call (.ref C) [v]) Q E s := by
  have sz : ([v] : List Value).length ≤ sizeLine := by rw [sizeLine_eq]; show 1 ≤ 16777216; decide
  refine wpAny_call (xmake (h := s.heap) (A.X.keeps F.keep) hx hi (beq_iff_eq.mp hf) sz ?_)
  have up : ∀ b o, s.heap.get? b = some o → ((s.heap.push (tupO [v])).push (excObj C none s.heap.objs.size)).get? b = some o := fun b o e => Heap.get?_push_of_some _ (Heap.get?_push_of_some _ e)
  have hget : ((s.heap.push (tupO [v])).push (excObj C none s.heap.objs.size)).get? (s.heap.objs.size + 1) = some (excObj C none s.heap.objs.size) := by heap_get
  show codeAny _ _ _ _ { s with heap := (s.heap.push (tupO [v])).push (excObj C none s.heap.objs.size) }
  generalize hH : (s.heap.push (tupO [v])).push (excObj C none s.heap.objs.size) = H at up hget ⊢
  have F1 : Fr c.h₀ c.L H m := F.keeps up
  have S1 : Sto g c H α σ := S.keeps up
  have oe : Off c α (s.heap.objs.size + 1) := off_new F S (Nat.le_succ s.heap.objs.size)
  generalize s.heap.objs.size + 1 = e at hget oe ⊢
  generalize s.heap.objs.size = t0 at hget ⊢
  have S1' : Sto g (c.more e (excObj C none t0)) H α σ := S1.more hget oe.2.1 oe.2.2.1 oe.1
  refine code_def (env := c.fenv fd) (outer := c.outer) (binds := [(xs, .ref e), (xt, v)]) A.B F1 A.X S1'.news A.T rfl rfl hkd ho hcd (by have := A.hd; show c.dp + 1 < _; omega) (BindsTo.of_eq (hb _ _)) ?_ ?_ hco hgen hk hcell
  · intro y hy
    rcases List.mem_cons.mp hy with rfl | hy
    · exact l1
    · rw [List.mem_singleton.mp hy]; exact l2
  · intro g' L' h₁ FG F' N' B' X' T'
    let c1 : Cfg := { c with dp := c.dp + 2, un := c.un + 4, gd := ((c.ar fd).under (.builtin "type.__call__" ⟨.ref C :: [v], []⟩)).guards, outer := c.fenv fd :: c.outer, A₀ := (c.ar fd).under (.builtin "type.__call__" ⟨.ref C :: [v], []⟩), h₀ := g', L := L', cl := [] }
    have A1 : Amb g lv c1 := ⟨B', X', T', A.scr, A.fit, by have := A.hd; show c.dp + 2 + lv < _; omega, by have := A.hu; show c.un + 4 + 8 * lv < _; omega⟩
    have hex : (e, excObj C none t0) ∈ (c.more e (excObj C none t0)).rest := .head _
    have S2 : Sto g (c1.more e (excObj C none t0)) h₁ α σ := S1'.of (c' := c1.more e (excObj C none t0)) rfl N' S1'.off
    have M2 : MR (c1.more e (excObj C none t0)) ⟨qual, scope, fI, cdv, [], none⟩ α (fun y => [(xt, v), (xs, .ref e)].lookup y) [(xt, .raw v), (xs, .raw (.ref e))] := ⟨⟨_, rfl, fun y r ey => by
      rw [List.lookup_cons] at ey ⊢
      cases hy : y == xt with
      | true => rw [hy] at ey; cases ey; exact ⟨_, rfl, rfl⟩
      | false =>
        rw [hy] at ey
        dsimp only at ey ⊢
        rw [List.lookup_cons] at ey ⊢
        cases hy' : y == xs with
        | true => rw [hy'] at ey; cases ey; exact ⟨_, rfl, rfl⟩
        | false => rw [hy'] at ey; cases ey⟩, trivial, fun _ _ e => nomatch e⟩
    let fd1 : FD := ⟨qual, scope, fI, cdv, [], none⟩
    have q1 : List.lookup xs [(xt, PV.raw v), (xs, PV.raw (.ref e))] = some (.raw (.ref e)) := by rw [List.lookup_cons, hne]; simp
    have q2 : List.lookup xt [(xt, PV.raw v), (xs, PV.raw (.ref e))] = some (.raw v) := by simp
    show wpAny (model g.prog g.w) ((c1.more e (excObj C none t0)).ar fd1) (execs _ ((c1.more e (excObj C none t0)).env fd1)) _ _ _
    refine wpAny_execs_cons (wpAny_Expr_any (MethodCall_ (EV.bltn (fd := fd1) (x := "Exception") e1 (by boot_fast) (by decide) l3 hk (by decide) (c1.more e (excObj C none t0)) _ α _ _ _ A1.more F' M2 S2 fun v₁ α₁ h₂ tk₂ x₂ i₂ F₂ S₂ => ?_) (he _)) ?_ (hs1 _))
    · cases i₂
      have hh : handedIn (.builtin "Exception.__init__") = true := rfl
      refine method_type (K := g.K) (T := "Exception") (v := .builtin "Exception.__init__") (s := { s with heap := h₂, toks := tk₂ }) F₂ X' typ_exc stub_exc e2 hh ?_
      refine AR.callWith (first := []) (AR.cons (EV.name (fd := fd1) q1 l1 hk d1) (AR.cons (EV.name (fd := fd1) q2 l2 hk d2) AR.nil (fun _ => rfl)) (fun _ => rfl)) KP.builtin (s := { s with heap := h₂, toks := tk₂ + 1 }) A1.more F₂ (M2.ext x₂) S₂ fun vs α₂ h₃ tk₃ x₃ i₃ F₃ S₃ => ?_
      have ev : vs = [.ref e, v] := by
        cases i₃ with
        | cons a b => cases b with
          | cons a' b' => cases b'; have a : _ = Value.ref e := a; have a' : _ = v := a'; rw [a, a']
      rw [ev, List.nil_append]
      have zE := S₃.rest _ (.head _)
      have dE := S₃.off _ (.head _)
      refine xinit (X'.keeps F₃.keep) hx zE.1 fun h₄ t1 k4 he4 ht4 n4 => ?_
      have nte : t1 ≠ e := fun q => by rw [q] at n4; have := zE.1; rw [n4] at this; cases this
      have q4 : Off c1 α₂ t1 := off_none (c := c1) F₃ (Sto.less S₃) n4
      have qE : Off c1 α₂ e := ⟨dE, zE.2.1, zE.2.2, fun p hp => oe.2.2.2 p hp⟩
      have F4 : Fr c1.h₀ c1.L h₄ _ := fr_same F₃ k4 qE
      have S4 : Sto g ((c1.more e (excObj C none t1)).more t1 (tupO [v])) h₄ α₂ σ := (((S₃.less).but k4 qE.1 qE.2.2.2).more he4 qE.2.1 qE.2.2.1 qE.1).more ht4 q4.2.1 q4.2.2.1 q4.1
      refine wpAny_execs_cons (plainObj_wpAny_Assign_Attribute (EV.name (fd := fd1) q2 l2 hk d2 ((c1.more e (excObj C none t1)).more t1 (tupO [v])) _ α₂ { s with heap := h₄, toks := _ } _ _ A1.more.more F4 (((M2.less rfl).ext (x₂.trans x₃)).more rfl |>.more rfl) S4 fun v₅ α₅ h₅ tk₅ x₅ i₅ F₅ S₅ => ?_) (hs2 _))
      refine EV.name (fd := fd1) q1 l1 hk d1 ((c1.more e (excObj C none t1)).more t1 (tupO [v])) _ α₅ { s with heap := h₅, toks := tk₅ } _ _ A1.more.more F₅ ((((M2.less rfl).ext (x₂.trans (x₃.trans x₅))).more rfl).more rfl) S₅ fun v₆ α₆ h₆ tk₆ x₆ i₆ F₆ S₆ => ?_
      rw [show v₅ = v from i₅, show v₆ = .ref e from i₆]
      have zT := S₆.rest _ (.head _)
      have zE6 := S₆.rest _ (.tail _ (.head _))
      have dT := S₆.off _ (.head _)
      have dE6 := S₆.off _ (.tail _ (.head _))
      refine exc_setAttr (s := { s with heap := h₆, toks := tk₆ }) (X'.keeps F₆.keep) zE6.1 rfl rfl rfl hx e3 e4 fun h₇ tk₇ dx k7 he7 => wpAny_execs_nil ?_
      have qE6 : Off c1 α₆ e := ⟨dE6, zE6.2.1, zE6.2.2, fun p hp => oe.2.2.2 p hp⟩
      have S7 : Sto g c1 h₇ α₆ σ := S₆.less.less.but k7 qE6.1 qE6.2.2.2
      have ht7 := k7 t1 _ nte zT.1
      have S8 := (S7.more he7 qE6.2.1 qE6.2.2.1 qE6.1).more ht7 zT.2.1 zT.2.2 dT
      have px : α <+: α₆ := x₂.trans (x₃.trans (x₅.trans x₆))
      refine leaveK_ (fr_same (c := c1) F₆ k7 qE6) S8.news fun F₈ N₈ => ⟨rfl, ?_⟩
      have nE := N₈ (e, _) (List.mem_append_right _ (.tail _ (.head _)))
      have nT := N₈ (t1, _) (List.mem_append_right _ (.head _))
      exact k e t1 α₆ h₇ _ px F₈ (S7.of (c' := c) rfl (fun p hp => (List.mem_append.mp hp).elim (fun hp => N₈ p (List.mem_append_left _ hp)) fun hp => N₈ p (List.mem_append_right _ (.tail _ (.tail _ hp)))) S7.off)
        ⟨⟨dE6, nE.2.1, nE.2.2, fun p hp => oe.2.2.2 p hp⟩, ⟨dT, nT.2.1, nT.2.2, q4.2.2.2⟩, Ne.symm nte, ⟨_, he7⟩, ht7⟩
    · show ((envOf qual scope L' fI cdv).scope.kind == ScopeKind.module && _) = false
      show (scope.kind == _ && _) = false
      rw [hk]; rfl
end
end Mine
end
section
open PySem PySem.W PySem.Spec PySem.Calls PyProof.Rows
namespace Mine
section
variable {g : G} {lv : Nat} {fd : FD} {μ μ' μ₁ μ₂ : Loc} {σ σ' σ₁ σ₂ σ₃ τ : List AObj} {r r₀ r₁ r₂ : PV} {rs xs : List PV} {pos pos' px : Pos} {o : Out} {c : Cfg} {h h' : Heap} {α : List Addr} {m : Str → Option Value} {I C D : Addr}
/-- the making of an exception -/
def XMake (g : G) (lv : Nat) (C : Addr) : Prop :=
  ∀ (fd : FD) (c : Cfg) (m : Str → Option Value) (α : List Addr) (σ : List AObj) (s : Shared) (Q E : Value → Shared → Prop) (v : Value), Amb g lv c → Fr c.h₀ c.L s.heap m → Sto g c s.heap α σ → fd.cs.kind = .function →
    (∀ e t α' h' tk', α <+: α' → Fr c.h₀ c.L h' m → Sto g c h' α' σ → Thr c h' α' C e t [v] → Q (.ref e) { s with heap := h', toks := tk' }) → wpAny (model g.prog g.w) (c.ar fd) (call (.ref C) [v]) Q E s
/-- statements that end in an exception -/
def RX (g : G) (lv : Nat) (fd : FD) (C : Addr) (b : List Stmt) (μ : Loc) (σ σ' : List AObj) : Prop :=
  ∀ (c : Cfg) (m : Str → Option Value) (α : List Addr) (s : Shared) (Q : Flow → Shared → Prop) (E : Value → Shared → Prop),
    Amb g lv c → Fr c.h₀ c.L s.heap m → MR c fd α m μ → Sto g c s.heap α σ →
    (∀ e t vs m' α' h' tk', α <+: α' → Fr c.h₀ c.L h' m' → Sto g c h' α' σ' → Thr c h' α' C e t vs → E (.ref e) { s with heap := h', toks := tk' }) →
    wpAny (model g.prog g.w) (c.ar fd) (execs b (c.env fd)) Q E s
theorem RX.cons {st : Stmt} {b : List Stmt} (h : ES g lv fd st μ σ .next μ₁ σ₁) (h' : RX g lv fd C b μ₁ σ₁ σ') : RX g lv fd C (st :: b) μ σ σ' := by
  intro c m α s Q E A F M S k
  refine wpAny_execs_cons (h c m α s _ E A F M S fun f m₁ α₁ h₁ tk₁ x₁ i₁ F₁ M₁ S₁ => ?_)
  cases i₁
  exact h' c m₁ α₁ _ Q E A F₁ M₁ S₁ fun e t vs m₂ α₂ h₂ tk₂ x₂ F₂ S₂ T => k e t vs m₂ α₂ h₂ tk₂ (x₁.trans x₂) F₂ S₂ T
theorem RX.ifs {t : Expr} {b b' rest : List Stmt} {y : Bool} (h : TR g lv fd t μ σ y σ₁) (h' : RX g lv fd C (if y = true then b else b') μ σ₁ σ') : RX g lv fd C (.If t b b' pos :: rest) μ σ σ' := by
  intro c m α s Q E A F M S k
  refine wpAny_execs_cons (wpAny_If (h c m α s _ E A F M S fun α₁ h₁ tk₁ x₁ F₁ S₁ => ?_))
  have q := fun Q => h' c m α₁ { s with heap := h₁, toks := tk₁ } Q E A F₁ (M.ext x₁) S₁ fun e t vs m₂ α₂ h₂ tk₂ x₂ F₂ S₂ T => k e t vs m₂ α₂ h₂ tk₂ (x₁.trans x₂) F₂ S₂ T
  cases y <;> exact q _
theorem RX.raise {x : Str} {np cpos : Pos} {a : Expr} {rest : List Stmt} (hx : exIn g.K C = true) (hm : XMake g lv C) (hf : EV g lv fd (.Name x np) μ σ (.raw (.ref C)) σ) (ha : AR g lv fd [a] μ σ [r] σ₁) (hk : KP g (.ref C)) (hkd : fd.cs.kind = .function)
    (he : ∀ env, eval (.Call (.Name x np) [a] [] cpos) env = (do let r ← eval (.Name x np) env; PySem.callWith cpos r [] (backTo cpos (starEach [a] env)) (backToKw cpos (keywordEach [] env)))) :
    RX g lv fd C (.Raise (some (.Call (.Name x np) [a] [] cpos)) none pos :: rest) μ σ σ₁ := by
  intro c m α s Q E A F M S k
  refine wpAny_execs_cons ?_
  rw [arm_exec_Raise]
  refine wpAny_bind (wpAny_standAt (xraise hx rfl (wpAny_bind (wpAny_mono (Call_ (hf c m α s _ E A F M S fun v₁ α₁ h₁ tk₁ x₁ i₁ F₁ S₁ => ?_) (he _)) (fun v s₁ h₁ => wpAny_bind (wpAny_standAt (wpAny_pure h₁))) fun _ _ x => x))))
  subst i₁
  refine AR.callWith (first := []) ha hk A F₁ (M.ext x₁) S₁ fun vs α₂ h₂ tk₂ x₂ i₂ F₂ S₂ => ?_
  obtain ⟨v, rfl⟩ : ∃ v, vs = [v] := by cases i₂ with | cons a b => cases b; exact ⟨_, rfl⟩
  refine hm fd c m α₂ σ₁ _ _ E v A F₂ S₂ hkd fun e t α₃ h₃ tk₃ x₃ F₃ S₃ T => ?_
  obtain ⟨dx, he⟩ := T.he
  exact ⟨e, dx, t, rfl, A.X.keeps F₃.keep, he, k e t [v] m α₃ h₃ tk₃ ((x₁.trans x₂).trans x₃) F₃ S₃ T⟩

section
variable {M : Model} {A : Around} {E : Value → Shared → Prop} {s' : Shared} {base g₀ : Heap} {outer : List Env} {L a e t : Addr} {name : Str} {scope : Scope} {cd : Value} {Q : Unit → Shared → Prop} {news : List (Addr × Obj)} {vs : List Value} {dx : Option Addr}
theorem leave_thr (K : Below A base outer g₀) (F : Fr g₀ L s'.heap m) (N : News g₀ L s'.heap news) (he : s'.heap.get? e = some (excObj C dx t)) (ht : s'.heap.get? t = some (tupO vs))
    (e1 : g₀.get? e = none) (e2 : ∀ p ∈ news, p.1 ≠ e) (t1 : g₀.get? t = none) (t2 : ∀ p ∈ news, p.1 ≠ t) (tL : t ≠ L)
    (hQ : ∀ h', RaisedS base g₀ outer e (.ref C) t vs news h' → g₀.UpToSlots h' → Q () { s' with heap := h' }) (hk : scope.kind = .function) :
    wpAny M (A.deeper (envOf name scope L a cd)) (leaving (envOf name scope L a cd) (.ref e)) Q E s' := by
  have K' := K.push (name := name) (a := a) (cd := cd) F hk
  generalize hfs : e :: t :: (envOf name scope L a cd :: outer).filterMap (·.frame) = fs
  have hin : ∀ env ∈ (envOf name scope L a cd :: outer), ∀ b, env.frame = some b → b ∈ fs := fun env he b hb => hfs ▸ .tail _ (.tail _ (List.mem_filterMap.mpr ⟨env, he, hb⟩))
  have cases3 : ∀ b, b ∈ fs → b = e ∨ b = t ∨ b ∈ (envOf name scope L a cd :: outer).filterMap (·.frame) := fun b hb => by
    rw [← hfs] at hb
    rcases List.mem_cons.mp hb with h | hb
    · exact .inl h
    · exact .inr (List.mem_cons.mp hb)
  have be : base.get? e = none := fresh_of_stays K.stays e1
  have bt : base.get? t = none := fresh_of_stays K.stays t1
  have st : base.StaysIn (hideAll s'.heap fs) := fun b o q => hideAll_get _ (K'.stays b o q) fun hm => by
    rcases cases3 b hm with rfl | rfl | hm
    · rw [be] at q; cases q
    · rw [bt] at q; cases q
    · rw [(K'.frames.mem hm).1] at q; cases q
  have sg : ∀ b o, g₀.get? b = some o → b ∉ outer.filterMap (·.frame) → (hideAll s'.heap fs).get? b = some o := fun b o q nm => hideAll_get _ (F.keep b o q) fun hm => by
    rcases cases3 b hm with rfl | rfl | hm
    · rw [e1] at q; cases q
    · rw [t1] at q; cases q
    · rcases kts_mem hm with z | z
      · rw [z, kts_self F] at q
        cases q
      · exact nm z
  have hl : ∀ q ∈ news, (hideAll s'.heap fs).get? q.1 = some q.2 ∧ g₀.get? q.1 = none ∧ base.get? q.1 = none := fun q hq => by
    refine ⟨hideAll_get _ (N q hq).1 fun hm => ?_, (N q hq).2.2, fresh_of_stays K.stays (N q hq).2.2⟩
    rcases cases3 _ hm with z | z | hm
    · exact e2 q hq z
    · exact t2 q hq z
    · obtain ⟨env, he, hf⟩ := List.mem_filterMap.mp hm
      rcases List.mem_cons.mp he with rfl | he
      · exact (N q hq).2.1 (Option.some.inj hf).symm
      · obtain ⟨o, ho, _⟩ := (K.frames.mem (List.mem_filterMap.mpr ⟨env, he, hf⟩)).2
        rw [(N q hq).2.2] at ho; cases ho
  have hen : (hideAll s'.heap fs).get? e = none := hideAll_none _ (hfs ▸ .head _)
  have htn : (hideAll s'.heap fs).get? t = none := hideAll_none _ (hfs ▸ .tail _ (.head _))
  refine wpAny_leaving_firstW (a0 := .ref t) K'.stack (funFrames_hide K'.frames hin) rfl he (fun b o q => of_hideAll _ q) hen rfl rfl rfl fun h' hL => ?_
  obtain ⟨k1, ⟨_, _, k2⟩, k3, k4⟩ := hL
  exact hQ h' ⟨⟨_, st, sg, hl, ⟨k1, hen, k2, k3⟩, htn⟩, Heap.TupAt.of_slots ⟨_, _, ht, rfl, rfl⟩ k4⟩ ((Heap.UpToSlots.of_keeps F.keep).trans k4)
end
/-- a call that ends in an exception -/
def CLX (g : G) (lv : Nat) (fv : Value) (C : Addr) (rs : List PV) (σ : List AObj) : Prop :=
  ∀ (c : Cfg) (fd : FD) (m : Str → Option Value) (α : List Addr) (s : Shared) (Q E : Value → Shared → Prop) (vs : List Value),
    Amb g lv c → Fr c.h₀ c.L s.heap m → Sto g c s.heap α σ → fd.cs.kind = .function → Iss c.lS α rs vs →
    (∀ G₁ e t vs' news h' tk', Fr c.h₀ c.L G₁ m → (∀ (c' : Cfg) (h'' : Heap), c'.lS = c.lS → c'.rest = c.rest → News c'.h₀ c'.L h'' news → Sto g c' h'' α σ) → RaisedS c.base G₁ (c.fenv fd :: c.outer) e (.ref C) t vs' news h' → G₁.UpToSlots h' → E (.ref e) { s with heap := h', toks := tk' }) →
    wpAny (model g.prog g.w) (c.ar fd) (call fv vs) Q E s
theorem CLX.def_ {f : Addr} {name qual : Str} {params : Arguments} {body : List Stmt} {scope : Scope} {dV kV doc pm cdv ct oc : Value} {an od : Option Addr} {osl : Array (Option Value)} (pn : List Str)
    (ho : g.K.lookup f = some ⟨oc, od, .func (fnOf name qual params body scope dV kV doc pm an cdv ct), osl⟩) (hcd : codeIn g.K cdv qual = true)
    (hb : ∀ vs : List Value, vs.length = pn.length → bindArgs (fnOf name qual params body scope dV kV doc pm an cdv ct) ⟨vs, []⟩ = pure (pn.zip vs))
    (hl : ∀ x ∈ pn, scope.names.lookup x = some .local) (hn : rs.length = pn.length)
    (h : RX g lv ⟨qual, scope, f, cdv, [], none⟩ C body (pn.zip rs).reverse σ (σ ++ τ))
    (hco : scope.isCoroutine = false) (hgen : scope.isGenerator = false) (hk : scope.kind = .function) (hcell : ∀ x ∈ scope.names, x.2 ≠ .cell) : CLX g (lv + 1) (.ref f) C rs σ := by
  intro c fd m α s Q E vs A F S hkd I k
  refine wpAny_call ?_
  have hlen : vs.length = pn.length := by rw [I.len, hn]
  refine code_def (env := c.fenv fd) (outer := c.outer) (binds := pn.zip vs) A.B F A.X S.news A.T rfl rfl hkd ho hcd (by have := A.hd; show c.dp < _; omega) (BindsTo.of_eq (hb vs hlen)) ?_ ?_ hco hgen hk hcell
  · intro y hy; exact hl _ (List.of_mem_zip hy).1
  · intro g' L' h₁ FG F' N' B' X' T'
    let c' : Cfg := { c with dp := c.dp + 1, un := c.un + 3, outer := c.fenv fd :: c.outer, A₀ := c.ar fd, h₀ := g', L := L', cl := [] }
    have Sg : Sto g c' h₁ α σ := S.of (c' := c') rfl N' S.off
    have A' : Amb g lv c' := ⟨B', X', T', A.scr, A.fit, by have := A.hd; show c.dp + 1 + lv < _; omega, by have := A.hu; show c.un + 3 + 8 * lv < _; omega⟩
    have M' : MR c' ⟨qual, scope, f, cdv, [], none⟩ α (fun y => (pn.zip vs).reverse.lookup y) (pn.zip rs).reverse := by
      have q : NR c.lS α (fun y => List.lookup y (pn.zip vs).reverse) (pn.zip rs).reverse := by
        have := zip_mr (ns := pn) I [] [] (fun _ _ e => by cases e)
        simpa using this
      exact ⟨⟨_, rfl, q⟩, trivial, fun _ _ e => nomatch e⟩
    refine h c' _ α _ _ _ A' F' M' Sg fun e t vs' m₂ α₂ h₂ tk₂ x₂ F₂ S₂ T => ?_
    obtain ⟨β, rfl⟩ := x₂
    have S₃ : Sto g c' h₂ α σ := Sto.drop Sg rfl S₂
    obtain ⟨dx, he⟩ := T.he
    have nm : ∀ b, Off c' (α ++ β) b → ∀ p ∈ led h₂ α ++ c.rest, p.1 ≠ b := fun b ob p hp q => by
      rcases List.mem_append.mp hp with hp | hp
      · obtain ⟨a, ha, rfl⟩ := List.mem_map.mp hp
        exact ob.1 (List.mem_append_left _ (q ▸ ha))
      · exact ob.2.2.2 p hp q
    exact leave_thr B' F₂ S₃.news he T.ht T.oe.2.2.1 (nm e T.oe) T.ot.2.2.1 (nm t T.ot) T.ot.2.1 (fun h' R U => k g' e t vs' _ h' tk₂ FG (fun c'' h'' el er N => S₃.of el (by rw [er]; exact N) (by rw [er]; exact S.off)) R U) hk
end
end Mine
end
section
open PySem PySem.W PySem.Spec PySem.Calls PyProof.Rows
namespace Mine
section
variable {g : G} {lv : Nat} {fd : FD} {μ μ' μ₁ μ₂ : Loc} {σ σ' σ₁ σ₂ σ₃ τ : List AObj} {r r₀ r₁ r₂ : PV} {rs xs : List PV} {pos pos' px : Pos} {o : Out} {c : Cfg} {h h' : Heap} {α : List Addr} {m : Str → Option Value} {I C D : Addr}
/-- statements of a def right below the top: they end in a bool, perhaps behind a caught exception -/
def TRX (g : G) (lv : Nat) (fd : FD) (b : Bool) (stmts : List Stmt) (μ : Loc) (σ : List AObj) : Prop :=
  ∀ (c : Cfg) (m : Str → Option Value) (α : List Addr) (s : Shared) (Q : Flow → Shared → Prop) (E : Value → Shared → Prop),
    Amb g lv c → g.K.In c.base → Top c.p c.loose c.mean c.mg c.mb c.base → c.cl = [] → KtsDicts (c.outer.filterMap (·.frame)) c.h₀ → c.ar fd = c.A₀.deeper (envOf fd.cn fd.cs c.L fd.a fd.ccd) →
    Fr c.h₀ c.L s.heap m → MR c fd α m μ → Sto g c s.heap α σ →
    (∀ h' g' m' tk', KtsTurn (c.outer.filterMap (·.frame)) c.h₀ g' → Fr g' c.L h' m' → Q (.ret (.bool b)) { s with heap := h', toks := tk' }) →
    wpAny (model g.prog g.w) (c.ar fd) (execs stmts (c.env fd)) Q E s
theorem TRX.of {b : Bool} {stmts : List Stmt} (h : EX g lv fd stmts μ σ (.ret (.bool b)) μ' σ') : TRX g lv fd b stmts μ σ := by
  intro c m α s Q E A XB TB hcl D hA F M S k
  refine h c m α s Q E A F M S fun f m' α' h' tk' x i F' M' S' => ?_
  obtain ⟨v, rfl, rfl⟩ := i
  exact k h' c.h₀ m' tk' .refl F'
theorem TRX.cons {b : Bool} {st : Stmt} {stmts : List Stmt} (h : ES g lv fd st μ σ .next μ₁ σ₁) (h' : TRX g lv fd b stmts μ₁ σ₁) : TRX g lv fd b (st :: stmts) μ σ := by
  intro c m α s Q E A XB TB hcl D hA F M S k
  refine wpAny_execs_cons (h c m α s _ E A F M S fun f m₁ α₁ h₁ tk₁ x₁ i₁ F₁ M₁ S₁ => ?_)
  cases i₁
  exact h' c m₁ α₁ _ Q E A XB TB hcl D hA F₁ M₁ S₁ k
theorem TRX.try_ {b : Bool} {xv xf xb xr : Str} {pv pf pb pr p0 cp ap hp rp tp : Pos} {args : List Expr} {n0 : Nat} {rest : List Stmt} {fv : Value} (hf : EV g lv fd (.Name xf pf) μ σ (.raw fv) σ) (ha : AR g lv fd args μ σ rs σ₁) (hcx : CLX g lv fv C rs σ₁) (hk : KP g fv) (hkd : fd.cs.kind = .function) (hcomp : fd.comp = none)
    (he : ∀ env, eval (.Call (.Name xf pf) args [] cp) env = (do let r ← eval (.Name xf pf) env; PySem.callWith cp r [] (backTo cp (starEach args env)) (backToKw cp (keywordEach [] env))))
    (hsw : ∀ c : Cfg, swapsWith (.Call (.Name xf pf) args [] cp) (some (.Name xv pv)) ap.line (c.env fd) = pure false)
    (hr : μ.lookup xr = some r) (hrb : (r = .none ∧ b = true) ∨ (∃ i, r = .int i) ∧ b = false) (hl : fd.cs.names.lookup xr = some .local) (hd : (xr == ("__debug__" : Str)) = false)
    (ex : nsIn g.K mainGlobals xb = some (some (.ref C))) (q : ktsIn g.K C "BaseException" = true) (hlb : fd.cs.names.lookup xb = some .globalImplicit) (hdb : (xb == ("__debug__" : Str)) = false) (hm : behindInMarks .Is (.Constant .none n0 p0) = false) :
    TRX g lv fd b (.Try [.Assign [.Name xv pv] (.Call (.Name xf pf) args [] cp) ap] [.ExceptHandler (some (.Name xb pb)) none [.Return (some (.Compare (.Name xr pr) [.Is] [.Constant .none n0 p0] pos)) rp] hp] [] [] tp :: rest) μ σ := by
  intro c m α s Q E A XB TB hcl D hA F M S k
  have hE : c.env fd = envOf fd.cn fd.cs c.L fd.a fd.ccd := by
    show envAt c fd fd.comp = _
    rw [hcomp]
    show envX fd.cn fd.cs c.L fd.a fd.ccd c.cl = _
    rw [hcl]; rfl
  have hF : c.fenv fd = envOf fd.cn fd.cs c.L fd.a fd.ccd := by
    show envX fd.cn fd.cs c.L fd.a fd.ccd c.cl = _
    rw [hcl]; rfl
  obtain ⟨nm, hn, kk⟩ := M.loc
  rw [hcomp] at hn
  obtain rfl : nm = m := hn
  obtain ⟨vr, hvr, ir⟩ := kk xr r hr
  refine wpAny_execs_cons (wpAny_Try_except (wpAny_execs_cons (wpAny_Assign_Name (Call_ (hf c nm α s _ _ A F M S fun v₁ α₁ h₁ tk₁ x₁ i₁ F₁ S₁ => ?_) (he _)) (hsw c))))
  subst i₁
  refine AR.callWith (first := []) ha hk A F₁ (M.ext x₁) S₁ fun vs α₂ h₂ tk₂ x₂ i₂ F₂ S₂ => ?_
  refine hcx c fd nm α₂ _ _ _ vs A F₂ S₂ hkd i₂ fun G₁ e t vs' news h' tk' FG _ R U => ?_
  rw [hF] at R
  rw [hA, hE]
  refine wpAny_mono (caught_SO0 (E := fun _ _ => False) (s' := { s with heap := h', toks := tk' }) R FG A.B U XB TB D .refl ex q (fun h₃ g' n₂ T F' N' G' N'' B' X' P' D' => ?_) hkd hlb hdb .never) (fun _ s₂ h₂ => wpAny_mono h₂ (fun _ s₃ h₃ => wpAny_mono h₃ (fun _ _ q => q) (fun _ _ f => f.elim)) (fun _ _ f => f.elim)) (fun _ _ f => f.elim)
  refine wpAny_execs_cons (wpAny_Return_some (wpAny_Compare1 (wpAny_Name (wpAny_loadName_local hkd hl F'.ns hvr (Constant_none ?_)) hd) hm))
  rcases hrb with ⟨rfl, rfl⟩ | ⟨⟨i, rfl⟩, rfl⟩
  · obtain rfl : vr = .none := ir
    exact is_none_none (k h₃ g' nm _ T F')
  · obtain ⟨ti, rfl⟩ := ir
    exact is_int_none (k h₃ g' nm _ T F')
theorem call0 {f : Addr} {name qual : Str} {params : Arguments} {body : List Stmt} {scope : Scope} {dV kV doc pm cdv ct oc : Value} {an od : Option Addr} {osl : Array (Option Value)} {b : Bool} (pn : List Str)
    (ho : g.K.lookup f = some ⟨oc, od, .func (fnOf name qual params body scope dV kV doc pm an cdv ct), osl⟩) (hcd : codeIn g.K cdv qual = true)
    (hb : ∀ vs : List Value, vs.length = pn.length → bindArgs (fnOf name qual params body scope dV kV doc pm an cdv ct) ⟨vs, []⟩ = pure (pn.zip vs))
    (hl : ∀ x ∈ pn, scope.names.lookup x = some .local) (hn : rs.length = pn.length)
    (h : TRX g lv ⟨qual, scope, f, cdv, [], none⟩ b body (pn.zip rs).reverse σ)
    (hco : scope.isCoroutine = false) (hgen : scope.isGenerator = false) (hk : scope.kind = .function) (hcell : ∀ x ∈ scope.names, x.2 ≠ .cell)
    {s : Shared} {Q E : Value → Shared → Prop} {vs : List Value} (A : Amb g (lv + 1) c) (ho0 : c.outer = []) (hbase : c.base = c.h₀) (hcl : c.cl = []) (F : Fr c.h₀ c.L s.heap m) (S : Sto g c s.heap α σ) (hkd : fd.cs.kind = .function) (I : Iss c.lS α rs vs)
    (k : ∀ h' tk', Fr c.h₀ c.L h' m → Q (.bool b) { s with heap := h', toks := tk' }) : wpAny (model g.prog g.w) (c.ar fd) (call (.ref f) vs) Q E s := by
  have hF : c.fenv fd = envOf fd.cn fd.cs c.L fd.a fd.ccd := by
    show envX fd.cn fd.cs c.L fd.a fd.ccd c.cl = _
    rw [hcl]; rfl
  have hlen : vs.length = pn.length := by rw [I.len, hn]
  have hfr : (c.ar fd).frames = some [envOf fd.cn fd.cs c.L fd.a fd.ccd] := by
    show some (c.fenv fd :: c.outer) = _
    rw [hF, ho0]
  have B0 : Below c.A₀ c.base [] c.h₀ := ho0 ▸ A.B
  refine wpAny_call (code_defS0 (binds := pn.zip vs) B0 F A.X S.news A.T hfr ho hcd (by have := A.hd; show c.dp < _; omega) (BindsTo.of_eq (hb vs hlen)) ?_ ?_ hkd hco hgen hk hcell)
  · intro y hy; exact hl _ (List.of_mem_zip hy).1
  · intro g' L' h₁ FG F' N' B' X' T' D'
    let c' : Cfg := { c with dp := c.dp + 1, un := c.un + 3, outer := [envOf fd.cn fd.cs c.L fd.a fd.ccd], A₀ := c.ar fd, h₀ := g', L := L', cl := [] }
    have Sg : Sto g c' h₁ α σ := S.of (c' := c') rfl N' S.off
    have A' : Amb g lv c' := ⟨B', X', T', A.scr, A.fit, by have := A.hd; show c.dp + 1 + lv < _; omega, by have := A.hu; show c.un + 3 + 8 * lv < _; omega⟩
    have M' : MR c' ⟨qual, scope, f, cdv, [], none⟩ α (fun y => (pn.zip vs).reverse.lookup y) (pn.zip rs).reverse := by
      have q : NR c.lS α (fun y => List.lookup y (pn.zip vs).reverse) (pn.zip rs).reverse := by
        have := zip_mr (ns := pn) I [] [] (fun _ _ e => by cases e)
        simpa using this
      exact ⟨⟨_, rfl, q⟩, trivial, fun _ _ e => nomatch e⟩
    have hA : (c.ar fd).deeper (envOf qual scope L' f cdv) = c'.ar ⟨qual, scope, f, cdv, [], none⟩ := by
      show ({ (c.ar fd) with depth := c.dp + 1, frames := (c.ar fd).frames.map _, units := c.un + 3 } : Around) = _
      rw [hfr]; rfl
    have run := h c' _ α { s with heap := h₁, toks := s.toks + (pn.zip vs).length } (fun fl s' => LeaveS0 ([envOf fd.cn fd.cs c.L fd.a fd.ccd].filterMap (·.frame)) c.h₀ c.L m g' (fun r s' => match r with | .ok (.ret v) => Q v s' | .ok _ => False | .error e => E e s') (match fl with | .ret v => v | _ => .none) s')
      (fun e s' => wpAny (model g.prog g.w) ((c.ar fd).deeper (envOf qual scope L' f cdv)) (leaving (envOf qual scope L' f cdv) e) (fun _ s'' => match (Except.error e : Result) with | .ok (.ret v) => Q v s'' | .ok _ => False | .error e => E e s'') (fun e' s'' => match (Except.error e' : Result) with | .ok (.ret v) => Q v s'' | .ok _ => False | .error e => E e s'') s')
      A' (hbase ▸ A.X) (hbase ▸ A.T) rfl D' hA.symm F' M' Sg fun h' g'' m' tk' T F'' => leaveS0_ F'' (News.nil (h := h')) T fun F₃ _ => k h' tk' F₃
    rw [hA] at run ⊢
    exact run
end
end Mine
end
section
open PySem PySem.W PySem.Calls PyProof.Rows
namespace Mine
/-! the part of the top's end that is written out -/
abbrev RL : OpenLaw := PySem.Challenge.rw_nt0424_01
abbrev PR : Program := PySem.Challenge.rw_nt0424_01.row.prog
noncomputable def stm (i : Nat) : Option Stmt := PySem.Challenge.pw_nt0424_01.main.body[i]?
noncomputable def mth (i j : Nat) : Option Stmt := match stm i with
  | some (.ClassDef _ _ _ b _ _ _ _ _ _ _) => b[j]?
  | _ => none
noncomputable def nmO : Option Stmt → Str
  | some (.FunctionDef n ..) => n
  | _ => .ofString ""
noncomputable def arO : Option Stmt → Arguments
  | some (.FunctionDef _ a ..) => a
  | _ => ⟨[], [], none, [], [], none, []⟩
noncomputable def boO : Option Stmt → List Stmt
  | some (.FunctionDef _ _ b ..) => b
  | _ => []
noncomputable def scO : Option Stmt → Scope
  | some (.FunctionDef _ _ _ _ _ _ sc ..) => sc
  | _ => ⟨.function, [], false, false, []⟩
noncomputable def fO (s : Option Stmt) (qual md : Str) (mt cd : Nat) : Obj := ⟨.type "function", none, .func (fnOf (nmO s) qual (arO s) (boO s) (scO s) .none .none .none (.str md mt) none (.ref cd) .none), ⟨[]⟩⟩
noncomputable def kE (P : Params) (x : Str) (t : Nat) (v : Value) : DictEntry := ⟨PyData.keyHash P x, .str x t, v⟩
noncomputable def K (P : Params) : Frag := [
  (3, ⟨.type "dict", none, .dict ⟨[kE P "__name__" 165 (.str "law_nt0424_01" 507), kE P "__doc__" 166 (.none), kE P "__package__" 167 (.none), kE P "__loader__" 168 (.builtin "__main__.__loader__#opaque"), kE P "__spec__" 169 (.none), kE P "__annotations__" 170 (.ref 6), kE P "__builtins__" 171 (.ref 4), kE P "__file__" 173 (.str "/claim/cut.py" 172), kE P "__cached__" 174 (.none), kE P "_wall" 193 (.ref 21), kE P "ChessError" 224 (.ref 38), kE P "BadMove" 240 (.ref 51), kE P "BadCommand" 256 (.ref 63), kE P "MATE" 260 (.int 32000 259), kE P "DRAW" 262 (.int 0 261), kE P "INFINITE" 264 (.int 32001 263), kE P "MAX_PLY" 266 (.int 246 265), kE P "MATE_LEAST" 268 (.int 31754 267), kE P "EVAL_MOST" 271 (.int 31753 270), kE P "mated_in" 278 (.ref 72), kE P "mate_in" 285 (.ref 79), kE P "is_mate_score" 292 (.ref 86), kE P "moves_to_mate" 299 (.ref 93), kE P "to_table" 307 (.ref 100), kE P "from_table" 315 (.ref 107), kE P "clamp" 322 (.ref 114), kE P "score_text" 329 (.ref 121), kE P "read_count" 338 (.ref 128), kE P "read_score" 347 (.ref 135), kE P "plain_quiesce" 362 (.ref 142), kE P "end_value" 370 (.ref 149), kE P "negamax" 384 (.ref 156), kE P "TreeGame" 506 (.ref 248), kE P "_law_START" 514 (.ref 259), kE P "_law_at" 522 (.ref 266), kE P "_law_digit" 530 (.ref 273), kE P "_law_tree" 536 (.ref 278), kE P "_law_rounds" 542 (.ref 283), kE P "_law_told" 553 (.ref 290), kE P "_law_drawn" 560 (.ref 297), kE P "_law_says" 570 (.ref 304), kE P "_law_keeps" 580 (.ref 311), kE P "_law_reads" 593 (.ref 318), kE P "law" 599 (.ref 323)]⟩ 44, ⟨[]⟩⟩),
  (34, ⟨.type "code", none, .fields ⟨[.str "__init__" 208, .str "ChessError.__init__" 209, .str "/claim/cut.py" 210, .int 7 0, .int 2 0, .int 0 0, .int 0 0, .int 3 0, .ref 29, .bool true, .int 181 0, .ref 30, .none, .ref 31, .ref 32, .ref 33, .int 213 0, .int 7 0, .str "/claim/cut.py" 214]⟩, ⟨[]⟩⟩),
  (35, fO (mth 2 0) "ChessError.__init__" "chess.errors" 194 34),
  (37, ⟨.type "dict", none, .dict ⟨[kE P "__module__" 203 (.str "chess.errors" 194), kE P "__firstlineno__" 207 (.int 5 206), kE P "__init__" 215 (.ref 35), kE P "__static_attributes__" 217 (.ref 36), kE P "__weakref__" 219 (.ref 39), kE P "__doc__" 220 (.none)]⟩ 3, ⟨[]⟩⟩),
  (38, ⟨.type "type", .none, .cls ⟨"ChessError", [.type "Exception"], [.ref 38, .type "Exception", .type "BaseException", .type "object"], 37, "ChessError", true, [], [.ref 51, .ref 63], false, none, false⟩, ⟨[.some (.ref 22), .none, .some (.str "ChessError" 196), .some (.str "ChessError" 204), .some (.builtin "Exception.__new__"), .some (.bool true)]⟩⟩),
  (50, ⟨.type "dict", none, .dict ⟨[kE P "__module__" 232 (.str "chess.errors" 194), kE P "__firstlineno__" 236 (.int 10 235), kE P "__static_attributes__" 237 (.ref 49), kE P "__doc__" 238 (.none)]⟩ 2, ⟨[]⟩⟩),
  (51, ⟨.type "type", .none, .cls ⟨"BadMove", [.ref 38], [.ref 51, .ref 38, .type "Exception", .type "BaseException", .type "object"], 50, "BadMove", true, [], [], false, none, false⟩, ⟨[.some (.ref 42), .none, .some (.str "BadMove" 225), .some (.str "BadMove" 233), .some (.builtin "Exception.__new__"), .some (.bool true)]⟩⟩),
  (62, ⟨.type "dict", none, .dict ⟨[kE P "__module__" 248 (.str "chess.errors" 194), kE P "__firstlineno__" 252 (.int 12 251), kE P "__static_attributes__" 253 (.ref 61), kE P "__doc__" 254 (.none)]⟩ 2, ⟨[]⟩⟩),
  (63, ⟨.type "type", .none, .cls ⟨"BadCommand", [.ref 38], [.ref 63, .ref 38, .type "Exception", .type "BaseException", .type "object"], 62, "BadCommand", true, [], [], false, none, false⟩, ⟨[.some (.ref 54), .none, .some (.str "BadCommand" 241), .some (.str "BadCommand" 249), .some (.builtin "Exception.__new__"), .some (.bool true)]⟩⟩),
  (71, ⟨.type "code", none, .fields ⟨[.str "mated_in" 272, .str "mated_in" 273, .str "/claim/cut.py" 274, .int 21 0, .int 1 0, .int 0 0, .int 0 0, .int 3 0, .ref 66, .bool true, .int 181 0, .ref 67, .none, .ref 68, .ref 69, .ref 70, .int 276 0, .int 21 0, .str "/claim/cut.py" 277]⟩, ⟨[]⟩⟩),
  (72, fO (stm 12) "mated_in" "chess.values" 257 71),
  (78, ⟨.type "code", none, .fields ⟨[.str "mate_in" 279, .str "mate_in" 280, .str "/claim/cut.py" 281, .int 23 0, .int 1 0, .int 0 0, .int 0 0, .int 3 0, .ref 73, .bool true, .int 181 0, .ref 74, .none, .ref 75, .ref 76, .ref 77, .int 283 0, .int 23 0, .str "/claim/cut.py" 284]⟩, ⟨[]⟩⟩),
  (79, fO (stm 13) "mate_in" "chess.values" 257 78),
  (85, ⟨.type "code", none, .fields ⟨[.str "is_mate_score" 286, .str "is_mate_score" 287, .str "/claim/cut.py" 288, .int 25 0, .int 1 0, .int 0 0, .int 0 0, .int 3 0, .ref 80, .bool true, .int 181 0, .ref 81, .none, .ref 82, .ref 83, .ref 84, .int 290 0, .int 25 0, .str "/claim/cut.py" 291]⟩, ⟨[]⟩⟩),
  (86, fO (stm 14) "is_mate_score" "chess.values" 257 85),
  (92, ⟨.type "code", none, .fields ⟨[.str "moves_to_mate" 293, .str "moves_to_mate" 294, .str "/claim/cut.py" 295, .int 27 0, .int 1 0, .int 0 0, .int 0 0, .int 3 0, .ref 87, .bool true, .int 181 0, .ref 88, .none, .ref 89, .ref 90, .ref 91, .int 297 0, .int 27 0, .str "/claim/cut.py" 298]⟩, ⟨[]⟩⟩),
  (93, fO (stm 15) "moves_to_mate" "chess.values" 257 92),
  (99, ⟨.type "code", none, .fields ⟨[.str "to_table" 300, .str "to_table" 301, .str "/claim/cut.py" 302, .int 33 0, .int 2 0, .int 0 0, .int 0 0, .int 3 0, .ref 94, .bool true, .int 181 0, .ref 95, .none, .ref 96, .ref 97, .ref 98, .int 305 0, .int 33 0, .str "/claim/cut.py" 306]⟩, ⟨[]⟩⟩),
  (100, fO (stm 16) "to_table" "chess.values" 257 99),
  (106, ⟨.type "code", none, .fields ⟨[.str "from_table" 308, .str "from_table" 309, .str "/claim/cut.py" 310, .int 39 0, .int 2 0, .int 0 0, .int 0 0, .int 3 0, .ref 101, .bool true, .int 181 0, .ref 102, .none, .ref 103, .ref 104, .ref 105, .int 313 0, .int 39 0, .str "/claim/cut.py" 314]⟩, ⟨[]⟩⟩),
  (107, fO (stm 17) "from_table" "chess.values" 257 106),
  (113, ⟨.type "code", none, .fields ⟨[.str "clamp" 316, .str "clamp" 317, .str "/claim/cut.py" 318, .int 45 0, .int 1 0, .int 0 0, .int 0 0, .int 3 0, .ref 108, .bool true, .int 181 0, .ref 109, .none, .ref 110, .ref 111, .ref 112, .int 320 0, .int 45 0, .str "/claim/cut.py" 321]⟩, ⟨[]⟩⟩),
  (114, fO (stm 18) "clamp" "chess.values" 257 113),
  (120, ⟨.type "code", none, .fields ⟨[.str "score_text" 323, .str "score_text" 324, .str "/claim/cut.py" 325, .int 51 0, .int 1 0, .int 0 0, .int 0 0, .int 3 0, .ref 115, .bool true, .int 181 0, .ref 116, .none, .ref 117, .ref 118, .ref 119, .int 327 0, .int 51 0, .str "/claim/cut.py" 328]⟩, ⟨[]⟩⟩),
  (121, fO (stm 19) "score_text" "chess.values" 257 120),
  (127, ⟨.type "code", none, .fields ⟨[.str "read_count" 330, .str "read_count" 331, .str "/claim/cut.py" 332, .int 55 0, .int 1 0, .int 0 0, .int 0 0, .int 3 0, .ref 122, .bool true, .int 181 0, .ref 123, .none, .ref 124, .ref 125, .ref 126, .int 336 0, .int 55 0, .str "/claim/cut.py" 337]⟩, ⟨[]⟩⟩),
  (128, fO (stm 20) "read_count" "chess.values" 257 127),
  (134, ⟨.type "code", none, .fields ⟨[.str "read_score" 339, .str "read_score" 340, .str "/claim/cut.py" 341, .int 69 0, .int 1 0, .int 0 0, .int 0 0, .int 3 0, .ref 129, .bool true, .int 181 0, .ref 130, .none, .ref 131, .ref 132, .ref 133, .int 345 0, .int 69 0, .str "/claim/cut.py" 346]⟩, ⟨[]⟩⟩),
  (135, fO (stm 21) "read_score" "chess.values" 257 134),
  (141, ⟨.type "code", none, .fields ⟨[.str "plain_quiesce" 350, .str "plain_quiesce" 351, .str "/claim/cut.py" 352, .int 85 0, .int 3 0, .int 0 0, .int 0 0, .int 3 0, .ref 136, .bool true, .int 181 0, .ref 137, .none, .ref 138, .ref 139, .ref 140, .int 360 0, .int 85 0, .str "/claim/cut.py" 361]⟩, ⟨[]⟩⟩),
  (142, fO (stm 23) "plain_quiesce" "chess.plain" 348 141),
  (148, ⟨.type "code", none, .fields ⟨[.str "end_value" 363, .str "end_value" 364, .str "/claim/cut.py" 365, .int 107 0, .int 2 0, .int 0 0, .int 0 0, .int 3 0, .ref 143, .bool true, .int 181 0, .ref 144, .none, .ref 145, .ref 146, .ref 147, .int 368 0, .int 107 0, .str "/claim/cut.py" 369]⟩, ⟨[]⟩⟩),
  (149, fO (stm 24) "end_value" "chess.plain" 348 148),
  (155, ⟨.type "code", none, .fields ⟨[.str "negamax" 371, .str "negamax" 372, .str "/claim/cut.py" 373, .int 111 0, .int 4 0, .int 0 0, .int 0 0, .int 3 0, .ref 150, .bool true, .int 181 0, .ref 151, .none, .ref 152, .ref 153, .ref 154, .int 382 0, .int 111 0, .str "/claim/cut.py" 383]⟩, ⟨[]⟩⟩),
  (156, fO (stm 25) "negamax" "chess.plain" 348 155),
  (169, ⟨.type "code", none, .fields ⟨[.str "__init__" 399, .str "TreeGame.__init__" 400, .str "/claim/cut.py" 401, .int 130 0, .int 7 0, .int 0 0, .int 0 0, .int 3 0, .ref 164, .bool true, .int 181 0, .ref 165, .none, .ref 166, .ref 167, .ref 168, .int 409 0, .int 130 0, .str "/claim/cut.py" 410]⟩, ⟨[]⟩⟩),
  (170, fO (mth 27 0) "TreeGame.__init__" "chess.treegame" 385 169),
  (176, ⟨.type "code", none, .fields ⟨[.str "moves" 412, .str "TreeGame.moves" 413, .str "/claim/cut.py" 414, .int 139 0, .int 1 0, .int 0 0, .int 0 0, .int 3 0, .ref 171, .bool true, .int 181 0, .ref 172, .none, .ref 173, .ref 174, .ref 175, .int 416 0, .int 139 0, .str "/claim/cut.py" 417]⟩, ⟨[]⟩⟩),
  (177, fO (mth 27 1) "TreeGame.moves" "chess.treegame" 385 176),
  (188, ⟨.type "code", none, .fields ⟨[.str "make" 425, .str "TreeGame.make" 426, .str "/claim/cut.py" 427, .int 145 0, .int 2 0, .int 0 0, .int 0 0, .int 3 0, .ref 183, .bool true, .int 181 0, .ref 184, .none, .ref 185, .ref 186, .ref 187, .int 431 0, .int 145 0, .str "/claim/cut.py" 432]⟩, ⟨[]⟩⟩),
  (189, fO (mth 27 3) "TreeGame.make" "chess.treegame" 385 188),
  (195, ⟨.type "code", none, .fields ⟨[.str "undo" 434, .str "TreeGame.undo" 435, .str "/claim/cut.py" 436, .int 151 0, .int 1 0, .int 0 0, .int 0 0, .int 3 0, .ref 190, .bool true, .int 181 0, .ref 191, .none, .ref 192, .ref 193, .ref 194, .int 438 0, .int 151 0, .str "/claim/cut.py" 439]⟩, ⟨[]⟩⟩),
  (196, fO (mth 27 4) "TreeGame.undo" "chess.treegame" 385 195),
  (202, ⟨.type "code", none, .fields ⟨[.str "value" 441, .str "TreeGame.value" 442, .str "/claim/cut.py" 443, .int 156 0, .int 1 0, .int 0 0, .int 0 0, .int 3 0, .ref 197, .bool true, .int 181 0, .ref 198, .none, .ref 199, .ref 200, .ref 201, .int 445 0, .int 156 0, .str "/claim/cut.py" 446]⟩, ⟨[]⟩⟩),
  (203, fO (mth 27 5) "TreeGame.value" "chess.treegame" 385 202),
  (216, ⟨.type "code", none, .fields ⟨[.str "in_check" 455, .str "TreeGame.in_check" 456, .str "/claim/cut.py" 457, .int 162 0, .int 1 0, .int 0 0, .int 0 0, .int 3 0, .ref 211, .bool true, .int 181 0, .ref 212, .none, .ref 213, .ref 214, .ref 215, .int 459 0, .int 162 0, .str "/claim/cut.py" 460]⟩, ⟨[]⟩⟩),
  (217, fO (mth 27 7) "TreeGame.in_check" "chess.treegame" 385 216),
  (223, ⟨.type "code", none, .fields ⟨[.str "is_draw" 462, .str "TreeGame.is_draw" 463, .str "/claim/cut.py" 464, .int 165 0, .int 1 0, .int 0 0, .int 0 0, .int 3 0, .ref 218, .bool true, .int 181 0, .ref 219, .none, .ref 220, .ref 221, .ref 222, .int 466 0, .int 165 0, .str "/claim/cut.py" 467]⟩, ⟨[]⟩⟩),
  (224, fO (mth 27 8) "TreeGame.is_draw" "chess.treegame" 385 223),
  (247, ⟨.type "dict", none, .dict ⟨[kE P "__module__" 394 (.str "chess.treegame" 385), kE P "__firstlineno__" 398 (.int 128 397), kE P "__init__" 411 (.ref 170), kE P "moves" 418 (.ref 177), kE P "noisy" 424 (.ref 182), kE P "make" 433 (.ref 189), kE P "undo" 440 (.ref 196), kE P "value" 447 (.ref 203), kE P "key" 454 (.ref 210), kE P "in_check" 461 (.ref 217), kE P "is_draw" 468 (.ref 224), kE P "is_noisy" 476 (.ref 231), kE P "gain" 484 (.ref 238), kE P "side" 491 (.ref 245), kE P "__static_attributes__" 499 (.ref 246), kE P "__dict__" 501 (.ref 249), kE P "__weakref__" 503 (.ref 250), kE P "__doc__" 504 (.none)]⟩ 4, ⟨[]⟩⟩),
  (248, ⟨.type "type", .none, .cls ⟨"TreeGame", [.type "object"], [.ref 248, .type "object"], 247, "TreeGame", true, [], [], false, none, false⟩, ⟨[.none, .none, .some (.str "TreeGame" 387), .some (.str "TreeGame" 395), .some (.builtin "object.__new__"), .some (.bool true)]⟩⟩),
  (258, ⟨.type "code", none, .fields ⟨[.str "_law_START" 509, .str "_law_START" 510, .str "/claim/cut.py" 511, .int 177 0, .int 0 0, .int 0 0, .int 0 0, .int 3 0, .ref 253, .bool true, .int 181 0, .ref 254, .none, .ref 255, .ref 256, .ref 257, .int 512 0, .int 177 0, .str "/claim/cut.py" 513]⟩, ⟨[]⟩⟩),
  (259, fO (stm 29) "_law_START" "law_nt0424_01" 507 258),
  (265, ⟨.type "code", none, .fields ⟨[.str "_law_at" 515, .str "_law_at" 516, .str "/claim/cut.py" 517, .int 179 0, .int 2 0, .int 0 0, .int 0 0, .int 3 0, .ref 260, .bool true, .int 181 0, .ref 261, .none, .ref 262, .ref 263, .ref 264, .int 520 0, .int 179 0, .str "/claim/cut.py" 521]⟩, ⟨[]⟩⟩),
  (266, fO (stm 30) "_law_at" "law_nt0424_01" 507 265),
  (272, ⟨.type "code", none, .fields ⟨[.str "_law_digit" 523, .str "_law_digit" 524, .str "/claim/cut.py" 525, .int 181 0, .int 2 0, .int 0 0, .int 0 0, .int 3 0, .ref 267, .bool true, .int 181 0, .ref 268, .none, .ref 269, .ref 270, .ref 271, .int 528 0, .int 181 0, .str "/claim/cut.py" 529]⟩, ⟨[]⟩⟩),
  (273, fO (stm 31) "_law_digit" "law_nt0424_01" 507 272),
  (277, ⟨.type "code", none, .fields ⟨[.str "_law_tree" 531, .str "_law_tree" 532, .str "/claim/cut.py" 533, .int 183 0, .int 1 0, .int 0 0, .int 0 0, .int 3 0, .ref 274, .bool true, .int 181 0, .ref 275, .none, .none, .none, .ref 276, .int 534 0, .int 183 0, .str "/claim/cut.py" 535]⟩, ⟨[]⟩⟩),
  (278, fO (stm 32) "_law_tree" "law_nt0424_01" 507 277),
  (282, ⟨.type "code", none, .fields ⟨[.str "_law_rounds" 537, .str "_law_rounds" 538, .str "/claim/cut.py" 539, .int 195 0, .int 2 0, .int 0 0, .int 0 0, .int 3 0, .ref 279, .bool true, .int 181 0, .ref 280, .none, .none, .none, .ref 281, .int 540 0, .int 195 0, .str "/claim/cut.py" 541]⟩, ⟨[]⟩⟩),
  (283, fO (stm 33) "_law_rounds" "law_nt0424_01" 507 282),
  (289, ⟨.type "code", none, .fields ⟨[.str "_law_told" 543, .str "_law_told" 544, .str "/claim/cut.py" 545, .int 214 0, .int 2 0, .int 0 0, .int 0 0, .int 3 0, .ref 284, .bool true, .int 181 0, .ref 285, .none, .ref 286, .ref 287, .ref 288, .int 551 0, .int 214 0, .str "/claim/cut.py" 552]⟩, ⟨[]⟩⟩),
  (290, fO (stm 34) "_law_told" "law_nt0424_01" 507 289),
  (296, ⟨.type "code", none, .fields ⟨[.str "_law_drawn" 554, .str "_law_drawn" 555, .str "/claim/cut.py" 556, .int 225 0, .int 1 0, .int 0 0, .int 0 0, .int 3 0, .ref 291, .bool true, .int 181 0, .ref 292, .none, .ref 293, .ref 294, .ref 295, .int 558 0, .int 225 0, .str "/claim/cut.py" 559]⟩, ⟨[]⟩⟩),
  (297, fO (stm 35) "_law_drawn" "law_nt0424_01" 507 296),
  (303, ⟨.type "code", none, .fields ⟨[.str "_law_says" 561, .str "_law_says" 562, .str "/claim/cut.py" 563, .int 229 0, .int 1 0, .int 0 0, .int 0 0, .int 3 0, .ref 298, .bool true, .int 181 0, .ref 299, .none, .ref 300, .ref 301, .ref 302, .int 568 0, .int 229 0, .str "/claim/cut.py" 569]⟩, ⟨[]⟩⟩),
  (304, fO (stm 36) "_law_says" "law_nt0424_01" 507 303),
  (310, ⟨.type "code", none, .fields ⟨[.str "_law_keeps" 571, .str "_law_keeps" 572, .str "/claim/cut.py" 573, .int 238 0, .int 1 0, .int 0 0, .int 0 0, .int 3 0, .ref 305, .bool true, .int 181 0, .ref 306, .none, .ref 307, .ref 308, .ref 309, .int 578 0, .int 238 0, .str "/claim/cut.py" 579]⟩, ⟨[]⟩⟩),
  (311, fO (stm 37) "_law_keeps" "law_nt0424_01" 507 310),
  (317, ⟨.type "code", none, .fields ⟨[.str "_law_reads" 581, .str "_law_reads" 582, .str "/claim/cut.py" 583, .int 247 0, .int 1 0, .int 0 0, .int 0 0, .int 3 0, .ref 312, .bool true, .int 181 0, .ref 313, .none, .ref 314, .ref 315, .ref 316, .int 591 0, .int 247 0, .str "/claim/cut.py" 592]⟩, ⟨[]⟩⟩),
  (318, fO (stm 38) "_law_reads" "law_nt0424_01" 507 317),
  (322, ⟨.type "code", none, .fields ⟨[.str "law" 594, .str "law" 595, .str "/claim/cut.py" 596, .int 272 0, .int 1 0, .int 0 0, .int 0 0, .int 3 0, .ref 319, .bool true, .int 181 0, .ref 320, .none, .none, .none, .ref 321, .int 597 0, .int 272 0, .str "/claim/cut.py" 598]⟩, ⟨[]⟩⟩),
  (323, fO (stm 39) "law" "law_nt0424_01" 507 322)]
def asK : List Addr := [3, 34, 35, 37, 38, 50, 51, 62, 63, 71, 72, 78, 79, 85, 86, 92, 93, 99, 100, 106, 107, 113, 114, 120, 121, 127, 128, 134, 135, 141, 142, 148, 149, 155, 156, 169, 170, 176, 177, 188, 189, 195, 196, 202, 203, 216, 217, 223, 224, 247, 248, 258, 259, 265, 266, 272, 273, 277, 278, 282, 283, 289, 290, 296, 297, 303, 304, 310, 311, 317, 318, 322, 323]
theorem asK_ok (P : Params) : asK = (K P).map (·.1) := rfl

/-! the top's run -/
noncomputable def envT : Env := { scope := PR.main.scope, locals := mainNs, globals := mainNs, cells := [], code := .ref 13, frame := some 14 }
noncomputable abbrev bE : List Stmt := behindTheImports PR
noncomputable abbrev cE : Code := .body bE envT
abbrev q0 : Pos := ⟨0, 0, 0, 0⟩
abbrev qZ : Pos := ⟨272, 0, 288, 76⟩
noncomputable abbrev fB : List Frame := [topFrame q0]
abbrev annT : Option Value := some (.ref 6)
noncomputable def S0 (w : World) (os : OsState) : Shared := ⟨boot_heap w.params, ⟨[]⟩, boot_drawn, boot_toks, os⟩
noncomputable def bt : List Obj → Nat → BT → BT
  | [], _, t => t
  | o :: l, n, t => bt l (n + 1) (t.ins n o)
noncomputable def sT (s : Shared) : SharedT := ⟨bt s.heap.objs.toList 0 .nil, s.heap.objs.size, s.heap.life, s.gens, s.drawn, s.toks, s.os⟩
noncomputable def sA (w : World) (os : OsState) : Shared := match topGo treeTable PR w 11 annT 12 (S0 w os) (topStub PR) with
  | some (s, _) => s
  | none => S0 w os
theorem run_pre (w : World) (os : OsState) : topGo treeTable PR w 11 annT 12 (S0 w os) (topStub PR) = some (sA w os, ⟨denote treeTable cE, cE, q0, fB⟩) := by kernel_rfl
theorem run_block (w : World) (os : OsState) : segRun treeTable PR w 11 annT 1 1 (sA w os) (blockOf bE envT cE q0 fB) = some (.next, (sT (sA w os)).abs, cE, q0) := by kernel_rfl
theorem run_size (w : World) : ((boot_heap w.params).isNs mainGlobals && (Array.mk ([] : List GenState)).size == 0, (boot_heap w.params).objs.size, (boot_heap w.params).nsMap mainGlobals "__annotations__") = (true, 11, annT) := by kernel_rfl
theorem run_open : ∀ w : World, (fencedOpening treeTable PR w 2400).map (fun s => (s.heap, s.gens, s.drawn, s.toks)) = some (boot_heap w.params, Array.mk [], boot_drawn, boot_toks) :=
  boot_open (by kernel_rfl) (by kernel_rfl) (fun _ => by kernel_rfl)

/-! the view: the law's def alone -/
noncomputable def qV : Program := { PR with main := { PR.main with body := (stm 39).toList } }
noncomputable def looseV : List Str := [.ofString "_wall", .ofString "ChessError", .ofString "BadMove", .ofString "BadCommand", .ofString "MATE", .ofString "DRAW", .ofString "INFINITE", .ofString "MAX_PLY", .ofString "MATE_LEAST", .ofString "EVAL_MOST", .ofString "mated_in", .ofString "mate_in", .ofString "is_mate_score", .ofString "moves_to_mate", .ofString "to_table", .ofString "from_table", .ofString "clamp", .ofString "score_text", .ofString "read_count", .ofString "read_score", .ofString "plain_quiesce", .ofString "end_value", .ofString "negamax", .ofString "TreeGame", .ofString "_law_START", .ofString "_law_at", .ofString "_law_digit", .ofString "_law_tree", .ofString "_law_rounds", .ofString "_law_told", .ofString "_law_drawn", .ofString "_law_says", .ofString "_law_keeps", .ofString "_law_reads"]
noncomputable def XtV (s : Shared) : Bool := xlAt qV [] s && recOk (RowW.records RL.row.toRowW) s
noncomputable def YfV (s : Shared) : List (Option Obj) := asK.map s.heap.get?
noncomputable def YaV (w : World) : List (Option Obj) := (K w.params).map fun p => some p.2
end Mine
end
section
open PySem PySem.W PySem.Calls PyProof.Rows
namespace Mine
theorem run_all (w : World) (os : OsState) : (segRunT treeTable PR w 11 annT 1 2200 (sT (sA w os)) (piecesOf bE envT cE q0 fB)).map (fun r => (r.1, r.2.2, (topRun treeTable PR w 11 annT 2 r.2.1.abs ⟨doneF .next, cE, qZ, fB⟩).map fun s =>
    ((staticsOk (importedModules PR.main.body) (boot_heap w.params) s.heap && namesBound PR s.heap && gensDone s && laidKept (boot_heap w.params) s.heap), openSeen qV looseV (importedModules PR.main.body) XtV true s, YfV s))) =
    some (.next, (cE, qZ), some (true, openGood qV looseV, YaV w)) := by
  rw [PySem.W.Fast.te10110043849684766642, PySem.W.Fast.te14364793385576792824]
  kernel_rfl
theorem topFrom_of {tb : String → Option Builtin} {p : Program} {w : World} {N m : Nat} {an : Option Value} {s₀ s₁ : Shared} (z1 : (s₀.heap.isNs mainGlobals && s₀.gens.size == 0) = true) (z2 : s₀.heap.objs.size = m) (z3 : s₀.heap.nsMap mainGlobals "__annotations__" = an)
    (h : topRun tb p w m an N s₀ (topStub p) = some s₁) (l : (staticsOk (importedModules p.main.body) s₀.heap s₁.heap && namesBound p s₁.heap && gensDone s₁ && laidKept s₀.heap s₁.heap) = true) : topFrom tb p w N s₀ = some s₁ := by
  unfold topFrom
  rw [z1, z2, z3, h]
  dsimp only [Option.bind]
  rw [l]
theorem openEnds_of {tb : String → Option Builtin} {p : Program} {w : World} {N : Nat} {s₀ s₁ : Shared} (e : fencedOpening tb p w N = some s₀) (t : topFrom tb p w N s₀ = some s₁) : openEnds tb p w N = some s₁ := by
  unfold openEnds
  rw [e]
  exact t
theorem fits : 2400 = 12 + (1 + (2200 + 2)) + 185 := rfl
theorem left : LeftO PR qV looseV XtV YfV YaV 2400 := by
  intro w
  obtain ⟨⟨h, gs, d, k, os⟩, e, e'⟩ := Option.map_eq_some_iff.mp (run_open w)
  obtain ⟨rfl, rfl, rfl, rfl⟩ : h = boot_heap w.params ∧ gs = Array.mk [] ∧ d = boot_drawn ∧ k = boot_toks := by simpa using e'
  have zz := run_size w
  have z1 := congrArg (·.1) zz
  have z2 := congrArg (·.2.1) zz
  have z3 := congrArg (·.2.2) zz
  obtain ⟨⟨fl, sz, c, p⟩, e1, e2⟩ := Option.map_eq_some_iff.mp (run_all w os)
  obtain ⟨rfl, e2⟩ := Prod.mk.inj e2
  obtain ⟨e2, e3⟩ := Prod.mk.inj e2
  obtain ⟨rfl, rfl⟩ := Prod.mk.inj e2
  obtain ⟨s₁, e4, e5⟩ := Option.map_eq_some_iff.mp e3
  obtain ⟨l1, e5⟩ := Prod.mk.inj e5
  have h1 := piece_app (rest := []) (segRun_of e1) (N := 2) (r := s₁) e4
  rw [List.append_nil] at h1
  have h3 := topRun_mono 185 _ _ _ _ (go_top (run_pre w os) (piece_block (run_block w os) h1))
  rw [← fits] at h3
  exact (congrArg (Option.map _) (openEnds_of e (topFrom_of z1 z2 z3 h3 l1))).trans (congrArg some e5)
end Mine
end
section
open PySem PySem.W PySem.Calls PyProof.Rows
namespace Mine
theorem said : RL.wellSaid = true := by
  rw [PySem.W.Fast.te9446332074065402090]
  kernel_rfl
theorem xt_of (s : Shared) (h : XtV s = true) : XL qV [] (s.heap.nsMap mainGlobals) s.heap := xl_of s (Bool.and_eq_true_iff.mp h).1
theorem defl : ∃ d kwd, defOf qV RL.row.toRowW.name = some (d, kwd) ∧ RL.row.prog.theDef RL.row.toRowW.name = some (d.params, d.body, d.scope) ∧ kwWritten? d.params.kwonlyargs d.params.kw_defaults = some kwd :=
  ⟨_, _, rfl, rfl, rfl⟩
theorem hd (d : DefRec) (kwd : List (Str × Expr)) (h1 : defOf qV RL.row.toRowW.name = some (d, kwd)) (h2 : RL.row.prog.theDef RL.row.toRowW.name = some (d.params, d.body, d.scope)) (h3 : kwWritten? d.params.kwonlyargs d.params.kw_defaults = some kwd)
    (h : WalkO qV looseV (XL qV []) (fun w h => (K w.params).In h) RL.row.toRowW d kwd fun f vs => PySem.call f vs) : RL.Holds :=
  holds_law said fun k1 => holds_open (q := qV) (loose := looseV) (Xt := XtV) (XP := XL qV []) (Yf := YfV) (Ya := YaV) (YP := fun w h => (K w.params).In h) (N := 2400) left
    (fun w s e => InK.of (fun P => asK_ok P) w s e) (fun w h h' x k => Frag.In.keeps x k) xt_of XL.keeps h1 h2 h3 (fun s e => recFacts_of (Bool.and_eq_true_iff.mp e).2) (by first | rfl | fail "open_line: no head takes a call that writes beside a table") k1 (by decide +kernel) ⟨rfl, rfl, rfl, rfl, rfl, by decide +kernel⟩ (by w_witness2) h
end Mine
end
section
open PySem PySem.W PySem.Spec PySem.Calls PyProof.Rows
namespace Mine
noncomputable abbrev gg (w : World) (ns : List Int) : G := ⟨PR, w, K w.params, ns⟩
noncomputable def fdO (s : Option Stmt) (qual : Str) (f cd : Nat) : FD := ⟨qual, scO s, f, .ref cd, [], none⟩
section
variable {g : G} {lv : Nat} {fd : FD} {μ μ' μ₁ μ₂ : Loc} {σ σ' σ₁ σ₂ σ₃ : List AObj} {r r₀ r₁ r₂ : PV} {rs xs : List PV} {pos pos' px : Pos} {o : Out}
theorem EX.iT {t : Expr} {b b' rest : List Stmt} {y : Bool} (h : TR g lv fd t μ σ y σ₁) (hy : y = true) (h' : EX g lv fd b μ σ₁ o μ' σ') (ho : o ≠ .next) : EX g lv fd (.If t b b' pos :: rest) μ σ o μ' σ' := by
  subst hy; exact .stop (.ifs h h') ho
theorem EX.iTn {t : Expr} {b b' rest : List Stmt} {y : Bool} (h : TR g lv fd t μ σ y σ₁) (hy : y = true) (h' : EX g lv fd b μ σ₁ .next μ₁ σ₂) (k : EX g lv fd rest μ₁ σ₂ o μ' σ') : EX g lv fd (.If t b b' pos :: rest) μ σ o μ' σ' := by
  subst hy; exact .cons (.ifs h h') k
theorem EX.iF {t : Expr} {b rest : List Stmt} {y : Bool} (h : TR g lv fd t μ σ y σ₁) (hy : y = false) (k : EX g lv fd rest μ σ₁ o μ' σ') : EX g lv fd (.If t b [] pos :: rest) μ σ o μ' σ' := by
  subst hy; exact .cons (.ifs h .nil) k
theorem EX.iE {t : Expr} {b b' rest : List Stmt} {y : Bool} (h : TR g lv fd t μ σ y σ₁) (hy : y = false) (h' : EX g lv fd b' μ σ₁ o μ' σ') (ho : o ≠ .next) : EX g lv fd (.If t b b' pos :: rest) μ σ o μ' σ' := by
  subst hy; exact .stop (.ifs h h') ho
theorem EX.iEn {t : Expr} {b b' rest : List Stmt} {y : Bool} (h : TR g lv fd t μ σ y σ₁) (hy : y = false) (h' : EX g lv fd b' μ σ₁ .next μ₁ σ₂) (k : EX g lv fd rest μ₁ σ₂ o μ' σ') : EX g lv fd (.If t b b' pos :: rest) μ σ o μ' σ' := by
  subst hy; exact .cons (.ifs h h') k
theorem EX.re {e : Expr} {rest : List Stmt} (h : EV g lv fd e μ σ r σ') : EX g lv fd (.Return (some e) pos :: rest) μ σ (.ret r) μ σ' := .stop (.ret h) (by simp)
theorem EX.re' {e : Expr} {rest : List Stmt} (h : EV g lv fd e μ σ r σ') (hr : r = r₀) : EX g lv fd (.Return (some e) pos :: rest) μ σ (.ret r₀) μ σ' := by subst hr; exact .re h
theorem EX.co {rest : List Stmt} : EX g lv fd (.Continue pos :: rest) μ σ .cont μ σ := .stop .cont (by simp)
theorem lk0 {x : Str} : List.lookup x ((x, r) :: μ) = some r := by simp
theorem lk1 {x y : Str} {q : PV} (h : (x == y) = false) (k : List.lookup x μ = some r) : List.lookup x ((y, q) :: μ) = some r := by rw [List.lookup_cons, h]; exact k

theorem Cov.nil {μ : Loc} : Cov μ [] := fun _ _ h => by cases h
theorem Cov.cons {μ μ' : Loc} {x : Str} {r : PV} (h : μ.lookup x = some r) (k : Cov μ μ') : Cov μ ((x, r) :: μ') := fun y q e => by
  rw [List.lookup_cons] at e
  by_cases hy : y = x
  · subst hy; simp at e; subst e; exact h
  · have hb : (y == x) = false := by simp [hy]
    rw [hb] at e; exact k y q e
theorem Loop.inv {body : List Stmt} {bnd : Bnd} {keep : List AObj → Prop} {xs : List PV} (k : keep σ) (h : ∀ v ∈ xs, ∃ o, EX g lv fd body (bnd v μ σ).1 (bnd v μ σ).2 o μ σ ∧ (o = .next ∨ o = .cont)) : Loop g lv fd body bnd keep xs μ σ .next μ σ := by
  induction xs with
  | nil => exact ⟨rfl, rfl, rfl⟩
  | cons v vs ih =>
    obtain ⟨o, e, ho⟩ := h v (.head _)
    refine ⟨o, μ, σ, e, ?_⟩
    have q := ih fun u hu => h u (.tail _ hu)
    rcases ho with rfl | rfl <;> exact ⟨k, q⟩
theorem Loop.next {body : List Stmt} {bnd : Bnd} {keep : List AObj → Prop} {v : PV} {vs : List PV} (e : EX g lv fd body (bnd v μ σ).1 (bnd v μ σ).2 .next μ₁ σ₁) (k : keep σ₁) (h : Loop g lv fd body bnd keep vs μ₁ σ₁ o μ' σ') : Loop g lv fd body bnd keep (v :: vs) μ σ o μ' σ' := ⟨.next, μ₁, σ₁, e, k, h⟩
theorem Loop.cont {body : List Stmt} {bnd : Bnd} {keep : List AObj → Prop} {v : PV} {vs : List PV} (e : EX g lv fd body (bnd v μ σ).1 (bnd v μ σ).2 .cont μ₁ σ₁) (k : keep σ₁) (h : Loop g lv fd body bnd keep vs μ₁ σ₁ o μ' σ') : Loop g lv fd body bnd keep (v :: vs) μ σ o μ' σ' := ⟨.cont, μ₁, σ₁, e, k, h⟩
theorem Loop.stop {body : List Stmt} {bnd : Bnd} {keep : List AObj → Prop} {v : PV} {vs : List PV} (e : EX g lv fd body (bnd v μ σ).1 (bnd v μ σ).2 (.ret r) μ₁ σ₁) : Loop g lv fd body bnd keep (v :: vs) μ σ (.ret r) μ₁ σ₁ := ⟨.ret r, μ₁, σ₁, e, rfl, rfl, rfl⟩
theorem log2_small {i : Int} (h : i.natAbs < 2 ^ 64) : i.natAbs.log2 < 1920 := by
  by_cases h0 : i.natAbs = 0
  · rw [h0]; decide
  · have := (Nat.log2_lt (n := i.natAbs) (k := 64) h0).mpr h
    omega
def Out.val : Out → PV
  | .ret q => q
  | _ => .none
theorem CX.fn {s : Option Stmt} {qual md : Str} {mt cd f : Nat} (pn : List Str) (hK : g.K.lookup f = some (fO s qual md mt cd)) (hcd : codeIn g.K (.ref cd) qual = true)
    (hb : ∀ vs : List Value, vs.length = pn.length → bindArgs (fnOf (nmO s) qual (arO s) (boO s) (scO s) .none .none .none (.str md mt) none (.ref cd) .none) ⟨vs, []⟩ = pure (pn.zip vs))
    (hs : ((pn.all fun x => (scO s).names.lookup x == some .local) && !(scO s).isCoroutine && !(scO s).isGenerator && (scO s).kind == .function && (scO s).names.all fun x => x.2 != .cell) = true)
    (hn : rs.length = pn.length) (h : EX g lv (fdO s qual f cd) (boO s) (pn.zip rs).reverse σ o μ' σ') (hr : o.val = r) : CX g (lv + 1) (.ref f) rs σ r σ' := by
  simp only [Bool.and_eq_true, Bool.not_eq_true', beq_iff_eq, List.all_eq_true, bne_iff_ne] at hs
  obtain ⟨⟨⟨⟨s1, s2⟩, s3⟩, s4⟩, s5⟩ := hs
  exact .def_ pn hK hcd hb s1 hn ⟨o, μ', h, by rw [← hr]; cases o <;> rfl⟩ s2 s3 s4 s5
/-- statements that return -/
def ER (g : G) (lv : Nat) (fd : FD) (b : List Stmt) (μ : Loc) (σ : List AObj) (r : PV) (σ' : List AObj) : Prop := ∃ μ', EX g lv fd b μ σ (.ret r) μ' σ'
theorem ER.re {e : Expr} {rest : List Stmt} (h : EV g lv fd e μ σ r σ') (hr : r = r₀) : ER g lv fd (.Return (some e) pos :: rest) μ σ r₀ σ' := ⟨_, EX.re' h hr⟩
theorem ER.iT {t : Expr} {b b' rest : List Stmt} {y : Bool} (h : TR g lv fd t μ σ y σ₁) (hy : y = true) (h' : ER g lv fd b μ σ₁ r σ') : ER g lv fd (.If t b b' pos :: rest) μ σ r σ' :=
  let ⟨_, q⟩ := h'; ⟨_, EX.iT h hy q (by simp)⟩
theorem ER.iTn {t : Expr} {b b' rest : List Stmt} {y : Bool} (h : TR g lv fd t μ σ y σ₁) (hy : y = true) (h' : EX g lv fd b μ σ₁ .next μ₁ σ₂) (k : ER g lv fd rest μ₁ σ₂ r σ') : ER g lv fd (.If t b b' pos :: rest) μ σ r σ' :=
  let ⟨_, q⟩ := k; ⟨_, EX.iTn h hy h' q⟩
theorem ER.iF {t : Expr} {b rest : List Stmt} {y : Bool} (h : TR g lv fd t μ σ y σ₁) (hy : y = false) (k : ER g lv fd rest μ σ₁ r σ') : ER g lv fd (.If t b [] pos :: rest) μ σ r σ' :=
  let ⟨_, q⟩ := k; ⟨_, EX.iF h hy q⟩
theorem ER.iE {t : Expr} {b b' rest : List Stmt} {y : Bool} (h : TR g lv fd t μ σ y σ₁) (hy : y = false) (h' : ER g lv fd b' μ σ₁ r σ') : ER g lv fd (.If t b b' pos :: rest) μ σ r σ' :=
  let ⟨_, q⟩ := h'; ⟨_, EX.iE h hy q (by simp)⟩
theorem ER.iEn {t : Expr} {b b' rest : List Stmt} {y : Bool} (h : TR g lv fd t μ σ y σ₁) (hy : y = false) (h' : EX g lv fd b' μ σ₁ .next μ₁ σ₂) (k : ER g lv fd rest μ₁ σ₂ r σ') : ER g lv fd (.If t b b' pos :: rest) μ σ r σ' :=
  let ⟨_, q⟩ := k; ⟨_, EX.iEn h hy h' q⟩
theorem ER.cons {st : Stmt} {b : List Stmt} (h : ES g lv fd st μ σ .next μ₁ σ₁) (h' : ER g lv fd b μ₁ σ₁ r σ') : ER g lv fd (st :: b) μ σ r σ' :=
  let ⟨_, q⟩ := h'; ⟨_, EX.cons h q⟩
theorem ER.stop {st : Stmt} {b : List Stmt} (h : ES g lv fd st μ σ (.ret r) μ₁ σ₁) : ER g lv fd (st :: b) μ σ r σ₁ := ⟨_, EX.stop h (by simp)⟩
theorem ER.pre {b : List Stmt} (h : ER g lv fd b μ₁ σ r σ') (k₀ : Cov μ μ₁) : ER g lv fd b μ σ r σ' := let ⟨_, q⟩ := h; ⟨_, q.pre k₀⟩
theorem CX.fr {s : Option Stmt} {qual md : Str} {mt cd f : Nat} (pn : List Str) (hK : g.K.lookup f = some (fO s qual md mt cd)) (hcd : codeIn g.K (.ref cd) qual = true)
    (hb : ∀ vs : List Value, vs.length = pn.length → bindArgs (fnOf (nmO s) qual (arO s) (boO s) (scO s) .none .none .none (.str md mt) none (.ref cd) .none) ⟨vs, []⟩ = pure (pn.zip vs))
    (hs : ((pn.all fun x => (scO s).names.lookup x == some .local) && !(scO s).isCoroutine && !(scO s).isGenerator && (scO s).kind == .function && (scO s).names.all fun x => x.2 != .cell) = true)
    (hn : rs.length = pn.length) (h : ER g lv (fdO s qual f cd) (boO s) (pn.zip rs).reverse σ r σ') : CX g (lv + 1) (.ref f) rs σ r σ' := let ⟨_, q⟩ := h; .fn pn hK hcd hb hs hn q rfl
theorem CLX.fr {s : Option Stmt} {qual md : Str} {mt cd f : Nat} {C : Addr} {τ : List AObj} (pn : List Str) (hK : g.K.lookup f = some (fO s qual md mt cd)) (hcd : codeIn g.K (.ref cd) qual = true)
    (hb : ∀ vs : List Value, vs.length = pn.length → bindArgs (fnOf (nmO s) qual (arO s) (boO s) (scO s) .none .none .none (.str md mt) none (.ref cd) .none) ⟨vs, []⟩ = pure (pn.zip vs))
    (hs : ((pn.all fun x => (scO s).names.lookup x == some .local) && !(scO s).isCoroutine && !(scO s).isGenerator && (scO s).kind == .function && (scO s).names.all fun x => x.2 != .cell) = true)
    (hn : rs.length = pn.length) (h : RX g lv (fdO s qual f cd) C (boO s) (pn.zip rs).reverse σ (σ ++ τ)) : CLX g (lv + 1) (.ref f) C rs σ := by
  simp only [Bool.and_eq_true, Bool.not_eq_true', beq_iff_eq, List.all_eq_true, bne_iff_ne] at hs
  obtain ⟨⟨⟨⟨s1, s2⟩, s3⟩, s4⟩, s5⟩ := hs
  exact .def_ pn hK hcd hb s1 hn h s2 s3 s4 s5
theorem RX.iT {t : Expr} {b b' rest : List Stmt} {y : Bool} {C : Addr} (h : TR g lv fd t μ σ y σ₁) (hy : y = true) (h' : RX g lv fd C b μ σ₁ σ') : RX g lv fd C (.If t b b' pos :: rest) μ σ σ' := by
  subst hy; exact .ifs h h'
theorem RX.iF {t : Expr} {b rest : List Stmt} {y : Bool} {C : Addr} (h : TR g lv fd t μ σ y σ₁) (hy : y = false) (k : RX g lv fd C rest μ σ₁ σ') : RX g lv fd C (.If t b [] pos :: rest) μ σ σ' := by
  subst hy; exact .cons (.ifs h .nil) k
theorem RX.iTn {t : Expr} {b b' rest : List Stmt} {y : Bool} {C : Addr} (h : TR g lv fd t μ σ y σ₁) (hy : y = true) (h' : EX g lv fd b μ σ₁ .next μ₁ σ₂) (k : RX g lv fd C rest μ₁ σ₂ σ') : RX g lv fd C (.If t b b' pos :: rest) μ σ σ' := by
  subst hy; exact .cons (.ifs h h') k
theorem EV.me {o : Expr} {name : Str} {apos : Pos} {args : List Expr} {fv : Value} (ho : EV g lv fd o μ σ r₀ σ₁) (hg : GM g σ₁ r₀ name fv) (ha : AR g lv fd args μ σ₁ rs σ₂) (hc : CL g lv fv (r₀ :: rs) σ₂ r σ₃) (hk : KP g fv) (hkd : fd.cs.kind = .function)
    (he : ∀ env, eval (.Call (.Attribute o name apos) args [] pos) env = (do let ov ← eval o env; standAt apos.atName; let (f, first) ← holding [ov] (getMethod ov name (do return (← importBound o env).getD true)); PySem.callWith pos f first (backTo pos (starEach args env)) [])) :
    EV g lv fd (.Call (.Attribute o name apos) args [] pos) μ σ r σ₃ := .meth ho hg ha hc hk hkd he
theorem EV.at0 {a : Expr} {i j d : Nat} {C : Addr} {fs : List (Str × PV)} {name : Str} (h : EV g lv fd a μ σ (.ref i) σ₁) (e : σ₁[i]? = some (.inst C d)) (e' : σ₁[d]? = some (.ns fs)) (ef : fs.lookup name = some (.ref j))
    (k₁ : plainGet g.K C name = true) (k₂ : hasDictIn g.K C = true) (k₃ : findIn g.K (.ref C) name = some none)
    (he : ∀ env, eval (.Attribute a name pos) env = (do let o ← eval a env; standAt pos.atName; let r ← holding [o] (getAttr o name true); letTemporaryGo a o r; pure r)) : EV g lv fd (.Attribute a name pos) μ σ (.ref j) σ₁ :=
  EV.attr (attr := none) h e e' ef k₁ k₂ k₃ rfl (by rintro _ _ _ ⟨_, _, rfl⟩; rfl) he
theorem at_last {a : AObj} : (σ ++ [a])[σ.length]? = some a := by simp
end
theorem bind1 {f : FuncData} {a : Str} (h : ∀ x : Value, bindArgs f ⟨[x], []⟩ = pure [(a, x)]) : ∀ vs : List Value, vs.length = 1 → bindArgs f ⟨vs, []⟩ = pure ([a].zip vs)
  | [x], _ => h x
theorem bind2 {f : FuncData} {a b : Str} (h : ∀ x y : Value, bindArgs f ⟨[x, y], []⟩ = pure [(a, x), (b, y)]) : ∀ vs : List Value, vs.length = 2 → bindArgs f ⟨vs, []⟩ = pure ([a, b].zip vs)
  | [x, y], _ => h x y
theorem bind3 {f : FuncData} {a b c : Str} (h : ∀ x y z : Value, bindArgs f ⟨[x, y, z], []⟩ = pure [(a, x), (b, y), (c, z)]) : ∀ vs : List Value, vs.length = 3 → bindArgs f ⟨vs, []⟩ = pure ([a, b, c].zip vs)
  | [x, y, z], _ => h x y z
theorem bind4 {f : FuncData} {a b c d : Str} (h : ∀ x y z u : Value, bindArgs f ⟨[x, y, z, u], []⟩ = pure [(a, x), (b, y), (c, z), (d, u)]) : ∀ vs : List Value, vs.length = 4 → bindArgs f ⟨vs, []⟩ = pure ([a, b, c, d].zip vs)
  | [x, y, z, u], _ => h x y z u
theorem bind0 {f : FuncData} (h : bindArgs f ⟨[], []⟩ = pure []) : ∀ vs : List Value, vs.length = 0 → bindArgs f ⟨vs, []⟩ = pure (([] : List Str).zip vs)
  | [], _ => h

end Mine
end
section
open PySem PySem.W PySem.Spec PySem.Calls PyProof.Rows
namespace Mine
theorem k35 (P : Params) : (K P).lookup 35 = some (fO (mth 2 0) (.ofString "ChessError.__init__") (.ofString "chess.errors") 194 34) := by kernel_rfl
theorem c35 (P : Params) : codeIn (K P) (.ref 34) (.ofString "ChessError.__init__") = true := by kernel_rfl
theorem k72 (P : Params) : (K P).lookup 72 = some (fO (stm 12) (.ofString "mated_in") (.ofString "chess.values") 257 71) := by kernel_rfl
theorem c72 (P : Params) : codeIn (K P) (.ref 71) (.ofString "mated_in") = true := by kernel_rfl
theorem k79 (P : Params) : (K P).lookup 79 = some (fO (stm 13) (.ofString "mate_in") (.ofString "chess.values") 257 78) := by kernel_rfl
theorem c79 (P : Params) : codeIn (K P) (.ref 78) (.ofString "mate_in") = true := by kernel_rfl
theorem k86 (P : Params) : (K P).lookup 86 = some (fO (stm 14) (.ofString "is_mate_score") (.ofString "chess.values") 257 85) := by kernel_rfl
theorem c86 (P : Params) : codeIn (K P) (.ref 85) (.ofString "is_mate_score") = true := by kernel_rfl
theorem k93 (P : Params) : (K P).lookup 93 = some (fO (stm 15) (.ofString "moves_to_mate") (.ofString "chess.values") 257 92) := by kernel_rfl
theorem c93 (P : Params) : codeIn (K P) (.ref 92) (.ofString "moves_to_mate") = true := by kernel_rfl
theorem k100 (P : Params) : (K P).lookup 100 = some (fO (stm 16) (.ofString "to_table") (.ofString "chess.values") 257 99) := by kernel_rfl
theorem c100 (P : Params) : codeIn (K P) (.ref 99) (.ofString "to_table") = true := by kernel_rfl
theorem k107 (P : Params) : (K P).lookup 107 = some (fO (stm 17) (.ofString "from_table") (.ofString "chess.values") 257 106) := by kernel_rfl
theorem c107 (P : Params) : codeIn (K P) (.ref 106) (.ofString "from_table") = true := by kernel_rfl
theorem k114 (P : Params) : (K P).lookup 114 = some (fO (stm 18) (.ofString "clamp") (.ofString "chess.values") 257 113) := by kernel_rfl
theorem c114 (P : Params) : codeIn (K P) (.ref 113) (.ofString "clamp") = true := by kernel_rfl
theorem k121 (P : Params) : (K P).lookup 121 = some (fO (stm 19) (.ofString "score_text") (.ofString "chess.values") 257 120) := by kernel_rfl
theorem c121 (P : Params) : codeIn (K P) (.ref 120) (.ofString "score_text") = true := by kernel_rfl
theorem k128 (P : Params) : (K P).lookup 128 = some (fO (stm 20) (.ofString "read_count") (.ofString "chess.values") 257 127) := by kernel_rfl
theorem c128 (P : Params) : codeIn (K P) (.ref 127) (.ofString "read_count") = true := by kernel_rfl
theorem k135 (P : Params) : (K P).lookup 135 = some (fO (stm 21) (.ofString "read_score") (.ofString "chess.values") 257 134) := by kernel_rfl
theorem c135 (P : Params) : codeIn (K P) (.ref 134) (.ofString "read_score") = true := by kernel_rfl
theorem k142 (P : Params) : (K P).lookup 142 = some (fO (stm 23) (.ofString "plain_quiesce") (.ofString "chess.plain") 348 141) := by kernel_rfl
theorem c142 (P : Params) : codeIn (K P) (.ref 141) (.ofString "plain_quiesce") = true := by kernel_rfl
theorem k149 (P : Params) : (K P).lookup 149 = some (fO (stm 24) (.ofString "end_value") (.ofString "chess.plain") 348 148) := by kernel_rfl
theorem c149 (P : Params) : codeIn (K P) (.ref 148) (.ofString "end_value") = true := by kernel_rfl
theorem k156 (P : Params) : (K P).lookup 156 = some (fO (stm 25) (.ofString "negamax") (.ofString "chess.plain") 348 155) := by kernel_rfl
theorem c156 (P : Params) : codeIn (K P) (.ref 155) (.ofString "negamax") = true := by kernel_rfl
theorem k170 (P : Params) : (K P).lookup 170 = some (fO (mth 27 0) (.ofString "TreeGame.__init__") (.ofString "chess.treegame") 385 169) := by kernel_rfl
theorem c170 (P : Params) : codeIn (K P) (.ref 169) (.ofString "TreeGame.__init__") = true := by kernel_rfl
theorem k177 (P : Params) : (K P).lookup 177 = some (fO (mth 27 1) (.ofString "TreeGame.moves") (.ofString "chess.treegame") 385 176) := by kernel_rfl
theorem c177 (P : Params) : codeIn (K P) (.ref 176) (.ofString "TreeGame.moves") = true := by kernel_rfl
theorem k189 (P : Params) : (K P).lookup 189 = some (fO (mth 27 3) (.ofString "TreeGame.make") (.ofString "chess.treegame") 385 188) := by kernel_rfl
theorem c189 (P : Params) : codeIn (K P) (.ref 188) (.ofString "TreeGame.make") = true := by kernel_rfl
theorem k196 (P : Params) : (K P).lookup 196 = some (fO (mth 27 4) (.ofString "TreeGame.undo") (.ofString "chess.treegame") 385 195) := by kernel_rfl
theorem c196 (P : Params) : codeIn (K P) (.ref 195) (.ofString "TreeGame.undo") = true := by kernel_rfl
theorem k203 (P : Params) : (K P).lookup 203 = some (fO (mth 27 5) (.ofString "TreeGame.value") (.ofString "chess.treegame") 385 202) := by kernel_rfl
theorem c203 (P : Params) : codeIn (K P) (.ref 202) (.ofString "TreeGame.value") = true := by kernel_rfl
theorem k217 (P : Params) : (K P).lookup 217 = some (fO (mth 27 7) (.ofString "TreeGame.in_check") (.ofString "chess.treegame") 385 216) := by kernel_rfl
theorem c217 (P : Params) : codeIn (K P) (.ref 216) (.ofString "TreeGame.in_check") = true := by kernel_rfl
theorem k224 (P : Params) : (K P).lookup 224 = some (fO (mth 27 8) (.ofString "TreeGame.is_draw") (.ofString "chess.treegame") 385 223) := by kernel_rfl
theorem c224 (P : Params) : codeIn (K P) (.ref 223) (.ofString "TreeGame.is_draw") = true := by kernel_rfl
theorem k259 (P : Params) : (K P).lookup 259 = some (fO (stm 29) (.ofString "_law_START") (.ofString "law_nt0424_01") 507 258) := by kernel_rfl
theorem c259 (P : Params) : codeIn (K P) (.ref 258) (.ofString "_law_START") = true := by kernel_rfl
theorem k266 (P : Params) : (K P).lookup 266 = some (fO (stm 30) (.ofString "_law_at") (.ofString "law_nt0424_01") 507 265) := by kernel_rfl
theorem c266 (P : Params) : codeIn (K P) (.ref 265) (.ofString "_law_at") = true := by kernel_rfl
theorem k273 (P : Params) : (K P).lookup 273 = some (fO (stm 31) (.ofString "_law_digit") (.ofString "law_nt0424_01") 507 272) := by kernel_rfl
theorem c273 (P : Params) : codeIn (K P) (.ref 272) (.ofString "_law_digit") = true := by kernel_rfl
theorem k278 (P : Params) : (K P).lookup 278 = some (fO (stm 32) (.ofString "_law_tree") (.ofString "law_nt0424_01") 507 277) := by kernel_rfl
theorem c278 (P : Params) : codeIn (K P) (.ref 277) (.ofString "_law_tree") = true := by kernel_rfl
theorem k283 (P : Params) : (K P).lookup 283 = some (fO (stm 33) (.ofString "_law_rounds") (.ofString "law_nt0424_01") 507 282) := by kernel_rfl
theorem c283 (P : Params) : codeIn (K P) (.ref 282) (.ofString "_law_rounds") = true := by kernel_rfl
theorem k290 (P : Params) : (K P).lookup 290 = some (fO (stm 34) (.ofString "_law_told") (.ofString "law_nt0424_01") 507 289) := by kernel_rfl
theorem c290 (P : Params) : codeIn (K P) (.ref 289) (.ofString "_law_told") = true := by kernel_rfl
theorem k297 (P : Params) : (K P).lookup 297 = some (fO (stm 35) (.ofString "_law_drawn") (.ofString "law_nt0424_01") 507 296) := by kernel_rfl
theorem c297 (P : Params) : codeIn (K P) (.ref 296) (.ofString "_law_drawn") = true := by kernel_rfl
theorem k304 (P : Params) : (K P).lookup 304 = some (fO (stm 36) (.ofString "_law_says") (.ofString "law_nt0424_01") 507 303) := by kernel_rfl
theorem c304 (P : Params) : codeIn (K P) (.ref 303) (.ofString "_law_says") = true := by kernel_rfl
theorem k311 (P : Params) : (K P).lookup 311 = some (fO (stm 37) (.ofString "_law_keeps") (.ofString "law_nt0424_01") 507 310) := by kernel_rfl
theorem c311 (P : Params) : codeIn (K P) (.ref 310) (.ofString "_law_keeps") = true := by kernel_rfl
theorem k318 (P : Params) : (K P).lookup 318 = some (fO (stm 38) (.ofString "_law_reads") (.ofString "law_nt0424_01") 507 317) := by kernel_rfl
theorem c318 (P : Params) : codeIn (K P) (.ref 317) (.ofString "_law_reads") = true := by kernel_rfl
theorem k323 (P : Params) : (K P).lookup 323 = some (fO (stm 39) (.ofString "law") (.ofString "law_nt0424_01") 507 322) := by kernel_rfl
theorem c323 (P : Params) : codeIn (K P) (.ref 322) (.ofString "law") = true := by kernel_rfl
theorem g_MATE (P : Params) : nsIn (K P) mainGlobals (.ofString "MATE") = some (some (.int 32000 259)) := by kernel_rfl
theorem g_DRAW (P : Params) : nsIn (K P) mainGlobals (.ofString "DRAW") = some (some (.int 0 261)) := by kernel_rfl
theorem g_INFINITE (P : Params) : nsIn (K P) mainGlobals (.ofString "INFINITE") = some (some (.int 32001 263)) := by kernel_rfl
theorem g_MAX_PLY (P : Params) : nsIn (K P) mainGlobals (.ofString "MAX_PLY") = some (some (.int 246 265)) := by kernel_rfl
theorem g_MATE_LEAST (P : Params) : nsIn (K P) mainGlobals (.ofString "MATE_LEAST") = some (some (.int 31754 267)) := by kernel_rfl
theorem g_EVAL_MOST (P : Params) : nsIn (K P) mainGlobals (.ofString "EVAL_MOST") = some (some (.int 31753 270)) := by kernel_rfl
theorem g_ChessError (P : Params) : nsIn (K P) mainGlobals (.ofString "ChessError") = some (some (.ref 38)) := by kernel_rfl
theorem g_BadCommand (P : Params) : nsIn (K P) mainGlobals (.ofString "BadCommand") = some (some (.ref 63)) := by kernel_rfl
theorem g_mated_in (P : Params) : nsIn (K P) mainGlobals (.ofString "mated_in") = some (some (.ref 72)) := by kernel_rfl
theorem g_mate_in (P : Params) : nsIn (K P) mainGlobals (.ofString "mate_in") = some (some (.ref 79)) := by kernel_rfl
theorem g_is_mate_score (P : Params) : nsIn (K P) mainGlobals (.ofString "is_mate_score") = some (some (.ref 86)) := by kernel_rfl
theorem g_moves_to_mate (P : Params) : nsIn (K P) mainGlobals (.ofString "moves_to_mate") = some (some (.ref 93)) := by kernel_rfl
theorem g_to_table (P : Params) : nsIn (K P) mainGlobals (.ofString "to_table") = some (some (.ref 100)) := by kernel_rfl
theorem g_from_table (P : Params) : nsIn (K P) mainGlobals (.ofString "from_table") = some (some (.ref 107)) := by kernel_rfl
theorem g_clamp (P : Params) : nsIn (K P) mainGlobals (.ofString "clamp") = some (some (.ref 114)) := by kernel_rfl
theorem g_score_text (P : Params) : nsIn (K P) mainGlobals (.ofString "score_text") = some (some (.ref 121)) := by kernel_rfl
theorem g_read_count (P : Params) : nsIn (K P) mainGlobals (.ofString "read_count") = some (some (.ref 128)) := by kernel_rfl
theorem g_read_score (P : Params) : nsIn (K P) mainGlobals (.ofString "read_score") = some (some (.ref 135)) := by kernel_rfl
theorem g_plain_quiesce (P : Params) : nsIn (K P) mainGlobals (.ofString "plain_quiesce") = some (some (.ref 142)) := by kernel_rfl
theorem g_end_value (P : Params) : nsIn (K P) mainGlobals (.ofString "end_value") = some (some (.ref 149)) := by kernel_rfl
theorem g_negamax (P : Params) : nsIn (K P) mainGlobals (.ofString "negamax") = some (some (.ref 156)) := by kernel_rfl
theorem g_TreeGame (P : Params) : nsIn (K P) mainGlobals (.ofString "TreeGame") = some (some (.ref 248)) := by kernel_rfl
theorem g_law_START (P : Params) : nsIn (K P) mainGlobals (.ofString "_law_START") = some (some (.ref 259)) := by kernel_rfl
theorem g_law_at (P : Params) : nsIn (K P) mainGlobals (.ofString "_law_at") = some (some (.ref 266)) := by kernel_rfl
theorem g_law_digit (P : Params) : nsIn (K P) mainGlobals (.ofString "_law_digit") = some (some (.ref 273)) := by kernel_rfl
theorem g_law_tree (P : Params) : nsIn (K P) mainGlobals (.ofString "_law_tree") = some (some (.ref 278)) := by kernel_rfl
theorem g_law_rounds (P : Params) : nsIn (K P) mainGlobals (.ofString "_law_rounds") = some (some (.ref 283)) := by kernel_rfl
theorem g_law_told (P : Params) : nsIn (K P) mainGlobals (.ofString "_law_told") = some (some (.ref 290)) := by kernel_rfl
theorem g_law_drawn (P : Params) : nsIn (K P) mainGlobals (.ofString "_law_drawn") = some (some (.ref 297)) := by kernel_rfl
theorem g_law_says (P : Params) : nsIn (K P) mainGlobals (.ofString "_law_says") = some (some (.ref 304)) := by kernel_rfl
theorem g_law_keeps (P : Params) : nsIn (K P) mainGlobals (.ofString "_law_keeps") = some (some (.ref 311)) := by kernel_rfl
theorem g_law_reads (P : Params) : nsIn (K P) mainGlobals (.ofString "_law_reads") = some (some (.ref 318)) := by kernel_rfl
theorem g_abs (P : Params) : nsIn (K P) mainGlobals (.ofString "abs") = some none := by kernel_rfl
theorem b_abs : bootBuiltins (.ofString "abs") = some (.builtin "abs") := by boot_fast
theorem g_len (P : Params) : nsIn (K P) mainGlobals (.ofString "len") = some none := by kernel_rfl
theorem b_len : bootBuiltins (.ofString "len") = some (.builtin "len") := by boot_fast
theorem g_min (P : Params) : nsIn (K P) mainGlobals (.ofString "min") = some none := by kernel_rfl
theorem b_min : bootBuiltins (.ofString "min") = some (.builtin "min") := by boot_fast
theorem g_max (P : Params) : nsIn (K P) mainGlobals (.ofString "max") = some none := by kernel_rfl
theorem b_max : bootBuiltins (.ofString "max") = some (.builtin "max") := by boot_fast
theorem g_sorted (P : Params) : nsIn (K P) mainGlobals (.ofString "sorted") = some none := by kernel_rfl
theorem b_sorted : bootBuiltins (.ofString "sorted") = some (.builtin "sorted") := by boot_fast
theorem g_str (P : Params) : nsIn (K P) mainGlobals (.ofString "str") = some none := by kernel_rfl
theorem b_str : bootBuiltins (.ofString "str") = some (.type "str") := by boot_fast
theorem g_int (P : Params) : nsIn (K P) mainGlobals (.ofString "int") = some none := by kernel_rfl
theorem b_int : bootBuiltins (.ofString "int") = some (.type "int") := by boot_fast
theorem g_range (P : Params) : nsIn (K P) mainGlobals (.ofString "range") = some none := by kernel_rfl
theorem b_range : bootBuiltins (.ofString "range") = some (.type "range") := by boot_fast
theorem g_list (P : Params) : nsIn (K P) mainGlobals (.ofString "list") = some none := by kernel_rfl
theorem b_list : bootBuiltins (.ofString "list") = some (.type "list") := by boot_fast
end Mine
end
section
open PySem PySem.W PySem.Spec PySem.Calls PyProof.Rows
namespace Mine
local macro_rules | `(tactic| walk_at "gi") => `(tactic| with_reducible first | exact g_MATE _ | exact g_DRAW _ | exact g_INFINITE _ | exact g_MAX_PLY _ | exact g_MATE_LEAST _ | exact g_EVAL_MOST _)
local macro_rules | `(tactic| walk_at "gr") => `(tactic| with_reducible first | exact g_ChessError _ | exact g_BadCommand _ | exact g_mated_in _ | exact g_mate_in _ | exact g_is_mate_score _ | exact g_moves_to_mate _ | exact g_to_table _ | exact g_from_table _ | exact g_clamp _ | exact g_score_text _ | exact g_read_count _ | exact g_read_score _ | exact g_plain_quiesce _ | exact g_end_value _ | exact g_negamax _ | exact g_TreeGame _ | exact g_law_START _ | exact g_law_at _ | exact g_law_digit _ | exact g_law_tree _ | exact g_law_rounds _ | exact g_law_told _ | exact g_law_drawn _ | exact g_law_says _ | exact g_law_keeps _ | exact g_law_reads _)
local macro_rules | `(tactic| walk_at "gn") => `(tactic| with_reducible first | exact g_abs _ | exact g_len _ | exact g_min _ | exact g_max _ | exact g_sorted _ | exact g_str _ | exact g_int _ | exact g_range _ | exact g_list _)
local macro_rules | `(tactic| walk_at "bb") => `(tactic| with_reducible first | exact b_abs | exact b_len | exact b_min | exact b_max | exact b_sorted | exact b_str | exact b_int | exact b_range | exact b_list)
local macro_rules | `(tactic| walk_at "lk") => `(tactic| first | with_reducible exact lk0 | (with_reducible apply lk1; kernel_rfl; walk_at "lk"))
local macro_rules | `(tactic| walk_at "op") => `(tactic| with_reducible first | exact OP2.add | exact OP2.sub | exact OP2.lt | exact OP2.le | exact OP2.gt | exact OP2.ge | exact OP2.eq | exact OP2.ne | exact OP1.neg | exact OP2.mod (by decide) | exact OP2.div (by decide) (by decide) | exact OP2.neB | exact OP2.eqS | exact OP2.neS | exact OP2.isNN | exact OP2.isIN | exact OP1.not TV.bool | walk_at "op2")
local macro_rules | `(tactic| walk_at "kp") => `(tactic| first | with_reducible exact KP.builtin | with_reducible exact KP.type | exact KP.fn (by kernel_rfl))
local macro_rules | `(tactic| walk_at "ar") => `(tactic| first | with_reducible exact AR.nil | (with_reducible apply AR.cons; (walk_at "ev"); (walk_at "ar"); (intro _; kernel_rfl)))
local macro_rules | `(tactic| walk_at "ev") => `(tactic| first
  | with_reducible exact EV.num
  | with_reducible exact EV.text
  | with_reducible exact EV.truth
  | with_reducible exact EV.none_
  | (with_reducible apply EV.name; (walk_at "lk"); kernel_rfl; kernel_rfl; kernel_rfl)
  | walk_at "cel"
  | (with_reducible apply EV.globI; (walk_at "gi"); kernel_rfl; kernel_rfl; kernel_rfl)
  | (with_reducible apply EV.glob; (walk_at "gr"); kernel_rfl; kernel_rfl; kernel_rfl)
  | (with_reducible apply EV.bltn; (walk_at "gn"); (walk_at "bb"); (decide +kernel); kernel_rfl; kernel_rfl; kernel_rfl)
  | (with_reducible apply EV.bin; (walk_at "ev"); (walk_at "ev"); (walk_at "op"))
  | (with_reducible apply EV.un; (walk_at "ev"); (walk_at "op"))
  | (with_reducible apply EV.cmp; (walk_at "ev"); (walk_at "ev"); (walk_at "op"); kernel_rfl)
  | (with_reducible apply EV.chain; (walk_at "ev"); (walk_at "ev"); (walk_at "op"); (intro _; walk_at "ev"); (intro _; walk_at "op"); kernel_rfl)
  | walk_at "ev2"
  | (with_reducible apply EV.call; (walk_at "ev"); (walk_at "ar"); (walk_at "cl"); (walk_at "kp"); kernel_rfl; (intro _; kernel_rfl)))
local macro_rules | `(tactic| walk_at "tv") => `(tactic| first | with_reducible exact TV.bool)
local macro_rules | `(tactic| walk_at "tb") => `(tactic| first
  | with_reducible exact TB.andNil
  | with_reducible exact TB.orNil
  | (with_reducible apply TB.and2; (walk_at "tr"); (intro _; walk_at "tb"))
  | (with_reducible apply TB.or2; (walk_at "tr"); (intro _; walk_at "tb")))
local macro_rules | `(tactic| walk_at "tr") => `(tactic| first
  | (with_reducible apply TR.cmp; (walk_at "ev"); (walk_at "ev"); (walk_at "op"); kernel_rfl)
  | (with_reducible apply TR.chain; (walk_at "ev"); (walk_at "ev"); (walk_at "op"); (intro _; walk_at "ev"); (intro _; walk_at "op"); kernel_rfl)
  | (with_reducible apply TR.not; (walk_at "tr"))
  | (with_reducible apply TR.bool; (walk_at "tb"))
  | (with_reducible apply TR.plain; (walk_at "ev"); (walk_at "tv"); (intro _ _; kernel_rfl)))
local macro_rules | `(tactic| walk_at "body") => `(tactic| ((conv in (boO _) => whnf); dsimp only [List.zip, List.zipWith, List.reverse, List.reverseAux]))
local macro_rules | `(tactic| walk_at "cov") => `(tactic| first
  | with_reducible exact Cov.nil
  | (with_reducible apply Cov.cons; (walk_at "lk"); walk_at "cov"))
section
def ab (v : Int) : Int := if v < 0 then -v else v
def mateS (v : Int) : Bool := decide (31754 ≤ ab v) && decide (ab v ≤ 32000)
def mtm (v : Int) : Int := if mateS v = true then (if 0 < v then (32000 - v + 1).fdiv 2 else -((32000 + v + 1).fdiv 2)) else 0
def toT (v ply : Int) : Int := if 31754 ≤ v then v + ply else if v ≤ -31754 then v - ply else v
def frT (v ply : Int) : Int := if 31754 ≤ v then v - ply else if v ≤ -31754 then v + ply else v
def clampv (v : Int) : Int := if 31753 < v then 31753 else if v < -31753 then -31753 else v
section
variable {w : World} {ns : List Int} {lv : Nat} {σ : List AObj}
theorem r_mated_in {i : Int} : CX (gg w ns) (lv + 1) (.ref 72) [.int i] σ (.int (i - 32000)) σ := by
  apply CX.fn [.ofString "ply"] (k72 _) (c72 _) (bind1 fun _ => by kernel_rfl) (by kernel_rfl) rfl
  · walk_at "body"
    apply EX.re
    walk_at "ev"
  · rfl
theorem r_mate_in {i : Int} : CX (gg w ns) (lv + 1) (.ref 79) [.int i] σ (.int (32000 - i)) σ := by
  apply CX.fn [.ofString "ply"] (k79 _) (c79 _) (bind1 fun _ => by kernel_rfl) (by kernel_rfl) rfl
  · walk_at "body"
    apply EX.re
    walk_at "ev"
  · rfl
local macro_rules | `(tactic| walk_at "cl") => `(tactic| first | exact CL.abs | exact CX.cl r_mated_in | exact CX.cl r_mate_in)
theorem r_is_mate {v : Int} : CX (gg w ns) (lv + 1) (.ref 86) [.int v] σ (.bool (mateS v)) σ := by
  apply CX.fn [.ofString "value"] (k86 _) (c86 _) (bind1 fun _ => by kernel_rfl) (by kernel_rfl) rfl
  · walk_at "body"
    apply EX.re
    walk_at "ev"
  · rfl
local macro_rules | `(tactic| walk_at "cl") => `(tactic| first | exact CX.cl r_is_mate)
theorem r_mtm {v : Int} : CX (gg w ns) (lv + 2) (.ref 93) [.int v] σ (.int (mtm v)) σ := by
  apply CX.fn [.ofString "value"] (k93 _) (c93 _) (bind1 fun _ => by kernel_rfl) (by kernel_rfl) rfl (o := .ret (.int (mtm v)))
  · walk_at "body"
    unfold mtm
    cases h : mateS v
    · apply EX.iT
      · walk_at "tr"
      · rw [h]; rfl
      · apply EX.re'; walk_at "ev"; rfl
      · simp
    · apply EX.iF
      · walk_at "tr"
      · rw [h]; rfl
      · by_cases h0 : 0 < v
        · apply EX.iT
          · walk_at "tr"
          · simpa using h0
          · apply EX.re'; walk_at "ev"; simp [h0]
          · simp
        · apply EX.iF
          · walk_at "tr"
          · simpa using h0
          · apply EX.re'; walk_at "ev"; simp [h0]
  · rfl
theorem r_toT {v p : Int} : CX (gg w ns) (lv + 1) (.ref 100) [.int v, .int p] σ (.int (toT v p)) σ := by
  apply CX.fn [.ofString "value", .ofString "ply"] (k100 _) (c100 _) (bind2 fun _ _ => by kernel_rfl) (by kernel_rfl) rfl (o := .ret (.int (toT v p)))
  · walk_at "body"
    by_cases h1 : 31754 ≤ v
    · apply EX.iT
      · walk_at "tr"
      · simpa using h1
      · apply EX.re'; walk_at "ev"; simp [toT, h1]
      · simp
    · apply EX.iF
      · walk_at "tr"
      · simpa using h1
      · by_cases h2 : v ≤ -31754
        · apply EX.iT
          · walk_at "tr"
          · simpa using h2
          · apply EX.re'; walk_at "ev"; simp [toT, h1, h2]
          · simp
        · apply EX.iF
          · walk_at "tr"
          · simpa using h2
          · apply EX.re'; walk_at "ev"; simp [toT, h1, h2]
  · rfl
theorem r_frT {v p : Int} : CX (gg w ns) (lv + 1) (.ref 107) [.int v, .int p] σ (.int (frT v p)) σ := by
  apply CX.fn [.ofString "value", .ofString "ply"] (k107 _) (c107 _) (bind2 fun _ _ => by kernel_rfl) (by kernel_rfl) rfl (o := .ret (.int (frT v p)))
  · walk_at "body"
    by_cases h1 : 31754 ≤ v
    · apply EX.iT
      · walk_at "tr"
      · simpa using h1
      · apply EX.re'; walk_at "ev"; simp [frT, h1]
      · simp
    · apply EX.iF
      · walk_at "tr"
      · simpa using h1
      · by_cases h2 : v ≤ -31754
        · apply EX.iT
          · walk_at "tr"
          · simpa using h2
          · apply EX.re'; walk_at "ev"; simp [frT, h1, h2]
          · simp
        · apply EX.iF
          · walk_at "tr"
          · simpa using h2
          · apply EX.re'; walk_at "ev"; simp [frT, h1, h2]
  · rfl
theorem r_clamp {v : Int} : CX (gg w ns) (lv + 1) (.ref 114) [.int v] σ (.int (clampv v)) σ := by
  apply CX.fn [.ofString "value"] (k114 _) (c114 _) (bind1 fun _ => by kernel_rfl) (by kernel_rfl) rfl (o := .ret (.int (clampv v)))
  · walk_at "body"
    by_cases h1 : 31753 < v
    · apply EX.iT
      · walk_at "tr"
      · simpa using h1
      · apply EX.re'; walk_at "ev"; simp [clampv, h1]
      · simp
    · apply EX.iF
      · walk_at "tr"
      · simpa using h1
      · by_cases h2 : v < -31753
        · apply EX.iT
          · walk_at "tr"
          · simpa using h2
          · apply EX.re'; walk_at "ev"; simp [clampv, h1, h2]
          · simp
        · apply EX.iF
          · walk_at "tr"
          · simpa using h2
          · apply EX.re'; walk_at "ev"; simp [clampv, h1, h2]
  · rfl
def scoreT (v : Int) : Str := if mateS v = true then .ofString "mate " ++ itx (mtm v) else .ofString "cp " ++ itx v
end
end
section
theorem ab_nat (v : Int) : ab v = v.natAbs := by unfold ab; split <;> omega
theorem mateS_iff {v : Int} : mateS v = true ↔ 31754 ≤ v.natAbs ∧ v.natAbs ≤ 32000 := by
  simp only [mateS, Bool.and_eq_true, decide_eq_true_eq, ab_nat]; omega
theorem mtm_small {v : Int} : (mtm v).natAbs < 2 ^ 64 := by
  unfold mtm
  split
  · rename_i h
    have h := mateS_iff.mp h
    split
    · rw [Int.fdiv_eq_ediv_of_nonneg _ (by decide)]; omega
    · rw [Int.fdiv_eq_ediv_of_nonneg _ (by decide)]; omega
  · decide
theorem itx_len {i : Int} (h : i.natAbs < 2 ^ 64) : (itx i).length ≤ 1921 := int_text_len_1921 (log2_small h)
section
variable {w : World} {ns : List Int} {lv : Nat} {σ : List AObj}
local macro_rules | `(tactic| walk_at "cl") => `(tactic| first | exact CX.cl r_is_mate | exact CX.cl r_mtm | exact CL.strI (log2_small (by assumption)))
theorem r_scoreT {v : Int} (hv : v.natAbs < 2 ^ 64) : CX (gg w ns) (lv + 3) (.ref 121) [.int v] σ (.str (scoreT v)) σ := by
  have hm := @mtm_small v
  apply CX.fn [.ofString "value"] (k121 _) (c121 _) (bind1 fun _ => by kernel_rfl) (by kernel_rfl) rfl (o := .ret (.str (scoreT v)))
  · walk_at "body"
    cases h : mateS v
    · apply EX.iF
      · walk_at "tr"
      · exact h
      · apply EX.re'
        · with_reducible apply EV.bin
          · walk_at "ev"
          · walk_at "ev"
          · exact OP2.addS (by have := itx_len hv; have e : (Str.ofString "cp ").length = 3 := by kernel_rfl
                               omega)
        · simp [scoreT, h]
    · apply EX.iT
      · walk_at "tr"
      · exact h
      · apply EX.re'
        · with_reducible apply EV.bin
          · walk_at "ev"
          · walk_at "ev"
          · exact OP2.addS (by have := itx_len hm; have e : (Str.ofString "mate ").length = 5 := by kernel_rfl
                               omega)
        · simp [scoreT, h]
      · simp
  · rfl
theorem x_make : XMake (gg w ns) (lv + 2) 63 := by
  intro fd c m α σ s Q E v A F S hkd k
  exact XM (fI := 35) (by kernel_rfl) (by kernel_rfl) (by kernel_rfl) (k35 _) (c35 _) (fun _ _ => by kernel_rfl) (by kernel_rfl) (by kernel_rfl) (by kernel_rfl) (by kernel_rfl) (by kernel_rfl) (by kernel_rfl) (by kernel_rfl) (by kernel_rfl) (by kernel_rfl) (by decide +kernel) (pl := fun env => do return (← importBound (.Name (.ofString "Exception") ⟨8, 8, 8, 17⟩) env).getD true) (fun _ => by kernel_rfl) (fun _ => by kernel_rfl) (fun _ => by kernel_rfl) (by kernel_rfl) (by kernel_rfl) (by kernel_rfl) (by kernel_rfl) A F S hkd k
end
end
section
def rcD (x : Str) : Str := if (Txt.slice x none (some 1) == .ofString "-") = true then Txt.slice x (some 1) none else x
def dig (n : Nat) : Bool := Txt.contains (.ofString "0123456789") ⟨#[n]⟩
def rcN (x d : Str) : Option Int :=
  if ((d == .ofString "") || decide (5 < (d.length : Int))) = true then none else
  if (d.cps.toList.any fun n => !dig n) = true then none else
  if ((Txt.item d 0 == .ofString "0") && (x != .ofString "0")) = true then none else
  if (Txt.item x 0 == .ofString "-") = true then some (-((NumText.digitsVal d.cps.toList : Nat) : Int)) else some ((NumText.digitsVal d.cps.toList : Nat) : Int)
def rcount (x : Str) : Option Int := rcN x (rcD x)
theorem dig_iff {n : Nat} : dig n = true ↔ 48 ≤ n ∧ n ≤ 57 := by
  unfold dig Txt.contains
  rw [StrLaws.found_one, decide_eq_true_eq]
  have e : (Str.ofString "0123456789").cps.toList = [48, 49, 50, 51, 52, 53, 54, 55, 56, 57] := by kernel_rfl
  rw [e]
  simp only [List.mem_cons, List.not_mem_nil, or_false]
  omega
section
variable {w : World} {ns : List Int} {lv : Nat} {σ : List AObj}
noncomputable abbrev fd128 : FD := fdO (stm 20) (.ofString "read_count") 128 127
abbrev μ128 (x d : Str) : Loc := [(.ofString "digits", .str d), (.ofString "text", .str x)]
local macro_rules | `(tactic| walk_at "cl") => `(tactic| first | exact CL.lenS (by assumption) | exact CL.intS (by assumption) (by omega))
local macro_rules | `(tactic| walk_at "op2") => `(tactic| exact OP2.notInS)
local macro_rules | `(tactic| walk_at "ev2") => `(tactic| first
  | (with_reducible apply EV.sliceNS; (walk_at "ev"); (walk_at "ev"); assumption; (intro _ _; kernel_rfl); (intro _ _; kernel_rfl))
  | (with_reducible apply EV.sliceSN; (walk_at "ev"); (walk_at "ev"); assumption; (intro _ _; kernel_rfl); (intro _ _; kernel_rfl))
  | (with_reducible apply EV.sub; (walk_at "ev"); (walk_at "ev"); exact OP2.itemS (by omega) (by omega) (by omega) (by intro _ _; kernel_rfl) (by intro _ _; kernel_rfl)))
theorem loop128 {x d : Str} {lv : Nat} {body : List Stmt} {p1 p2 p3 p4 p5 p6 : Pos} {n1 n2 : Nat} (hb : body = [.If (.Compare (.Name (.ofString "sign") p1) [.NotIn] [.Constant (.str (.ofString "0123456789")) n1 p2] p3) [.Return (some (.Constant .none n2 p4)) p5] [] p6]) :
    ∀ l : List Nat, if (l.any fun n => !dig n) = true then ∃ μ', Loop (gg w ns) lv fd128 body (bndL (.ofString "sign")) (fun _ => True) (l.map fun n => .str ⟨#[n]⟩) (μ128 x d) σ (.ret .none) μ' σ
      else Loop (gg w ns) lv fd128 body (bndL (.ofString "sign")) (fun _ => True) (l.map fun n => .str ⟨#[n]⟩) (μ128 x d) σ .next (μ128 x d) σ := by
  intro l
  induction l with
  | nil => exact ⟨rfl, rfl, rfl⟩
  | cons n l ih =>
    cases h : dig n
    · rw [if_pos (by simp [h])]
      exact ⟨_, Loop.stop (by
        rw [hb]
        apply EX.iT
        · walk_at "tr"
        · simpa [dig] using h
        · apply EX.re
          walk_at "ev"
        · simp)⟩
    · have go : EX (gg w ns) lv fd128 body (bndL (.ofString "sign") (.str ⟨#[n]⟩) (μ128 x d) σ).1 (bndL (.ofString "sign") (.str ⟨#[n]⟩) (μ128 x d) σ).2 .next (μ128 x d) σ := by
        rw [hb]
        apply EX.cov
        · apply EX.iF
          · walk_at "tr"
          · simpa [dig] using h
          · exact EX.nil
        · walk_at "cov"
      by_cases q : (l.any fun n => !dig n) = true
      · rw [if_pos q] at ih
        rw [if_pos (by simp [h]; simpa using q)]
        obtain ⟨μ', ih⟩ := ih
        exact ⟨μ', Loop.next go trivial ih⟩
      · rw [if_neg q] at ih
        rw [if_neg (by simp [h]; simpa using q)]
        exact Loop.next go trivial ih
end
section
variable {w : World} {ns : List Int} {lv : Nat} {σ : List AObj}
local macro_rules | `(tactic| walk_at "cl") => `(tactic| first | exact CL.lenS (by assumption) | exact CL.intS (by assumption) (by omega))
local macro_rules | `(tactic| walk_at "op2") => `(tactic| exact OP2.notInS)
local macro_rules | `(tactic| walk_at "ev2") => `(tactic| first
  | (with_reducible apply EV.sliceNS; (walk_at "ev"); (walk_at "ev"); assumption; (intro _ _; kernel_rfl); (intro _ _; kernel_rfl))
  | (with_reducible apply EV.sliceSN; (walk_at "ev"); (walk_at "ev"); assumption; (intro _ _; kernel_rfl); (intro _ _; kernel_rfl))
  | (with_reducible apply EV.sub; (walk_at "ev"); (walk_at "ev"); exact OP2.itemS (by omega) (by omega) (by omega) (by intro _ _; kernel_rfl) (by intro _ _; kernel_rfl)))
theorem rest128 {x d : Str} (hd : d.length ≤ x.length) (hx : x.length ≤ 16777216) : ER (gg w ns) lv fd128 ((boO (stm 20)).drop 2) (μ128 x d) σ (ofOpt (rcN x d)) σ := by
  have hd' : d.length ≤ 16777216 := Nat.le_trans hd hx
  conv in (List.drop _ _) => whnf
  unfold rcN
  by_cases h1 : ((d == .ofString "") || decide (5 < (d.length : Int))) = true
  · rw [if_pos h1]
    apply ER.iT
    · walk_at "tr"
    · simpa using h1
    · apply ER.re
      · walk_at "ev"
      · rfl
  · rw [if_neg h1]
    apply ER.iF
    · walk_at "tr"
    · simpa using h1
    · simp only [Bool.or_eq_true, beq_iff_eq, decide_eq_true_eq, not_or] at h1
      have l1 : 1 ≤ d.length := by
        rcases Nat.eq_zero_or_pos d.length with q | q
        · exact absurd (Str.ext' (by rw [Array.eq_empty_of_size_eq_zero q]; kernel_rfl)) h1.1
        · exact q
      have l5 : d.length ≤ 640 := by omega
      have lp := loop128 (w := w) (ns := ns) (lv := lv) (x := x) (d := d) (σ := σ) (p1 := ⟨62, 11, 62, 15⟩) (p2 := ⟨62, 23, 62, 35⟩) (p3 := ⟨62, 11, 62, 35⟩) (p4 := ⟨63, 19, 63, 23⟩) (p5 := ⟨63, 12, 63, 23⟩) (p6 := ⟨62, 8, 63, 23⟩) (n1 := 0) (n2 := 0) rfl d.cps.toList
      by_cases h2 : (d.cps.toList.any fun n => !dig n) = true
      · rw [if_pos h2] at lp ⊢
        obtain ⟨μ', lp⟩ := lp
        apply ER.stop
        apply ES.for_
        · walk_at "ev"
        · exact SRC.str
        · rfl
        · exact BIND.loc rfl (by kernel_rfl) (by kernel_rfl)
        · trivial
        · exact lp
        · intro _ _; kernel_rfl
      · rw [if_neg h2] at lp ⊢
        apply ER.cons
        · apply ES.for_
          · walk_at "ev"
          · exact SRC.str
          · rfl
          · exact BIND.loc rfl (by kernel_rfl) (by kernel_rfl)
          · trivial
          · exact lp
          · intro _ _; kernel_rfl
        have hall : NumText.AllDigits d.cps.toList := fun c hc => dig_iff.mp (by
          by_cases q : dig c = true
          · exact q
          · exact absurd (List.any_eq_true.mpr ⟨c, hc, by simpa using q⟩) h2)
        have hne : d.cps.toList ≠ [] := fun e => by
          have q : d.cps.toList.length = d.length := Array.length_toList
          rw [e] at q
          simp at q
          omega
        have hi := intText_digits hall hne (by omega)
        have lx : 1 ≤ x.length := by omega
        by_cases h3 : ((Txt.item d 0 == .ofString "0") && (x != .ofString "0")) = true
        · rw [if_pos h3]
          apply ER.iT
          · walk_at "tr"
          · simpa using h3
          · apply ER.re
            · walk_at "ev"
            · rfl
        · rw [if_neg h3]
          apply ER.iF
          · walk_at "tr"
          · simpa using h3
          · by_cases h4 : (Txt.item x 0 == .ofString "-") = true
            · rw [if_pos h4]
              apply ER.iT
              · walk_at "tr"
              · simpa using h4
              · apply ER.re
                · walk_at "ev"
                · rfl
            · rw [if_neg h4]
              apply ER.iF
              · walk_at "tr"
              · simpa using h4
              · apply ER.re
                · walk_at "ev"
                · rfl
theorem r_count {x : Str} (hx : x.length ≤ 16777216) : CX (gg w ns) (lv + 1) (.ref 128) [.str x] σ (ofOpt (rcount x)) σ := by
  apply CX.fr [.ofString "text"] (k128 _) (c128 _) (bind1 fun _ => by kernel_rfl) (by kernel_rfl) rfl
  have rs := fun d hd => rest128 (w := w) (ns := ns) (lv := lv) (σ := σ) (x := x) (d := d) hd hx
  conv at rs in (List.drop _ _) => whnf
  walk_at "body"
  apply ER.cons
  · apply ES.assign
    · walk_at "ev"
    · rfl
    · kernel_rfl
    · kernel_rfl
    · intro _; kernel_rfl
  unfold rcount rcD
  by_cases h : (Txt.slice x none (some 1) == .ofString "-") = true
  · rw [if_pos h]
    apply ER.iTn
    · walk_at "tr"
    · simpa using h
    · apply EX.cons
      · apply ES.assign
        · walk_at "ev"
        · rfl
        · kernel_rfl
        · kernel_rfl
        · intro _; kernel_rfl
      · exact EX.nil
    · apply ER.pre
      · exact rs _ (Txt.slice_le _ _ _)
      · walk_at "cov"
  · rw [if_neg h]
    apply ER.iF
    · walk_at "tr"
    · simpa using h
    · apply ER.pre
      · exact rs _ (Nat.le_refl _)
      · walk_at "cov"
end
end
section
def rscoreP (p q : Str) : Option Int := match rcount q with
  | none => none
  | some n => if ((p == .ofString "cp") && (decide (-31753 ≤ n) && decide (n ≤ 31753))) = true then some n else
    if (p == .ofString "mate") = true then
      if (decide (0 < n) && decide (2 * n - 1 ≤ 246)) = true then some (32000 - (2 * n - 1)) else
      if (decide (n ≤ 0) && decide (-2 * n ≤ 246)) = true then some (-2 * n - 32000) else none
    else none
section
variable {w : World} {ns : List Int} {lv : Nat} {σ : List AObj} {x p q : Str} {v n : Int}
noncomputable abbrev fd135 : FD := fdO (stm 21) (.ofString "read_score") 135 134
local macro_rules | `(tactic| walk_at "cl") => `(tactic| first | exact CX.cl (r_count (by assumption)) | exact CX.cl r_mate_in | exact CX.cl r_mated_in | exact CL.len at_last (by simp))
local macro_rules | `(tactic| walk_at "op2") => `(tactic| first | exact OP2.mul (IntMulOk.of_left (by decide)))
local macro_rules | `(tactic| walk_at "ev2") => `(tactic| first
  | (with_reducible apply EV.sub; (walk_at "ev"); (walk_at "ev"); exact OP2.item at_last (by decide) rfl (by simp) (by intro _ _; kernel_rfl))
  | (with_reducible apply EV.me; (walk_at "ev"); exact GM.split; (walk_at "ar"); exact CL.split (by assumption) (by kernel_rfl); exact KP.builtin; kernel_rfl; (intro _; kernel_rfl)))
abbrev μ135 (σ : List AObj) (x : Str) : Loc := [(.ofString "parts", .ref σ.length), (.ofString "text", .str x)]
abbrev μ135n (σ : List AObj) (x : Str) (n : Int) : Loc := [(.ofString "number", .int n), (.ofString "parts", .ref σ.length), (.ofString "text", .str x)]
theorem r_score {x : Str} (hx : x.length ≤ 100000) (hs : Txt.split x (.ofString " ") = [p, q]) (hq : q.length ≤ 16777216) (hv : rscoreP p q = some v) : CX (gg w ns) (lv + 2) (.ref 135) [.str x] σ (.int v) (σ ++ [.list [.str p, .str q]]) := by
  apply CX.fr [.ofString "text"] (k135 _) (c135 _) (bind1 fun _ => by kernel_rfl) (by kernel_rfl) rfl
  walk_at "body"
  apply ER.cons
  · apply ES.assign
    · walk_at "ev"
    · rfl
    · kernel_rfl
    · kernel_rfl
    · intro _; kernel_rfl
  rw [hs]
  simp only [List.map_cons, List.map_nil]
  apply ER.iF
  · walk_at "tr"
  · rfl
  unfold rscoreP at hv
  cases hn : rcount q with
  | none => rw [hn] at hv; cases hv
  | some n =>
    rw [hn] at hv
    dsimp only at hv
    have e1 : ofOpt (rcount q) = .int n := by rw [hn]
    apply ER.cons
    · apply ES.assign
      · have hc := fun τ => r_count (w := w) (ns := ns) (lv := lv) (σ := τ) (x := q) hq
        rw [e1] at hc
        with_reducible apply EV.call
        · walk_at "ev"
        · walk_at "ar"
        · exact CX.cl (hc _)
        · walk_at "kp"
        · kernel_rfl
        · intro _; kernel_rfl
      · rfl
      · kernel_rfl
      · kernel_rfl
      · intro _; kernel_rfl
    apply ER.iF
    · walk_at "tr"
    · rfl
    by_cases h1 : ((p == .ofString "cp") && (decide (-31753 ≤ n) && decide (n ≤ 31753))) = true
    · rw [if_pos h1] at hv; cases hv
      apply ER.iT
      · apply TR.bool
        apply TB.and2
        · walk_at "tr"
        · intro _
          apply TB.and2
          · apply TR.chain
            · walk_at "ev"
            · walk_at "ev"
            · walk_at "op"
            · intro _
              walk_at "ev"
            · intro _; walk_at "op"
            · kernel_rfl
          · intro _; walk_at "tb"
      · simpa using h1
      · apply ER.re
        · walk_at "ev"
        · rfl
    · rw [if_neg h1] at hv
      apply ER.iF
      · walk_at "tr"
      · simpa using h1
      by_cases h2 : (p == .ofString "mate") = true
      · rw [if_pos h2] at hv
        apply ER.iT
        · walk_at "tr"
        · simpa using h2
        by_cases h3 : (decide (0 < n) && decide (2 * n - 1 ≤ 246)) = true
        · rw [if_pos h3] at hv; cases hv
          apply ER.iT
          · walk_at "tr"
          · simpa using h3
          · apply ER.re
            · walk_at "ev"
            · rfl
        · rw [if_neg h3] at hv
          apply ER.iF
          · walk_at "tr"
          · simpa using h3
          by_cases h4 : (decide (n ≤ 0) && decide (-2 * n ≤ 246)) = true
          · rw [if_pos h4] at hv; cases hv
            apply ER.iT
            · walk_at "tr"
            · simpa using h4
            · apply ER.re
              · walk_at "ev"
              · rfl
          · rw [if_neg h4] at hv; cases hv
      · rw [if_neg h2] at hv; cases hv
local macro_rules | `(tactic| walk_at "raise") => `(tactic| (apply RX.raise (by kernel_rfl) x_make; (walk_at "ev"); (walk_at "ar"); (walk_at "kp"); kernel_rfl; (intro _; kernel_rfl)))
theorem x_score_a {x : Str} (hx : x.length ≤ 100000) (hs : (Txt.split x (.ofString " ")).length ≠ 2) : CLX (gg w ns) (lv + 3) (.ref 135) 63 [.str x] σ := by
  have hl : ((Txt.split x (.ofString " ")).map PV.str).length < 1000000 := by
    have := split_le x (.ofString " ")
    simp; omega
  apply CLX.fr (τ := [.list ((Txt.split x (.ofString " ")).map .str)]) [.ofString "text"] (k135 _) (c135 _) (bind1 fun _ => by kernel_rfl) (by kernel_rfl) rfl
  walk_at "body"
  apply RX.cons
  · apply ES.assign
    · walk_at "ev"
    · rfl
    · kernel_rfl
    · kernel_rfl
    · intro _; kernel_rfl
  apply RX.iT
  · apply TR.cmp
    · with_reducible apply EV.call
      · walk_at "ev"
      · walk_at "ar"
      · exact CL.len at_last hl
      · walk_at "kp"
      · kernel_rfl
      · intro _; kernel_rfl
    · walk_at "ev"
    · walk_at "op"
    · kernel_rfl
  · simp; omega
  · walk_at "raise"
theorem x_score_b {x : Str} (hx : x.length ≤ 100000) (hs : Txt.split x (.ofString " ") = [p, q]) (hq : q.length ≤ 16777216) (hv : rscoreP p q = none) : CLX (gg w ns) (lv + 3) (.ref 135) 63 [.str x] σ := by
  apply CLX.fr (τ := [.list [.str p, .str q]]) [.ofString "text"] (k135 _) (c135 _) (bind1 fun _ => by kernel_rfl) (by kernel_rfl) rfl
  walk_at "body"
  apply RX.cons
  · apply ES.assign
    · walk_at "ev"
    · rfl
    · kernel_rfl
    · kernel_rfl
    · intro _; kernel_rfl
  rw [hs]
  simp only [List.map_cons, List.map_nil]
  apply RX.iF
  · walk_at "tr"
  · rfl
  unfold rscoreP at hv
  have hc := fun τ => r_count (w := w) (ns := ns) (lv := lv + 1) (σ := τ) (x := q) hq
  apply RX.cons
  · apply ES.assign
    · with_reducible apply EV.call
      · walk_at "ev"
      · walk_at "ar"
      · exact CX.cl (hc _)
      · walk_at "kp"
      · kernel_rfl
      · intro _; kernel_rfl
    · rfl
    · kernel_rfl
    · kernel_rfl
    · intro _; kernel_rfl
  cases hn : rcount q with
  | none =>
    apply RX.iT
    · walk_at "tr"
    · rfl
    · walk_at "raise"
  | some n =>
    rw [hn] at hv
    dsimp only at hv
    apply RX.iF
    · walk_at "tr"
    · rfl
    have h1 : ¬ ((p == .ofString "cp") && (decide (-31753 ≤ n) && decide (n ≤ 31753))) = true := fun h => by rw [if_pos h] at hv; cases hv
    rw [if_neg h1] at hv
    apply RX.iF
    · walk_at "tr"
    · simpa using h1
    by_cases h2 : (p == .ofString "mate") = true
    · rw [if_pos h2] at hv
      have h3 : ¬ (decide (0 < n) && decide (2 * n - 1 ≤ 246)) = true := fun h => by rw [if_pos h] at hv; cases hv
      rw [if_neg h3] at hv
      have h4 : ¬ (decide (n ≤ 0) && decide (-2 * n ≤ 246)) = true := fun h => by rw [if_pos h] at hv; cases hv
      apply RX.iTn
      · walk_at "tr"
      · simpa using h2
      · apply EX.iF
        · walk_at "tr"
        · simpa using h3
        · apply EX.iF
          · walk_at "tr"
          · simpa using h4
          · exact EX.nil
      · walk_at "raise"
    · apply RX.iF
      · walk_at "tr"
      · simpa using h2
      · walk_at "raise"
end
end
section
/-! the tree and its game in the store -/
structure Tree where
  n : Nat
  kids : Nat → List Nat
  val : Nat → Int
  chk : Nat → Bool
  drw : Nat → Bool
structure Tree.WF (t : Tree) : Prop where
  small : t.n ≤ 100
  up : ∀ i, i < t.n → ∀ k ∈ t.kids i, k < t.n
  few : ∀ i, (t.kids i).length ≤ 100
abbrev Tree.row (t : Tree) (i : Nat) : List PV := (t.kids i).map fun k : Nat => .int (k : Int)
abbrev tab {α : Type} (n : Nat) (f : Nat → α) : List α := (List.range n).map f
theorem tab_get {α : Type} {n i : Nat} {f : Nat → α} (h : i < n) : (tab n f)[i]? = some (f i) := by simp [h]
theorem tab_getI {α : Type} {n i : Nat} {f : Nat → α} (h : i < n) : (tab n f)[((i : Int)).toNat]? = some (f i) := by simp [h]
structure GIx where
  g : Nat
  d : Nat
  c : Nat
  v : Nat
  k : Nat
  dr : Nat
  m : Nat
  p : Nat
  row : Nat → Nat
abbrev gfs (x : GIx) : List (Str × PV) := [(.ofString "children", .ref x.c), (.ofString "values", .ref x.v), (.ofString "checks", .ref x.k), (.ofString "draws", .ref x.dr), (.ofString "noisy_rows", .ref x.m), (.ofString "gain_rows", .ref x.m), (.ofString "path", .ref x.p)]
structure GA (x : GIx) (t : Tree) (σ : List AObj) : Prop where
  wf : t.WF
  inst : σ[x.g]? = some (.inst 248 x.d)
  ns : σ[x.d]? = some (.ns (gfs x))
  ch : σ[x.c]? = some (.list (tab t.n fun i => .ref (x.row i)))
  rows : ∀ i, i < t.n → σ[x.row i]? = some (.list (t.row i))
  va : σ[x.v]? = some (.list (tab t.n fun i => .int (t.val i)))
  ck : σ[x.k]? = some (.list (tab t.n fun i => .bool (t.chk i)))
  dr : σ[x.dr]? = some (.list (tab t.n fun i => .bool (t.drw i)))
  np : x.p ≠ x.g ∧ x.p ≠ x.d ∧ x.p ≠ x.c ∧ x.p ≠ x.v ∧ x.p ≠ x.k ∧ x.p ≠ x.dr ∧ ∀ i, i < t.n → x.p ≠ x.row i
theorem get_app {σ τ : List AObj} {i : Nat} {a : AObj} (h : σ[i]? = some a) : (σ ++ τ)[i]? = some a := by
  rw [List.getElem?_append_left (List.getElem?_eq_some_iff.mp h).1]; exact h
theorem get_set {σ : List AObj} {i j : Nat} {a b : AObj} (n : j ≠ i) (h : σ[i]? = some a) : (σ.set j b)[i]? = some a := by rw [List.getElem?_set_ne n]; exact h
theorem GA.app {x : GIx} {t : Tree} {σ τ : List AObj} (h : GA x t σ) : GA x t (σ ++ τ) := ⟨h.wf, get_app h.inst, get_app h.ns, get_app h.ch, fun i hi => get_app (h.rows i hi), get_app h.va, get_app h.ck, get_app h.dr, h.np⟩
theorem GA.set {x : GIx} {t : Tree} {σ : List AObj} {b : AObj} (h : GA x t σ) : GA x t (σ.set x.p b) := by
  obtain ⟨n1, n2, n3, n4, n5, n6, n7⟩ := h.np
  exact ⟨h.wf, get_set n1 h.inst, get_set n2 h.ns, get_set n3 h.ch, fun i hi => get_set (n7 i hi) (h.rows i hi), get_set n4 h.va, get_set n5 h.ck, get_set n6 h.dr, h.np⟩
abbrev pth (p : List Nat) : AObj := .list (p.map fun k : Nat => .int (k : Int))
/-- the game stands at this path -/
structure GP (x : GIx) (t : Tree) (σ : List AObj) (p : List Nat) (i : Nat) : Prop where
  ga : GA x t σ
  at_ : σ[x.p]? = some (pth (p ++ [i]))
  lt : i < t.n
  sh : p.length ≤ 100
theorem GP.app {x : GIx} {t : Tree} {σ τ : List AObj} {p : List Nat} {i : Nat} (h : GP x t σ p i) : GP x t (σ ++ τ) p i := ⟨h.ga.app, get_app h.at_, h.lt, h.sh⟩
theorem GP.last {x : GIx} {t : Tree} {σ : List AObj} {p : List Nat} {i : Nat} (h : GP x t σ p i) : σ[x.p]? = some (.list ((p.map fun k : Nat => PV.int (k : Int)) ++ [.int (i : Int)])) := by rw [h.at_]; simp [pth]
section
variable {w : World} {ns : List Int} {lv : Nat} {σ : List AObj} {x : GIx} {t : Tree} {p : List Nat} {i : Nat}
local macro_rules | `(tactic| walk_at "atr") => `(tactic| (with_reducible apply EV.at0; (walk_at "ev"); exact GA.inst (by assumption); exact GA.ns (by assumption); (walk_at "lk"); kernel_rfl; kernel_rfl; kernel_rfl; (intro _; kernel_rfl)))
local macro_rules | `(tactic| walk_at "ev2") => `(tactic| first
  | walk_at "atr"
  | (with_reducible apply EV.sub; (walk_at "ev"); (walk_at "ev"); walk_at "it"))
local macro_rules | `(tactic| walk_at "it") => `(tactic| first
  | exact OP2.last (GP.last (by assumption)) (by simp; omega) (by intro _ _; kernel_rfl)
  | exact OP2.item (GA.ck (by assumption)) (by omega) (tab_getI (by assumption)) (by simp; omega) (by intro _ _; kernel_rfl)
  | exact OP2.item (GA.dr (by assumption)) (by omega) (tab_getI (by assumption)) (by simp; omega) (by intro _ _; kernel_rfl)
  | exact OP2.item (GA.va (by assumption)) (by omega) (tab_getI (by assumption)) (by simp; omega) (by intro _ _; kernel_rfl)
  | exact OP2.item (GA.ch (by assumption)) (by omega) (tab_getI (by assumption)) (by simp; omega) (by intro _ _; kernel_rfl))
theorem m_in_check (h : GP x t σ p i) : CX (gg w ns) (lv + 1) (.ref 217) [.ref x.g] σ (.bool (t.chk i)) σ := by
  have hg := h.ga
  have hl := h.lt
  have hs := h.sh
  have hw := hg.wf.small
  apply CX.fr [.ofString "self"] (k217 _) (c217 _) (bind1 fun _ => by kernel_rfl) (by kernel_rfl) rfl
  walk_at "body"
  apply ER.re
  · walk_at "ev"
  · rfl
theorem m_is_draw (h : GP x t σ p i) : CX (gg w ns) (lv + 1) (.ref 224) [.ref x.g] σ (.bool (t.drw i)) σ := by
  have hg := h.ga
  have hl := h.lt
  have hs := h.sh
  have hw := hg.wf.small
  apply CX.fr [.ofString "self"] (k224 _) (c224 _) (bind1 fun _ => by kernel_rfl) (by kernel_rfl) rfl
  walk_at "body"
  apply ER.re
  · walk_at "ev"
  · rfl
theorem m_value (h : GP x t σ p i) : CX (gg w ns) (lv + 1) (.ref 203) [.ref x.g] σ (.int (t.val i)) σ := by
  have hg := h.ga
  have hl := h.lt
  have hs := h.sh
  have hw := hg.wf.small
  apply CX.fr [.ofString "self"] (k203 _) (c203 _) (bind1 fun _ => by kernel_rfl) (by kernel_rfl) rfl
  walk_at "body"
  apply ER.re
  · walk_at "ev"
  · rfl
theorem m_moves (h : GP x t σ p i) : CX (gg w ns) (lv + 1) (.ref 177) [.ref x.g] σ (.ref (σ.length + 1)) (σ ++ [.rng 1 ((t.row i).length + 1)] ++ [.list (rInts 1 ((t.row i).length + 1))]) := by
  have hg := h.ga
  have hl := h.lt
  have hs := h.sh
  have hw := hg.wf.small
  have hf := hg.wf.few i
  have hr := hg.rows i hl
  have e : (σ ++ [AObj.rng 1 ((t.row i).length + 1)]).length = σ.length + 1 := by simp
  apply CX.fr [.ofString "self"] (k177 _) (c177 _) (bind1 fun _ => by kernel_rfl) (by kernel_rfl) rfl
  walk_at "body"
  apply ER.re
  · with_reducible apply EV.call
    · walk_at "ev"
    · with_reducible apply AR.cons
      · with_reducible apply EV.call
        · walk_at "ev"
        · with_reducible apply AR.cons
          · walk_at "ev"
          · with_reducible apply AR.cons
            · with_reducible apply EV.bin
              · with_reducible apply EV.call
                · walk_at "ev"
                · walk_at "ar"
                · exact CL.len hr (by simp; omega)
                · walk_at "kp"
                · kernel_rfl
                · intro _; kernel_rfl
              · walk_at "ev"
              · walk_at "op"
            · walk_at "ar"
            · intro _; kernel_rfl
          · intro _; kernel_rfl
        · exact CL.range2
        · walk_at "kp"
        · kernel_rfl
        · intro _; kernel_rfl
      · walk_at "ar"
      · intro _; kernel_rfl
    · exact CL.listRange at_last (by simp; omega)
    · walk_at "kp"
    · kernel_rfl
    · intro _; kernel_rfl
  · rw [e]
end
end
section
section
variable {w : World} {ns : List Int} {lv : Nat} {σ : List AObj} {x : GIx} {t : Tree} {p : List Nat} {i k j : Nat}
local macro_rules | `(tactic| walk_at "atr") => `(tactic| (with_reducible apply EV.at0; (walk_at "ev"); exact GA.inst (by assumption); exact GA.ns (by assumption); (walk_at "lk"); kernel_rfl; kernel_rfl; kernel_rfl; (intro _; kernel_rfl)))
local macro_rules | `(tactic| walk_at "ev2") => `(tactic| first
  | walk_at "atr"
  | (with_reducible apply EV.sub; (walk_at "ev"); (walk_at "ev"); walk_at "it"))
local macro_rules | `(tactic| walk_at "it") => `(tactic| first
  | exact OP2.last (GP.last (by assumption)) (by simp; omega) (by intro _ _; kernel_rfl)
  | exact OP2.item (GA.ch (by assumption)) (by omega) (tab_getI (by assumption)) (by simp; omega) (by intro _ _; kernel_rfl))
theorem pth_snoc {p : List Nat} {k : Nat} : pth (p ++ [k]) = .list ((p.map fun k : Nat => PV.int (k : Int)) ++ [.int (k : Int)]) := by simp [pth]
theorem m_make (h : GP x t σ p i) (hk : (t.kids i)[j]? = some k) : CX (gg w ns) (lv + 1) (.ref 189) [.ref x.g, .int ((j : Int) + 1)] σ .none (σ.set x.p (pth (p ++ [i] ++ [k]))) := by
  have hg := h.ga
  have hl := h.lt
  have hs := h.sh
  have hw := hg.wf.small
  have hf := hg.wf.few i
  have hr := hg.rows i hl
  obtain ⟨hj, _⟩ := List.getElem?_eq_some_iff.mp hk
  rw [pth_snoc]
  apply CX.fn (o := .next) [.ofString "self", .ofString "move"] (k189 _) (c189 _) (bind2 fun _ _ => by kernel_rfl) (by kernel_rfl) rfl
  · walk_at "body"
    apply EX.cons
    · apply ES.assign
      · walk_at "ev"
      · rfl
      · kernel_rfl
      · kernel_rfl
      · intro _; kernel_rfl
    apply EX.iF
    · with_reducible apply TR.bool
      with_reducible apply TB.or2
      · walk_at "tr"
      · intro _
        with_reducible apply TB.or2
        · with_reducible apply TR.cmp
          · walk_at "ev"
          · with_reducible apply EV.call
            · walk_at "ev"
            · walk_at "ar"
            · exact CL.len hr (by simp; omega)
            · walk_at "kp"
            · kernel_rfl
            · intro _; kernel_rfl
          · walk_at "op"
          · kernel_rfl
        · intro _; walk_at "tb"
    · simp; omega
    apply EX.cons
    · apply ES.expr
      · with_reducible apply EV.me
        · walk_at "ev"
        · exact GM.list PySem.F.slot_list_append PySem.F.type_list_append h.at_
        · with_reducible apply AR.cons
          · with_reducible apply EV.sub
            · walk_at "ev"
            · walk_at "ev"
            · exact OP2.item (r := .int (k : Int)) hr (by omega) (by rw [show ((j : Int) + 1 - 1).toNat = j by omega]; simp [hk]) (by simp; omega) (by intro _ _; kernel_rfl)
          · walk_at "ar"
          · intro _; kernel_rfl
        · exact CL.append h.at_ (by simp; omega)
        · exact KP.builtin
        · kernel_rfl
        · intro _; kernel_rfl
      · kernel_rfl
      · intro _; kernel_rfl
    exact EX.nil
  · rfl
theorem m_undo (h : GP x t σ (p ++ [i]) k) : CX (gg w ns) (lv + 1) (.ref 196) [.ref x.g] σ .none (σ.set x.p (pth (p ++ [i]))) := by
  have hg := h.ga
  have hl := h.lt
  have hs := h.sh
  have ha := h.at_
  apply CX.fn (o := .next) [.ofString "self"] (k196 _) (c196 _) (bind1 fun _ => by kernel_rfl) (by kernel_rfl) rfl
  · walk_at "body"
    apply EX.iF
    · with_reducible apply TR.cmp
      · with_reducible apply EV.call
        · walk_at "ev"
        · walk_at "ar"
        · exact CL.len ha (by simp at hs ⊢; omega)
        · walk_at "kp"
        · kernel_rfl
        · intro _; kernel_rfl
      · walk_at "ev"
      · walk_at "op"
      · kernel_rfl
    · simp; omega
    apply EX.cons
    · apply ES.expr
      · with_reducible apply EV.me
        · walk_at "ev"
        · exact GM.list PySem.F.slot_list_pop PySem.F.type_list_pop ha
        · walk_at "ar"
        · exact CL.pop h.last (by simp at hs ⊢; omega)
        · exact KP.builtin
        · kernel_rfl
        · intro _; kernel_rfl
      · kernel_rfl
      · intro _; kernel_rfl
    exact EX.nil
  · rfl
end
end
section
def evv (t : Tree) (i : Nat) (ply : Int) : Int := if t.chk i = true then ply - 32000 else 0
def qv (t : Tree) (i : Nat) (ply : Int) : Int :=
  if (decide (0 < ply) && t.drw i) = true then 0 else
  if t.chk i = true then (if t.kids i = [] then ply - 32000 else t.val i) else t.val i
def up (b v : Int) : Int := if b < v then v else b
noncomputable def nm (t : Tree) : Nat → Nat → Int → Int
  | 0, i, ply => qv t i ply
  | d + 1, i, ply => if (decide (0 < ply) && t.drw i) = true then 0 else
    if t.kids i = [] then evv t i ply else (t.kids i).foldl (fun b k => up b (-(nm t d k (ply + 1)))) (-32001)
section
variable {w : World} {ns : List Int} {lv : Nat} {σ τ : List AObj} {x : GIx} {t : Tree} {p : List Nat} {i k j : Nat} {ply : Int}
theorem gm_in_check (h : GA x t σ) : GM (gg w ns) σ (.ref x.g) (.ofString "in_check") (.ref 217) := GM.inst h.inst h.ns (by kernel_rfl) (by kernel_rfl) (by kernel_rfl) (by kernel_rfl)
theorem gm_is_draw (h : GA x t σ) : GM (gg w ns) σ (.ref x.g) (.ofString "is_draw") (.ref 224) := GM.inst h.inst h.ns (by kernel_rfl) (by kernel_rfl) (by kernel_rfl) (by kernel_rfl)
theorem gm_value (h : GA x t σ) : GM (gg w ns) σ (.ref x.g) (.ofString "value") (.ref 203) := GM.inst h.inst h.ns (by kernel_rfl) (by kernel_rfl) (by kernel_rfl) (by kernel_rfl)
theorem gm_moves (h : GA x t σ) : GM (gg w ns) σ (.ref x.g) (.ofString "moves") (.ref 177) := GM.inst h.inst h.ns (by kernel_rfl) (by kernel_rfl) (by kernel_rfl) (by kernel_rfl)
theorem gm_make (h : GA x t σ) : GM (gg w ns) σ (.ref x.g) (.ofString "make") (.ref 189) := GM.inst h.inst h.ns (by kernel_rfl) (by kernel_rfl) (by kernel_rfl) (by kernel_rfl)
theorem gm_undo (h : GA x t σ) : GM (gg w ns) σ (.ref x.g) (.ofString "undo") (.ref 196) := GM.inst h.inst h.ns (by kernel_rfl) (by kernel_rfl) (by kernel_rfl) (by kernel_rfl)
theorem at_last2 {a b : AObj} : (σ ++ [a] ++ [b])[σ.length + 1]? = some b := by simp
theorem rInts_len {m : Nat} : (rInts 1 ((m : Int) + 1)).length = m := by simp [rInts]
theorem rInts_empty {m : Nat} : (rInts 1 ((m : Int) + 1)).isEmpty = decide (m = 0) := by
  have := @rInts_len m
  cases h : rInts 1 ((m : Int) + 1) with
  | nil => rw [h] at this; simp at this; simp [← this]
  | cons a l => rw [h] at this; simp at this; simp; omega
local macro_rules | `(tactic| walk_at "gm") => `(tactic| with_reducible first | exact gm_in_check (by assumption) | exact gm_is_draw (by assumption) | exact gm_value (by assumption) | exact gm_moves (by assumption))
local macro_rules | `(tactic| walk_at "cl") => `(tactic| first | exact CX.cl (m_in_check (by assumption)) | exact CX.cl (m_is_draw (by assumption)) | exact CX.cl (m_value (by assumption)) | exact CX.cl (m_moves (by assumption)) | exact CX.cl r_mated_in)
local macro_rules | `(tactic| walk_at "ev2") => `(tactic| (with_reducible apply EV.me; (walk_at "ev"); (walk_at "gm"); (walk_at "ar"); (walk_at "cl"); exact KP.fn (by kernel_rfl); kernel_rfl; (intro _; kernel_rfl)))
theorem int_drop {i : Int} : ∀ lS α β v, Is lS (α ++ β) (.int i) v → Is lS α (.int i) v := fun _ _ _ _ h => h
theorem r_endv (h : GP x t σ p i) : CX (gg w ns) (lv + 2) (.ref 149) [.ref x.g, .int ply] σ (.int (evv t i ply)) σ := by
  have hg := h.ga
  apply CX.fr [.ofString "game", .ofString "ply"] (k149 _) (c149 _) (bind2 fun _ _ => by kernel_rfl) (by kernel_rfl) rfl
  walk_at "body"
  cases hc : t.chk i
  · apply ER.iF
    · walk_at "tr"
    · exact hc
    · apply ER.re
      · walk_at "ev"
      · simp [evv, hc]
  · apply ER.iT
    · walk_at "tr"
    · exact hc
    · apply ER.re
      · walk_at "ev"
      · simp [evv, hc]
theorem r_quiesce (h : GP x t σ p i) : CL (gg w ns) (lv + 2) (.ref 142) [.ref x.g, .int ply, .int 0] σ (.int (qv t i ply)) σ := by
  have hg := h.ga
  have hf := hg.wf.few i
  have hm : (rInts 1 (((t.row i).length : Int) + 1)).length < 1000000 := by rw [rInts_len]; simp; omega
  have hb : ∀ τ, ER (gg w ns) (lv + 1) (fdO (stm 23) (.ofString "plain_quiesce") 142 141) (boO (stm 23)) [(.ofString "qdepth", .int 0), (.ofString "ply", .int ply), (.ofString "game", .ref x.g)] σ (.int (qv t i ply)) (σ ++ τ) → CL (gg w ns) (lv + 2) (.ref 142) [.ref x.g, .int ply, .int 0] σ (.int (qv t i ply)) σ := fun τ q =>
    CL.drop (τ := τ) (CX.cl (CX.fr [.ofString "game", .ofString "ply", .ofString "qdepth"] (k142 _) (c142 _) (bind3 fun _ _ _ => by kernel_rfl) (by kernel_rfl) rfl q)) int_drop
  by_cases h1 : (decide (0 < ply) && t.drw i) = true
  · apply hb []
    rw [List.append_nil]
    conv in (boO _) => whnf
    apply ER.iT
    · walk_at "tr"
    · simpa using h1
    · apply ER.re
      · walk_at "ev"
      · simp only [qv, h1, if_true]
  · cases hc : t.chk i
    · apply hb []
      rw [List.append_nil]
      conv in (boO _) => whnf
      apply ER.iF
      · walk_at "tr"
      · simpa using h1
      apply ER.iE
      · walk_at "tr"
      · exact hc
      apply ER.cons
      · apply ES.assign
        · walk_at "ev"
        · rfl
        · kernel_rfl
        · kernel_rfl
        · intro _; kernel_rfl
      apply ER.iT
      · walk_at "tr"
      · rfl
      · apply ER.re
        · walk_at "ev"
        · simp only [qv, hc]; rw [if_neg h1]; rfl
    · apply hb [.rng 1 ((t.row i).length + 1), .list (rInts 1 ((t.row i).length + 1))]
      rw [show σ ++ [AObj.rng 1 ((t.row i).length + 1), .list (rInts 1 ((t.row i).length + 1))] = σ ++ [.rng 1 ((t.row i).length + 1)] ++ [.list (rInts 1 ((t.row i).length + 1))] by simp]
      conv in (boO _) => whnf
      apply ER.iF
      · walk_at "tr"
      · simpa using h1
      apply ER.iT
      · walk_at "tr"
      · exact hc
      apply ER.cons
      · apply ES.assign
        · walk_at "ev"
        · rfl
        · kernel_rfl
        · kernel_rfl
        · intro _; kernel_rfl
      have h2 : GP x t (σ ++ [.rng 1 ((t.row i).length + 1)] ++ [.list (rInts 1 ((t.row i).length + 1))]) p i := h.app.app
      have hg2 := h2.ga
      by_cases h3 : t.kids i = []
      · apply ER.iT
        · with_reducible apply TR.not
          with_reducible apply TR.plain
          · walk_at "ev"
          · exact TV.list at_last2 hm
          · intro _ _; kernel_rfl
        · rw [rInts_empty]; simp [h3]
        · apply ER.re
          · walk_at "ev"
          · simp only [qv, hc]; rw [if_neg h1]; simp [h3]
      · apply ER.iF
        · with_reducible apply TR.not
          with_reducible apply TR.plain
          · walk_at "ev"
          · exact TV.list at_last2 hm
          · intro _ _; kernel_rfl
        · rw [rInts_empty]; simp [h3]
        apply ER.iT
        · walk_at "tr"
        · rfl
        · apply ER.re
          · walk_at "ev"
          · simp only [qv, hc]; rw [if_neg h1]; simp [h3]
/-! the search -/
abbrev mv (s n : Nat) : List PV := (List.range' s n).map fun i : Nat => PV.int ((i : Int) + 1)
theorem mv_of {m : Nat} : rInts 1 ((m : Int) + 1) = mv 0 m := by
  unfold rInts mv
  rw [show ((m : Int) + 1 - 1).toNat = m by omega, List.range_eq_range']
  exact List.map_congr_left fun i _ => by rw [Int.add_comm]
noncomputable abbrev fd156 : FD := fdO (stm 25) (.ofString "negamax") 156 155
abbrev μn (x : GIx) (d ply : Int) : Loc := [(.ofString "qdepth", .int 0), (.ofString "ply", .int ply), (.ofString "depth", .int d), (.ofString "game", .ref x.g)]
abbrev μb (x : GIx) (d ply b : Int) (l : Nat) : Loc := (.ofString "best", .int b) :: (.ofString "moves", .ref l) :: μn x d ply
theorem set_back {σ : List AObj} {i : Nat} {a b : AObj} (h : σ[i]? = some a) : (σ.set i b).set i a = σ := by
  rw [List.set_set]
  obtain ⟨hl, e⟩ := List.getElem?_eq_some_iff.mp h
  rw [← e]; exact List.set_getElem_self hl
noncomputable def forBody : Option Stmt → List Stmt
  | some (.For _ _ b _ _) => b
  | _ => []
theorem turn156 {d s l : Nat} {b : Int} (h : GP x t σ p i) (hp : p.length < 90) (hk : (t.kids i)[s]? = some k) (rec : CL (gg w ns) (lv + d + 3) (.ref 156) [.ref x.g, .int d, .int (ply + 1), .int 0] (σ.set x.p (pth (p ++ [i] ++ [k]))) (.int (nm t d k (ply + 1))) (σ.set x.p (pth (p ++ [i] ++ [k])))) :
    EX (gg w ns) (lv + d + 3) fd156 (forBody ((boO (stm 25))[5]?)) ((.ofString "move", .int ((s : Int) + 1)) :: μb x ((d + 1 : Nat) : Int) ply b l) σ .next (μb x ((d + 1 : Nat) : Int) ply (up b (-(nm t d k (ply + 1)))) l) σ := by
  have hg := h.ga
  have hl := h.lt
  have hkl : k < t.n := hg.wf.up i hl k (List.mem_of_getElem? hk)
  have h2 : GP x t (σ.set x.p (pth (p ++ [i] ++ [k]))) (p ++ [i]) k := ⟨hg.set, by
    obtain ⟨q, _⟩ := List.getElem?_eq_some_iff.mp h.at_
    rw [List.getElem?_set_self q], hkl, by simp; omega⟩
  have hg2 := h2.ga
  have hb := set_back (b := pth (p ++ [i] ++ [k])) h.at_
  have hu := m_undo (w := w) (ns := ns) (lv := lv + d + 2) h2
  rw [hb] at hu
  have e : ((d + 1 : Nat) : Int) - 1 = d := by omega
  have rec' : CL (gg w ns) (lv + d + 3) (.ref 156) [.ref x.g, .int (((d + 1 : Nat) : Int) - 1), .int (ply + 1), .int 0] (σ.set x.p (pth (p ++ [i] ++ [k]))) (.int (nm t d k (ply + 1))) (σ.set x.p (pth (p ++ [i] ++ [k]))) := by rw [e]; exact rec
  conv in (forBody _) => whnf
  apply EX.cons
  · apply ES.expr
    · with_reducible apply EV.me
      · walk_at "ev"
      · exact gm_make hg
      · walk_at "ar"
      · exact CX.cl (m_make h hk)
      · exact KP.fn (by kernel_rfl)
      · kernel_rfl
      · intro _; kernel_rfl
    · kernel_rfl
    · intro _; kernel_rfl
  apply EX.cons
  · apply ES.assign
    · with_reducible apply EV.un
      · with_reducible apply EV.call
        · walk_at "ev"
        · walk_at "ar"
        · exact rec'
        · walk_at "kp"
        · kernel_rfl
        · intro _; kernel_rfl
      · walk_at "op"
    · rfl
    · kernel_rfl
    · kernel_rfl
    · intro _; kernel_rfl
  apply EX.cons
  · apply ES.expr
    · with_reducible apply EV.me
      · walk_at "ev"
      · exact gm_undo hg2
      · walk_at "ar"
      · exact CX.cl hu
      · exact KP.fn (by kernel_rfl)
      · kernel_rfl
      · intro _; kernel_rfl
    · kernel_rfl
    · intro _; kernel_rfl
  unfold up
  by_cases hv : b < -(nm t d k (ply + 1))
  · rw [if_pos hv]
    apply EX.cov
    · apply EX.iTn
      · walk_at "tr"
      · simpa using hv
      · apply EX.cons
        · apply ES.assign
          · walk_at "ev"
          · rfl
          · kernel_rfl
          · kernel_rfl
          · intro _; kernel_rfl
        · exact EX.nil
      · exact EX.nil
    · walk_at "cov"
  · rw [if_neg hv]
    apply EX.cov
    · apply EX.iF
      · walk_at "tr"
      · simpa using hv
      · exact EX.nil
    · walk_at "cov"
end
end
section
section
variable {w : World} {ns : List Int} {lv : Nat} {σ τ : List AObj} {x : GIx} {t : Tree} {p : List Nat} {i k j : Nat} {ply : Int}
local macro_rules | `(tactic| walk_at "gm") => `(tactic| with_reducible first | exact gm_in_check (by assumption) | exact gm_is_draw (by assumption) | exact gm_value (by assumption) | exact gm_moves (by assumption))
local macro_rules | `(tactic| walk_at "cl") => `(tactic| first | exact CX.cl (m_in_check (by assumption)) | exact CX.cl (m_is_draw (by assumption)) | exact CX.cl (m_value (by assumption)) | exact CX.cl (m_moves (by assumption)) | exact CX.cl r_mated_in | exact r_quiesce (by assumption) | exact CX.cl (r_endv (by assumption)))
local macro_rules | `(tactic| walk_at "ev2") => `(tactic| (with_reducible apply EV.me; (walk_at "ev"); (walk_at "gm"); (walk_at "ar"); (walk_at "cl"); exact KP.fn (by kernel_rfl); kernel_rfl; (intro _; kernel_rfl)))
theorem loop156 {d l : Nat} {keep : List AObj → Prop} (hk : keep σ) (h : GP x t σ p i) (hp : p.length < 90)
    (rec : ∀ (k : Nat) (σ : List AObj), GP x t σ (p ++ [i]) k → CL (gg w ns) (lv + d + 3) (.ref 156) [.ref x.g, .int d, .int (ply + 1), .int 0] σ (.int (nm t d k (ply + 1))) σ) :
    ∀ (n s : Nat) (b : Int), s + n = (t.kids i).length → Loop (gg w ns) (lv + d + 3) fd156 (forBody ((boO (stm 25))[5]?)) (bndL (.ofString "move")) keep (mv s n) (μb x ((d + 1 : Nat) : Int) ply b l) σ .next
      (μb x ((d + 1 : Nat) : Int) ply (((t.kids i).drop s).foldl (fun b k => up b (-(nm t d k (ply + 1)))) b) l) σ
  | 0, s, b, hs => by
    rw [List.drop_eq_nil_of_le (by omega)]
    exact ⟨rfl, rfl, rfl⟩
  | n + 1, s, b, hs => by
    have hlt : s < (t.kids i).length := by omega
    have hg := h.ga
    have hkk : (t.kids i)[s]? = some (t.kids i)[s] := List.getElem?_eq_getElem hlt
    have hkl : (t.kids i)[s] < t.n := hg.wf.up i h.lt _ (List.getElem_mem hlt)
    have h2 : GP x t (σ.set x.p (pth (p ++ [i] ++ [(t.kids i)[s]]))) (p ++ [i]) (t.kids i)[s] := ⟨hg.set, by
      obtain ⟨q, _⟩ := List.getElem?_eq_some_iff.mp h.at_
      rw [List.getElem?_set_self q], hkl, by simp; omega⟩
    have ih := loop156 (l := l) hk h hp rec n (s + 1) (up b (-(nm t d (t.kids i)[s] (ply + 1)))) (by omega)
    rw [List.drop_eq_getElem_cons hlt, List.foldl_cons]
    unfold mv
    rw [List.range'_succ, List.map_cons]
    exact Loop.next (turn156 h hp hkk (rec _ _ h2)) hk ih
theorem loop156x {d l : Nat} {keep : List AObj → Prop} {xs : List PV} (e : xs = mv 0 (t.kids i).length) (hk : keep σ) (h : GP x t σ p i) (hp : p.length < 90)
    (rec : ∀ (k : Nat) (σ : List AObj), GP x t σ (p ++ [i]) k → CL (gg w ns) (lv + d + 3) (.ref 156) [.ref x.g, .int d, .int (ply + 1), .int 0] σ (.int (nm t d k (ply + 1))) σ) :
    Loop (gg w ns) (lv + d + 3) fd156 (forBody ((boO (stm 25))[5]?)) (bndL (.ofString "move")) keep xs (μb x ((d + 1 : Nat) : Int) ply (-32001) l) σ .next
      (μb x ((d + 1 : Nat) : Int) ply ((t.kids i).foldl (fun b k => up b (-(nm t d k (ply + 1)))) (-32001)) l) σ := by
  subst e
  exact loop156 hk h hp rec (t.kids i).length 0 (-32001) (by omega)
theorem r_neg (d : Nat) : ∀ {lv : Nat} {σ : List AObj} {p : List Nat} {i : Nat} {ply : Int}, GP x t σ p i → p.length + d < 90 → CL (gg w ns) (lv + d + 3) (.ref 156) [.ref x.g, .int d, .int ply, .int 0] σ (.int (nm t d i ply)) σ := by
  induction d with
  | zero =>
    intro lv σ p i ply h hp
    have hg := h.ga
    apply CX.cl
    apply CX.fr [.ofString "game", .ofString "depth", .ofString "ply", .ofString "qdepth"] (k156 _) (c156 _) (bind4 fun _ _ _ _ => by kernel_rfl) (by kernel_rfl) rfl
    walk_at "body"
    by_cases h1 : (decide (0 < ply) && t.drw i) = true
    · apply ER.iT
      · walk_at "tr"
      · simpa using h1
      · apply ER.re
        · walk_at "ev"
        · simp only [nm, qv, h1, if_true]
    · apply ER.iF
      · walk_at "tr"
      · simpa using h1
      apply ER.iT
      · walk_at "tr"
      · rfl
      · apply ER.re
        · walk_at "ev"
        · rfl
  | succ d ih =>
    intro lv σ p i ply h hp
    have hg := h.ga
    have hf := hg.wf.few i
    have hm : (rInts 1 (((t.row i).length : Int) + 1)).length < 1000000 := by rw [rInts_len]; simp; omega
    have hb : ∀ τ, ER (gg w ns) (lv + d + 3) fd156 (boO (stm 25)) [(.ofString "qdepth", .int 0), (.ofString "ply", .int ply), (.ofString "depth", .int ((d + 1 : Nat) : Int)), (.ofString "game", .ref x.g)] σ (.int (nm t (d + 1) i ply)) (σ ++ τ) → CL (gg w ns) (lv + d + 4) (.ref 156) [.ref x.g, .int ((d + 1 : Nat) : Int), .int ply, .int 0] σ (.int (nm t (d + 1) i ply)) σ := fun τ q =>
      CL.drop (τ := τ) (CX.cl (CX.fr [.ofString "game", .ofString "depth", .ofString "ply", .ofString "qdepth"] (k156 _) (c156 _) (bind4 fun _ _ _ _ => by kernel_rfl) (by kernel_rfl) rfl q)) int_drop
    rw [show lv + (d + 1) + 3 = lv + d + 4 by omega]
    by_cases h1 : (decide (0 < ply) && t.drw i) = true
    · apply hb []
      rw [List.append_nil]
      conv in (boO _) => whnf
      apply ER.iT
      · walk_at "tr"
      · simpa using h1
      · apply ER.re
        · walk_at "ev"
        · simp only [nm, h1, if_true]
    · apply hb [.rng 1 ((t.row i).length + 1), .list (rInts 1 ((t.row i).length + 1))]
      rw [show σ ++ [AObj.rng 1 ((t.row i).length + 1), .list (rInts 1 ((t.row i).length + 1))] = σ ++ [.rng 1 ((t.row i).length + 1)] ++ [.list (rInts 1 ((t.row i).length + 1))] by simp]
      have h2 : GP x t (σ ++ [.rng 1 ((t.row i).length + 1)] ++ [.list (rInts 1 ((t.row i).length + 1))]) p i := h.app.app
      have hg2 := h2.ga
      have lp := fun keep hk => loop156x (w := w) (ns := ns) (lv := lv) (ply := ply) (d := d) (l := σ.length + 1) (keep := keep) (xs := rInts 1 (((t.row i).length : Int) + 1)) (by rw [mv_of, List.length_map]) hk h2 (by omega) (fun k σ' q => ih (lv := lv) (ply := ply + 1) q (by simp; omega))
      conv at lp in (forBody _) => whnf
      conv in (boO _) => whnf
      apply ER.iF
      · walk_at "tr"
      · simpa using h1
      apply ER.iF
      · walk_at "tr"
      · simp <;> omega
      apply ER.cons
      · apply ES.assign
        · walk_at "ev"
        · rfl
        · kernel_rfl
        · kernel_rfl
        · intro _; kernel_rfl
      by_cases h3 : t.kids i = []
      · apply ER.iT
        · with_reducible apply TR.not
          with_reducible apply TR.plain
          · walk_at "ev"
          · exact TV.list at_last2 hm
          · intro _ _; kernel_rfl
        · rw [rInts_empty]; simp [h3]
        · apply ER.re
          · walk_at "ev"
          · simp only [nm]; rw [if_neg h1, if_pos h3]
      · apply ER.iF
        · with_reducible apply TR.not
          with_reducible apply TR.plain
          · walk_at "ev"
          · exact TV.list at_last2 hm
          · intro _ _; kernel_rfl
        · rw [rInts_empty]; simp [h3]
        apply ER.cons
        · apply ES.assign
          · walk_at "ev"
          · rfl
          · kernel_rfl
          · kernel_rfl
          · intro _; kernel_rfl
        apply ER.cons
        · apply ES.for_
          · walk_at "ev"
          · exact SRC.list at_last2 hm
          · rfl
          · exact BIND.loc rfl (by kernel_rfl) (by kernel_rfl)
          · exact at_last2
          · exact lp (fun σ' => σ'[σ.length + 1]? = some (.list (rInts 1 (((t.row i).length : Int) + 1)))) at_last2
          · intro _ _; kernel_rfl
        · apply ER.re
          · walk_at "ev"
          · simp only [nm]; rw [if_neg h1, if_neg h3]
end
end
section
section
variable {g : G} {lv : Nat} {fd : FD} {μ μ' μ₁ μ₂ : Loc} {σ σ' σ₁ σ₂ σ₃ : List AObj} {r r₀ r₁ r₂ : PV} {rs xs : List PV} {pos pos' px : Pos} {o : Out}
theorem OP2.divL {i j : Int} (h : j ≠ 0) (h' : j.natAbs.log2 < 9000) : OP2 g σ (binaryOp .FloorDiv) (.int i) (.int j) (.int (i.fdiv j)) := by
  rintro c lv fd m α s Q E _ _ A F S ⟨t, rfl⟩ ⟨u, rfl⟩ k; exact floordiv_int h (k _ s.heap _ ⟨_, rfl⟩ F S) (.inl (PyProof.noPylong_of_log2 h'))
theorem EV.ifT {t e₁ e₂ : Expr} {b : Bool} (h : TR g lv fd t μ σ b σ₁) (hb : b = true) (h' : EV g lv fd e₁ μ σ₁ r σ₂) : EV g lv fd (.IfExp t e₁ e₂ pos) μ σ r σ₂ := by subst hb; exact .ifExp h h'
theorem EV.ifF {t e₁ e₂ : Expr} {b : Bool} (h : TR g lv fd t μ σ b σ₁) (hb : b = false) (h' : EV g lv fd e₂ μ σ₁ r σ₂) : EV g lv fd (.IfExp t e₁ e₂ pos) μ σ r σ₂ := by subst hb; exact .ifExp h h'
end
def START : List Int := [6130, 7637615639915, 16201, 12055, 432040, 102061, 302033, 11048, 11052, 1071, 537]
def sAt (ns : List Int) (i : Nat) : Int := if i < ns.length then ns.getD i 0 else START.getD i 0
def digit (x : Int) (i : Nat) : Int := (x.fdiv (10 ^ i)).fmod 10
abbrev STARTV : List PV := [.int 6130, .int 7637615639915, .int 16201, .int 12055, .int 432040, .int 102061, .int 302033, .int 11048, .int 11052, .int 1071, .int 537]
theorem start_get {i : Nat} (h : i ≤ 10) : STARTV[i]? = some (.int (START.getD i 0)) := by
  have : i < START.length := by show i < 11; omega
  show (START.map PV.int)[i]? = _
  rw [List.getElem?_map, List.getD_eq_getElem?_getD, List.getElem?_eq_getElem this]; rfl
section
variable {w : World} {ns : List Int} {lv : Nat} {σ τ : List AObj} {x : Int} {i : Nat}
theorem r_START : CX (gg w ns) (lv + 1) (.ref 259) [] σ (.ref σ.length) (σ ++ [.list STARTV]) := by
  apply CX.fr [] (k259 _) (c259 _) (bind0 (by kernel_rfl)) (by kernel_rfl) rfl
  conv in (boO _) => whnf
  apply ER.re
  · apply EV.list
    · walk_at "ar"
    · decide
  · rfl
theorem r_at (hi : i < ns.length ∨ i ≤ 10) (h14 : i ≤ 100) (hn : ns.length ≤ 63) : CL (gg w ns) (lv + 2) (.ref 266) [.scr, .int (i : Int)] σ (.int (sAt ns i)) σ := by
  have hb : ∀ τ, ER (gg w ns) (lv + 1) (fdO (stm 30) (.ofString "_law_at") 266 265) (boO (stm 30)) [(.ofString "i", .int i), (.ofString "script", .scr)] σ (.int (sAt ns i)) (σ ++ τ) → CL (gg w ns) (lv + 2) (.ref 266) [.scr, .int (i : Int)] σ (.int (sAt ns i)) σ := fun τ q =>
    CL.drop (τ := τ) (CX.cl (CX.fr [.ofString "script", .ofString "i"] (k266 _) (c266 _) (bind2 fun _ _ => by kernel_rfl) (by kernel_rfl) rfl q)) int_drop
  by_cases h : i < ns.length
  · apply hb []
    rw [List.append_nil]
    conv in (boO _) => whnf
    apply ER.re
    · apply EV.ifT
      · with_reducible apply TR.cmp
        · walk_at "ev"
        · with_reducible apply EV.call
          · walk_at "ev"
          · walk_at "ar"
          · exact CL.lenScr
          · walk_at "kp"
          · kernel_rfl
          · intro _; kernel_rfl
        · walk_at "op"
        · kernel_rfl
      · simpa using h
      · with_reducible apply EV.sub
        · walk_at "ev"
        · walk_at "ev"
        · exact OP2.scr (by omega) (by show (i : Int) < (ns.length : Int); omega) (by intro _ _; kernel_rfl)
    · show PV.int (ns.getD (i : Int).toNat 0) = _
      rw [Int.toNat_natCast, sAt, if_pos h]
  · apply hb [.list STARTV]
    conv in (boO _) => whnf
    apply ER.re
    · apply EV.ifF
      · with_reducible apply TR.cmp
        · walk_at "ev"
        · with_reducible apply EV.call
          · walk_at "ev"
          · walk_at "ar"
          · exact CL.lenScr
          · walk_at "kp"
          · kernel_rfl
          · intro _; kernel_rfl
        · walk_at "op"
        · kernel_rfl
      · simpa using h
      · with_reducible apply EV.sub
        · with_reducible apply EV.call
          · walk_at "ev"
          · walk_at "ar"
          · exact CX.cl r_START
          · walk_at "kp"
          · kernel_rfl
          · intro _; kernel_rfl
        · walk_at "ev"
        · exact OP2.item (k := (i : Int)) at_last (by omega) (start_get (by omega)) (by decide) (by intro _ _; kernel_rfl)
    · rw [sAt, if_neg h, Int.toNat_natCast]
theorem pow10 {i : Nat} (h : i ≤ 20) : ((10 : Int) ^ i) ≠ 0 ∧ ((10 : Int) ^ i).natAbs.log2 < 9000 := by
  have : ∀ i : Fin 21, ((10 : Int) ^ i.val) ≠ 0 ∧ ((10 : Int) ^ i.val).natAbs.log2 < 9000 := by decide +kernel
  exact this ⟨i, by omega⟩
theorem r_digit (hi : i ≤ 20) : CX (gg w ns) (lv + 1) (.ref 273) [.int x, .int (i : Int)] σ (.int (digit x i)) σ := by
  apply CX.fr [.ofString "x", .ofString "i"] (k273 _) (c273 _) (bind2 fun _ _ => by kernel_rfl) (by kernel_rfl) rfl
  walk_at "body"
  apply ER.re
  · with_reducible apply EV.bin
    · with_reducible apply EV.bin
      · walk_at "ev"
      · with_reducible apply EV.bin
        · walk_at "ev"
        · walk_at "ev"
        · exact OP2.pow (by omega) (by omega) (by decide)
      · exact OP2.divL (by rw [Int.toNat_natCast]; exact (pow10 hi).1) (by rw [Int.toNat_natCast]; exact (pow10 hi).2)
    · walk_at "ev"
    · walk_at "op"
  · rfl
def MENU : List Int := [0, 31754, -31754, 32000, -32000]
def drawn (x : Int) : Int := if 5 ≤ x.fmod 10 then (x.fdiv 10).fmod 64003 - 32001 else MENU.getD (x.fmod 10).toNat 0 + (x.fdiv 10).fmod 9 - 4
abbrev MENUV : List PV := [.int 0, .int 31754, .int (-31754), .int 32000, .int (-32000)]
theorem menu_get {k : Nat} (h : k < 5) : MENUV[k]? = some (.int (MENU.getD k 0)) := by
  have : k < MENU.length := h
  show (MENU.map PV.int)[k]? = _
  rw [List.getElem?_map, List.getD_eq_getElem?_getD, List.getElem?_eq_getElem this]; rfl
theorem r_drawn : CL (gg w ns) (lv + 1) (.ref 297) [.int x] σ (.int (drawn x)) σ := by
  have hb : ∀ τ, ER (gg w ns) lv (fdO (stm 35) (.ofString "_law_drawn") 297 296) (boO (stm 35)) [(.ofString "x", .int x)] σ (.int (drawn x)) (σ ++ τ) → CL (gg w ns) (lv + 1) (.ref 297) [.int x] σ (.int (drawn x)) σ := fun τ q =>
    CL.drop (τ := τ) (CX.cl (CX.fr [.ofString "x"] (k297 _) (c297 _) (bind1 fun _ => by kernel_rfl) (by kernel_rfl) rfl q)) int_drop
  have h0 : 0 ≤ x.fmod 10 := Int.fmod_nonneg_of_pos _ (by decide)
  by_cases h : 5 ≤ x.fmod 10
  · apply hb []
    rw [List.append_nil]
    conv in (boO _) => whnf
    apply ER.iT
    · walk_at "tr"
    · simpa using h
    · apply ER.re
      · walk_at "ev"
      · rw [drawn, if_pos h]
  · apply hb [.list MENUV]
    conv in (boO _) => whnf
    apply ER.iF
    · walk_at "tr"
    · simpa using h
    · apply ER.re
      · with_reducible apply EV.bin
        · with_reducible apply EV.bin
          · with_reducible apply EV.sub
            · apply EV.list
              · walk_at "ar"
              · decide
            · walk_at "ev"
            · exact OP2.item at_last h0 (menu_get (by omega)) (by decide) (by intro _ _; kernel_rfl)
          · walk_at "ev"
          · walk_at "op"
        · walk_at "ev"
        · walk_at "op"
      · rw [drawn, if_neg h]
end
end
section
theorem EV.to {g : G} {lv : Nat} {fd : FD} {e : Expr} {μ : Loc} {σ σ' : List AObj} {r r₀ : PV} (h : EV g lv fd e μ σ r σ') (hr : r = r₀) : EV g lv fd e μ σ r₀ σ' := by subst hr; exact h
def aw (v : Int) : Int := 32000 - ab v
def im (v : Int) : Bool := decide (0 ≤ aw v) && decide (aw v ≤ 246)
def mvs (v : Int) : Int := if im v = true then (aw v + 1).fdiv 2 else 0
def mvn (v : Int) : Int := if v < 0 then -(mvs v) else mvs v
theorem im_eq {v : Int} : mateS v = im v := by
  rw [Bool.eq_iff_iff, mateS_iff]
  simp only [im, aw, ab_nat, Bool.and_eq_true, decide_eq_true_eq]
  omega
theorem fd2 (a : Int) : a.fdiv 2 = a / 2 := Int.fdiv_eq_ediv_of_nonneg _ (by decide)
theorem mvn_eq {v : Int} : mtm v = mvn v := by
  unfold mtm mvn mvs
  rw [← im_eq]
  by_cases h : mateS v = true
  · rw [if_pos h, if_pos h]
    have h' := mateS_iff.mp h
    have e : aw v = 32000 - v.natAbs := by rw [aw, ab_nat]
    rw [e]
    simp only [fd2]
    split <;> split <;> omega
  · rw [if_neg h, if_neg h]; split <;> rfl
theorem mvs_small {v : Int} : (mvs v).natAbs < 2 ^ 64 := by
  unfold mvs
  split
  · rename_i h
    simp only [im, Bool.and_eq_true, decide_eq_true_eq] at h
    rw [Int.fdiv_eq_ediv_of_nonneg _ (by decide)]; omega
  · decide
theorem mate_len {i : Int} (h : i.natAbs < 2 ^ 64) : (Str.ofString "mate ").length + (itx i).length ≤ 16777216 := by
  have := itx_len h
  have e : (Str.ofString "mate ").length = 5 := by kernel_rfl
  omega
theorem cp_len {i : Int} (h : i.natAbs < 2 ^ 64) : (Str.ofString "cp ").length + (itx i).length ≤ 16777216 := by
  have := itx_len h
  have e : (Str.ofString "cp ").length = 3 := by kernel_rfl
  omega
section
variable {w : World} {ns : List Int} {lv : Nat} {σ τ : List AObj} {x v : Int} {i : Nat}
local macro_rules | `(tactic| walk_at "cl") => `(tactic| first | exact CL.abs | exact CX.cl r_is_mate | exact CX.cl r_mtm | exact CX.cl (r_scoreT (by assumption)) | exact CL.strI (log2_small (by assumption)))
local macro_rules | `(tactic| walk_at "op2") => `(tactic| first | exact OP2.addS (mate_len (by assumption)) | exact OP2.addS (cp_len (by assumption)))
local macro_rules | `(tactic| walk_at "as") => `(tactic| (apply ES.assign; (walk_at "ev"); rfl; kernel_rfl; kernel_rfl; (intro _; kernel_rfl)))
theorem r_says (hv : v.natAbs < 2 ^ 64) : CX (gg w ns) (lv + 4) (.ref 304) [.int v] σ (.bool true) σ := by
  have h1 := @im_eq v
  have h2 := @mvn_eq v
  have h3 := @mvs_small v
  have h4 : (-mvs v).natAbs < 2 ^ 64 := by rw [Int.natAbs_neg]; exact h3
  have last : ∀ n : Int, n.natAbs < 2 ^ 64 → mtm v = n → ER (gg w ns) (lv + 3) (fdO (stm 36) (.ofString "_law_says") 304 303) ((boO (stm 36)).drop 4) [(.ofString "moves", .int n), (.ofString "is_mate", .bool (im v)), (.ofString "value", .int v)] σ (.bool true) σ := fun n hn e => by
    conv in (List.drop _ _) => whnf
    apply ER.iF
    · walk_at "tr"
    · rw [h1, e]; simp
    apply ER.re
    · with_reducible apply EV.cmp (r₂ := .str (scoreT v))
      · walk_at "ev"
      · unfold scoreT
        rw [h1, e]
        cases hi : im v
        · simp only [Bool.false_eq_true, if_false]
          apply EV.ifF
          · walk_at "tr"
          · rfl
          · walk_at "ev"
        · simp only [if_true]
          apply EV.ifT
          · walk_at "tr"
          · rfl
          · walk_at "ev"
      · walk_at "op"
      · kernel_rfl
    · simp
  conv at last in (List.drop _ _) => whnf
  apply CX.fr [.ofString "value"] (k304 _) (c304 _) (bind1 fun _ => by kernel_rfl) (by kernel_rfl) rfl
  walk_at "body"
  apply ER.cons (μ₁ := (.ofString "away", .int (aw v)) :: [(.ofString "value", .int v)]) (σ₁ := σ)
  · apply ES.assign
    · apply EV.to
      · walk_at "ev"
      · rfl
    · rfl
    · kernel_rfl
    · kernel_rfl
    · intro _; kernel_rfl
  apply ER.cons (μ₁ := (.ofString "is_mate", .bool (im v)) :: (.ofString "away", .int (aw v)) :: [(.ofString "value", .int v)]) (σ₁ := σ)
  · apply ES.assign
    · apply EV.to
      · walk_at "ev"
      · rfl
    · rfl
    · kernel_rfl
    · kernel_rfl
    · intro _; kernel_rfl
  apply ER.cons (μ₁ := (.ofString "moves", .int (mvs v)) :: (.ofString "is_mate", .bool (im v)) :: (.ofString "away", .int (aw v)) :: [(.ofString "value", .int v)]) (σ₁ := σ)
  · apply ES.assign
    · unfold mvs
      cases hi : im v
      · simp only [Bool.false_eq_true, if_false]
        apply EV.ifF
        · walk_at "tr"
        · rfl
        · walk_at "ev"
      · simp only [if_true]
        apply EV.ifT
        · walk_at "tr"
        · rfl
        · walk_at "ev"
    · rfl
    · kernel_rfl
    · kernel_rfl
    · intro _; kernel_rfl
  by_cases h0 : v < 0
  · apply ER.iTn
    · walk_at "tr"
    · simpa using h0
    · apply EX.cons
      · walk_at "as"
      · exact EX.nil
    · apply ER.pre
      · exact last (-(mvs v)) h4 (by rw [h2, mvn, if_pos h0])
      · walk_at "cov"
  · apply ER.iF
    · walk_at "tr"
    · simpa using h0
    · apply ER.pre
      · exact last (mvs v) h3 (by rw [h2, mvn, if_neg h0])
      · walk_at "cov"
end
end
section
theorem drawn_bd {x : Int} : -32010 ≤ drawn x ∧ drawn x ≤ 32010 := by
  unfold drawn
  have h0 : 0 ≤ x.fmod 10 := Int.fmod_nonneg_of_pos _ (by decide)
  split
  · have h1 : 0 ≤ (x.fdiv 10).fmod 64003 := Int.fmod_nonneg_of_pos _ (by decide)
    have h2 : (x.fdiv 10).fmod 64003 < 64003 := Int.fmod_lt_of_pos _ (by decide)
    omega
  · have h1 : 0 ≤ (x.fdiv 10).fmod 9 := Int.fmod_nonneg_of_pos _ (by decide)
    have h2 : (x.fdiv 10).fmod 9 < 9 := Int.fmod_lt_of_pos _ (by decide)
    have h3 : ∀ k : Nat, k < 5 → -32000 ≤ MENU.getD k 0 ∧ MENU.getD k 0 ≤ 32000 := by decide
    have := h3 (x.fmod 10).toNat (by omega)
    omega
theorem tab_back {v p : Int} (h : 0 ≤ p) : frT (toT v p) p = v := by
  unfold frT toT
  repeat' split
  all_goals omega
theorem tab_less {v u p : Int} (h : 0 ≤ p) : decide (toT v p < toT u p) = decide (v < u) := by
  rw [decide_eq_decide]
  unfold toT
  repeat' split
  all_goals omega
theorem clamp_no {v : Int} : mateS (clampv v) = false := by
  rw [Bool.eq_false_iff]
  intro h
  have := mateS_iff.mp h
  unfold clampv at this
  split at this
  · simp at this
  · split at this
    · simp at this
    · omega
def mid3 (v : Int) : List Int := if v < -31753 then [v, -31753, 31753] else if 31753 < v then [-31753, 31753, v] else [-31753, v, 31753]
theorem mid3_get {v : Int} : (pis (mid3 v))[(1 : Int).toNat]? = some (.int (clampv v)) := by
  unfold mid3 clampv
  split
  · rw [if_neg (by omega)]; rfl
  · split <;> rfl
theorem mid3_len {v : Int} : (pis (mid3 v)).length < 1000000 := by
  unfold mid3
  repeat' split
  all_goals simp
theorem mid3_sorted {v : Int} (l : List Int) (h : l.Perm [-31753, v, 31753]) (hs : l.Pairwise (· ≤ ·)) : l = mid3 v := by
  have hp : (mid3 v).Perm [-31753, v, 31753] := by
    unfold mid3
    split
    · exact List.Perm.swap _ _ _
    · split
      · exact List.Perm.cons _ (List.Perm.swap _ _ _)
      · exact List.Perm.refl _
  have hq : (mid3 v).Pairwise (· ≤ ·) := by
    unfold mid3
    repeat' split
    all_goals simp
    all_goals omega
  exact (h.trans hp.symm).eq_of_pairwise (le := (· ≤ ·)) (fun a b _ _ h1 h2 => Int.le_antisymm h1 h2) hs hq
section
variable {w : World} {ns : List Int} {lv : Nat} {σ τ : List AObj} {x v : Int} {i : Nat}
local macro_rules | `(tactic| walk_at "cl") => `(tactic| first | exact r_drawn | exact CX.cl r_is_mate | exact CX.cl (r_says (by assumption)) | exact CX.cl r_toT | exact CX.cl r_frT | exact CX.cl r_clamp)
local macro_rules | `(tactic| walk_at "op2") => `(tactic| first | exact OP2.divL (by decide) (by decide) | exact OP2.pow (by decide) (by decide) (by decide))
local macro_rules | `(tactic| walk_at "as") => `(tactic| (apply ES.assign; (walk_at "ev"); rfl; kernel_rfl; kernel_rfl; (intro _; kernel_rfl)))
theorem r_keeps : CL (gg w ns) (lv + 5) (.ref 311) [.int x] σ (.bool true) σ := by
  have hb : ∀ τ, ER (gg w ns) (lv + 4) (fdO (stm 37) (.ofString "_law_keeps") 311 310) (boO (stm 37)) [(.ofString "x", .int x)] σ (.bool true) (σ ++ τ) → CL (gg w ns) (lv + 5) (.ref 311) [.int x] σ (.bool true) σ := fun τ q =>
    CL.drop (τ := τ) (CX.cl (CX.fr [.ofString "x"] (k311 _) (c311 _) (bind1 fun _ => by kernel_rfl) (by kernel_rfl) rfl q)) (fun _ _ _ _ h => h)
  have rest : ∀ one two ply : Int, (one.natAbs < 2 ^ 64) → 0 ≤ ply → ER (gg w ns) (lv + 4) (fdO (stm 37) (.ofString "_law_keeps") 311 310) ((boO (stm 37)).drop 3) [(.ofString "ply", .int ply), (.ofString "two", .int two), (.ofString "one", .int one)] σ (.bool true) (σ ++ [.list (pis [-31753, one, 31753]), .list (pis (mid3 one))]) := fun one two ply h1 h0 => by
    rw [show σ ++ [AObj.list (pis [-31753, one, 31753]), .list (pis (mid3 one))] = σ ++ [.list (pis [-31753, one, 31753])] ++ [.list (pis (mid3 one))] by simp]
    conv in (List.drop _ _) => whnf
    apply ER.iF
    · walk_at "tr"
    · rw [tab_back h0]; simp
    apply ER.iF
    · walk_at "tr"
    · rw [tab_less h0]; simp
    have ea : (clampv one == clampv one) = true := by simp
    apply ER.re
    · apply EV.and_
      · with_reducible apply EV.cmp
        · walk_at "ev"
        · with_reducible apply EV.sub
          · with_reducible apply EV.call
            · walk_at "ev"
            · with_reducible apply AR.cons
              · with_reducible apply EV.list
                · walk_at "ar"
                · simp
              · walk_at "ar"
              · intro _; kernel_rfl
            · exact CL.sorted (ns := [-31753, one, 31753]) at_last (by simp) mid3_sorted
            · walk_at "kp"
            · kernel_rfl
            · intro _; kernel_rfl
          · walk_at "ev"
          · exact OP2.item at_last (by decide) mid3_get mid3_len (by intro _ _; kernel_rfl)
        · walk_at "op"
        · kernel_rfl
      · exact TV.bool
      · intro _
        walk_at "ev"
      · intro h
        rw [ea] at h; cases h
    · rw [clamp_no]; rfl
  conv at rest in (List.drop _ _) => whnf
  apply hb
  conv in (boO _) => whnf
  apply ER.cons
  · walk_at "as"
  apply ER.cons
  · walk_at "as"
  apply ER.cons
  · walk_at "as"
  apply ER.pre
  · exact rest (drawn (x.fmod (10 ^ (6 : Int).toNat))) (drawn ((x.fdiv (10 ^ (6 : Int).toNat)).fmod (10 ^ (6 : Int).toNat))) ((x.fdiv (10 ^ (12 : Int).toNat)).fmod 247) (by have := @drawn_bd (x.fmod (10 ^ (6 : Int).toNat)); omega) (Int.fmod_nonneg_of_pos _ (by decide))
  · walk_at "cov"
end
end
section
/-! texts, as lists of signs -/
theorem s_minus : Str.ofString "-" = ⟨#[45]⟩ := by kernel_rfl
theorem s_zero : Str.ofString "0" = ⟨#[48]⟩ := by kernel_rfl
theorem s_nil : Str.ofString "" = ⟨#[]⟩ := by kernel_rfl
theorem s_space : Str.ofString " " = ⟨#[32]⟩ := by kernel_rfl
theorem str_eta (x : Str) : x = ⟨x.cps.toList.toArray⟩ := Str.ext' (by simp)
theorem str_inj {x y : Str} (h : x.cps.toList = y.cps.toList) : x = y := by rw [str_eta x, str_eta y, h]
theorem app_l (x y : Str) : (x ++ y).cps.toList = x.cps.toList ++ y.cps.toList := by
  show (x.cps ++ y.cps).toList = _
  simp
def rcM (l d : List Nat) : Option Int :=
  if d = [] ∨ 5 < d.length then none else if (d.any fun n => !(decide (48 ≤ n) && decide (n ≤ 57))) = true then none else
  if d.head? = some 48 ∧ l ≠ [48] then none else if l.head? = some 45 then some (-((NumText.digitsVal d : Nat) : Int)) else some ((NumText.digitsVal d : Nat) : Int)
def rcL (l : List Nat) : Option Int := rcM l (if l.head? = some 45 then l.tail else l)
theorem rcL_m {r : List Nat} : rcL (45 :: r) = rcM (45 :: r) r := by unfold rcL; simp
theorem rcL_p {l : List Nat} (h : l.head? ≠ some 45) : rcL l = rcM l l := by unfold rcL; rw [if_neg h]
theorem dig_eq : dig = fun n => decide (48 ≤ n) && decide (n ≤ 57) := by
  funext n
  rw [Bool.eq_iff_iff, dig_iff]
  simp
theorem slice_head {c : Nat} {r : List Nat} : Txt.slice ⟨(c :: r).toArray⟩ none (some 1) = ⟨#[c]⟩ := by
  have h := slice_closes_toL (x := ⟨(c :: r).toArray⟩) (j := 1) (by decide) (by show (1 : Int) ≤ (((c :: r).toArray.size : Nat) : Int); simp; omega)
  rw [beq_iff_eq] at h
  rw [h]
  simp
theorem slice_tail {c : Nat} {r : List Nat} : Txt.slice ⟨(c :: r).toArray⟩ (some 1) none = ⟨r.toArray⟩ := by
  have h := slice_from_eq (x := ⟨(c :: r).toArray⟩) (i := 1) (b := ((r.length + 1 : Nat) : Int)) (by decide) (by show (1 : Int) ≤ (((c :: r).toArray.size : Nat) : Int); simp; omega) (by show _ = (((c :: r).toArray.size : Nat) : Int); simp)
  rw [h]
  simp
theorem item_head {c : Nat} {r : List Nat} : Txt.item ⟨(c :: r).toArray⟩ 0 = ⟨#[c]⟩ := item_meets (by decide) (by simp)
theorem one_eq {c d : Nat} : ((⟨#[c]⟩ : Str) == ⟨#[d]⟩) = decide (c = d) := by
  rw [Bool.eq_iff_iff, beq_iff_eq, decide_eq_true_eq]
  constructor
  · intro h; simpa using h
  · intro h; rw [h]
theorem rcount_eq (x : Str) : rcount x = rcL x.cps.toList := by
  obtain ⟨l, e⟩ : ∃ l : List Nat, x = ⟨l.toArray⟩ := ⟨_, str_eta x⟩
  subst e
  show rcount _ = rcL l
  cases l with
  | nil => kernel_rfl
  | cons c r =>
    unfold rcount rcN rcD
    rw [slice_head, slice_tail, s_minus, s_zero, s_nil, one_eq, item_head, one_eq, dig_eq]
    by_cases hc : c = 45
    · subst hc
      rw [rcL_m]
      unfold rcM
      simp only [decide_true, if_true, List.head?_cons]
      cases r with
      | nil => rfl
      | cons a r =>
        rw [item_head, one_eq]
        have e1 : ((⟨(a :: r).toArray⟩ : Str) == ⟨#[]⟩) = false := by rw [Bool.eq_false_iff]; intro h; rw [beq_iff_eq] at h; simp at h
        have e2 : ((⟨(45 :: a :: r).toArray⟩ : Str) != ⟨#[48]⟩) = true := by rw [bne_iff_ne]; intro h; simp at h
        have e3 : (⟨(a :: r).toArray⟩ : Str).length = (a :: r).length := by show (a :: r).toArray.size = _; simp
        rw [e1, e2, e3]
        have e4 : (5 < ((r.length : Nat) : Int) + 1) = (5 < r.length + 1) := propext (by omega)
        simp [e4]
    · have hc' : ¬ (some c = some 45) := by simpa using hc
      rw [rcL_p (by simpa using hc)]
      unfold rcM
      simp only [hc, decide_false, Bool.false_eq_true, if_false, List.head?_cons, hc']
      rw [item_head, one_eq]
      have e1 : ((⟨(c :: r).toArray⟩ : Str) == ⟨#[]⟩) = false := by rw [Bool.eq_false_iff]; intro h; rw [beq_iff_eq] at h; simp at h
      have e2 : ((⟨(c :: r).toArray⟩ : Str) != ⟨#[48]⟩) = decide (c :: r ≠ [48]) := by
        rw [Bool.eq_iff_iff, bne_iff_ne, decide_eq_true_eq]
        simp only [ne_eq, Str.mk.injEq]
        rw [← Array.toList_inj]
      have e3 : (⟨(c :: r).toArray⟩ : Str).length = (c :: r).length := by show (c :: r).toArray.size = _; simp
      rw [e1, e2, e3]
      have e4 : (5 < ((r.length : Nat) : Int) + 1) = (5 < r.length + 1) := propext (by omega)
      by_cases h48 : c = 48 <;> simp [e4, h48]
/-! the signs of an int -/
def digs (m : Nat) : List Nat := (Nat.toDigits 10 m).map Char.toNat
theorem itx_nat (m : Nat) : (itx (m : Int)).cps.toList = digs m := KIN.signs_num m
theorem itx_neg (m : Nat) (h : 0 < m) : (itx (-(m : Int))).cps.toList = 45 :: digs m := by
  show (Str.ofString (toString (-(m : Int)))).cps.toList = _
  rw [toString_neg (by omega), show (0 : Int) - -(m : Int) = m by omega, signs_ofString, String.toList_append, List.map_append, ← signs_ofString (toString (m : Int))]
  rw [show (Str.ofString (toString (m : Int))).cps.toList = digs m from KIN.signs_num m]
  rfl
theorem digs_val (m : Nat) : NumText.digitsVal (digs m) = m := KIN.val_back m
theorem digs_digit (m : Nat) : ∀ c ∈ digs m, 48 ≤ c ∧ c ≤ 57 := by
  intro c hc
  obtain ⟨ch, hch, e⟩ := List.mem_map.mp hc
  have r := digit_range (Nat.isDigit_of_mem_toDigits (by decide) (by decide) hch)
  rw [← e]
  exact r
theorem digs_ne (m : Nat) : digs m ≠ [] := by
  intro e
  have h := toDigits_len_ge 10 m
  rw [List.map_eq_nil_iff.mp e] at h
  exact absurd h (by decide)
theorem digs_len {m : Nat} (h : m < 100000) : (digs m).length ≤ 5 := by
  have := toString_length_le (v := (m : Int)) (k := 5) (by omega) (by decide) (by omega)
  have e : (Str.ofString (toString (m : Int))).length = (digs m).length := by rw [← itx_nat]; exact Array.length_toList.symm
  omega
theorem digs_step {m : Nat} (h : ¬ m < 10) : digs m = digs (m / 10) ++ digs (m % 10) := by
  have hm : m % 10 < 10 := Nat.mod_lt m (by decide)
  have t : Nat.toDigits 10 (m / 10) ++ Nat.toDigits 10 (m % 10) = Nat.toDigits 10 (10 * (m / 10) + m % 10) := Nat.toDigits_append_toDigits (by decide) (by omega) hm
  rw [Nat.div_add_mod] at t
  unfold digs
  rw [← t, List.map_append]
theorem digs_head {m : Nat} (h : 0 < m) : (digs m).head? ≠ some 48 := by
  induction m using Nat.strongRecOn with
  | _ m ih =>
    by_cases h10 : m < 10
    · have : ∀ k : Fin 10, 0 < k.val → (digs k.val).head? ≠ some 48 := by decide +kernel
      exact this ⟨m, h10⟩ h
    · rw [digs_step h10, List.head?_append]
      have := ih (m / 10) (by omega) (by omega)
      cases hh : (digs (m / 10)).head? with
      | none => exact absurd (List.head?_eq_none_iff.mp hh) (digs_ne _)
      | some c => rw [hh] at this; exact this
theorem digs_zero : digs 0 = [48] := by decide +kernel
theorem no_bad (m : Nat) : ((digs m).any fun n => !(decide (48 ≤ n) && decide (n ≤ 57))) = false := by
  rw [List.any_eq_false]
  intro c hc
  have := digs_digit m c hc
  simp [this.1, this.2]
theorem digs_minus (m : Nat) : (digs m).head? ≠ some 45 := by
  intro h
  have := digs_digit m 45 (List.mem_of_mem_head? h)
  omega
theorem rcL_nat {m : Nat} (h : m < 100000) : rcL (digs m) = some (m : Int) := by
  rw [rcL_p (digs_minus m)]
  unfold rcM
  rw [if_neg (by simp [digs_ne]; have := digs_len h; omega), no_bad, if_neg (by decide)]
  rw [if_neg (by
    rintro ⟨h1, h2⟩
    rcases Nat.eq_zero_or_pos m with q | q
    · subst q; exact h2 digs_zero
    · exact digs_head q h1), if_neg (digs_minus m), digs_val]
theorem rcL_neg {m : Nat} (h0 : 0 < m) (h : m < 100000) : rcL (45 :: digs m) = some (-(m : Int)) := by
  rw [rcL_m]
  unfold rcM
  rw [if_neg (by simp [digs_ne]; have := digs_len h; omega), no_bad, if_neg (by decide)]
  rw [if_neg (by
    rintro ⟨h1, h2⟩
    exact digs_head h0 h1), if_pos (by simp), digs_val]
theorem rcount_itx {n : Int} (h : n.natAbs < 100000) : rcount (itx n) = some n := by
  rw [rcount_eq]
  rcases Int.lt_or_le n 0 with q | q
  · obtain ⟨m, rfl⟩ : ∃ m : Nat, n = -(m : Int) := ⟨n.natAbs, by omega⟩
    rw [itx_neg m (by omega), rcL_neg (by omega) (by omega)]
  · obtain ⟨m, rfl⟩ : ∃ m : Nat, n = (m : Int) := ⟨n.natAbs, by omega⟩
    rw [itx_nat, rcL_nat (by omega)]
theorem rcM_bad {l d : List Nat} {x : Nat} (hd : x ∈ d) (hb : ¬ (48 ≤ x ∧ x ≤ 57)) : rcM l d = none := by
  unfold rcM
  split
  · rfl
  · rw [if_pos]
    refine List.any_eq_true.mpr ⟨x, hd, ?_⟩
    simp only [Bool.not_eq_true', Bool.and_eq_false_iff, decide_eq_false_iff_not]
    omega
/-- a sign that is no digit, behind the first -/
theorem rcL_bad {c : Nat} {r : List Nat} (h : ∃ x ∈ r, ¬ (48 ≤ x ∧ x ≤ 57)) : rcL (c :: r) = none := by
  obtain ⟨x, hx, hb⟩ := h
  by_cases hc : c = 45
  · subst hc; rw [rcL_m]; exact rcM_bad hx hb
  · rw [rcL_p (by simpa using hc)]; exact rcM_bad (.tail _ hx) hb
theorem rcL_bad0 {c : Nat} {r : List Nat} (h1 : c ≠ 45) (h2 : ¬ (48 ≤ c ∧ c ≤ 57)) : rcL (c :: r) = none := by
  rw [rcL_p (by simpa using h1)]; exact rcM_bad (.head _) h2
theorem rcL_zero {r : List Nat} (h : r ≠ []) : rcL (48 :: r) = none := by
  rw [rcL_p (by simp)]
  unfold rcM
  split
  · rfl
  · split
    · rfl
    · rw [if_pos (by simp [h])]
theorem rcL_mzero {r : List Nat} : rcL (45 :: 48 :: r) = none := by
  rw [rcL_m]
  unfold rcM
  split
  · rfl
  · split
    · rfl
    · rw [if_pos (by simp)]
theorem rcM_long {l d : List Nat} (h : 5 < d.length) : rcM l d = none := by
  unfold rcM
  rw [if_pos (.inr h)]
theorem rcL_long {l : List Nat} (h : 6 < l.length) : rcL l = none := by
  unfold rcL
  apply rcM_long
  split
  · rw [List.length_tail]; omega
  · omega
/-! two words -/
theorem split_two {a b : Str} (ha : 32 ∉ a.cps.toList) (hb : 32 ∉ b.cps.toList) : Txt.split (a ++ .ofString " " ++ b) (.ofString " ") = [a, b] := by
  rw [s_space]
  have hn : ((Txt.split (a ++ ⟨#[32]⟩ ++ b) ⟨#[32]⟩).length : Int) = 2 := by
    rw [split_len, app_l, app_l, cnt_append, cnt_append, cnt_none 32 _ ha, cnt_none 32 _ hb]
    rfl
  have hj := StrLaws.join_split (a ++ ⟨#[32]⟩ ++ b) ⟨#[32]⟩
  have hf := StrLaws.split_free (a ++ ⟨#[32]⟩ ++ b) 32
  generalize Txt.split (a ++ ⟨#[32]⟩ ++ b) ⟨#[32]⟩ = parts at hn hj hf
  match parts, hn with
  | [p, q], _ =>
    have e : Str.join ⟨#[32]⟩ [p, q] = p ++ ⟨#[32]⟩ ++ q := rfl
    rw [e] at hj
    have hl := congrArg (fun x : Str => x.cps.toList) hj
    simp only [app_l] at hl
    have hp := hf p (by simp)
    have hq := hf q (by simp)
    have cut : ∀ u v : List Nat, 32 ∉ u → (u ++ [32] ++ v).takeWhile (· != 32) = u := fun u v hu => by
      rw [List.append_assoc, List.takeWhile_append_of_pos (fun x hx => by simp; intro e; exact hu (e ▸ hx))]
      simp
    have e1 : p.cps.toList = a.cps.toList := by
      have := congrArg (List.takeWhile (· != 32)) hl
      rw [cut _ _ hp, cut _ _ ha] at this
      exact this
    have e2 : q.cps.toList = b.cps.toList := by
      rw [e1] at hl
      exact List.append_cancel_left hl
    rw [str_inj e1, str_inj e2]
theorem split_not2 {x : Str} (h : cnt 32 x.cps.toList ≠ 1) : (Txt.split x (.ofString " ")).length ≠ 2 := by
  rw [s_space]
  intro e
  have := split_len x 32
  rw [e] at this
  omega
theorem itx_free (n : Int) : 32 ∉ (itx n).cps.toList := fun h => (intText_free_32 n).mp h
end
section
theorem cp_cut : Str.ofString "cp " = Str.ofString "cp" ++ Str.ofString " " := by kernel_rfl
theorem mate_cut : Str.ofString "mate " = Str.ofString "mate" ++ Str.ofString " " := by kernel_rfl
theorem cp_free : 32 ∉ (Str.ofString "cp").cps.toList := by decide +kernel
theorem mate_free : 32 ∉ (Str.ofString "mate").cps.toList := by decide +kernel
theorem rs_cp {n : Int} (h1 : -31753 ≤ n) (h2 : n ≤ 31753) : rscoreP (.ofString "cp") (itx n) = some n := by
  unfold rscoreP
  rw [rcount_itx (by omega)]
  dsimp only
  rw [if_pos]
  simp [h1, h2]
theorem mate_cp : (Str.ofString "mate" == Str.ofString "cp") = false := by kernel_rfl
theorem rs_win {n : Int} (h1 : 0 < n) (h2 : 2 * n - 1 ≤ 246) : rscoreP (.ofString "mate") (itx n) = some (32000 - (2 * n - 1)) := by
  unfold rscoreP
  rw [rcount_itx (by omega)]
  dsimp only
  rw [mate_cp, if_neg (by simp), if_pos (by simp), if_pos (by simp [h1, h2])]
theorem rs_lost {n : Int} (h1 : n ≤ 0) (h2 : -2 * n ≤ 246) : rscoreP (.ofString "mate") (itx n) = some (-2 * n - 32000) := by
  unfold rscoreP
  rw [rcount_itx (by omega)]
  dsimp only
  rw [mate_cp, if_neg (by simp), if_pos (by simp), if_neg (by simp; omega), if_pos (by simp; omega)]
theorem split_cp {n : Int} : Txt.split (.ofString "cp " ++ itx n) (.ofString " ") = [.ofString "cp", itx n] := by rw [cp_cut]; exact split_two cp_free (itx_free n)
theorem split_mate {n : Int} : Txt.split (.ofString "mate " ++ itx n) (.ofString " ") = [.ofString "mate", itx n] := by rw [mate_cut]; exact split_two mate_free (itx_free n)
theorem str_len_app (x y : Str) : (x ++ y).length = x.length + y.length := Str.length_append ..
theorem cp_short {n : Int} (h : n.natAbs < 2 ^ 64) : (Str.ofString "cp " ++ itx n).length ≤ 100000 := by
  have := itx_len h
  have e : (Str.ofString "cp ").length = 3 := by kernel_rfl
  rw [str_len_app]; omega
theorem mate_short {n : Int} (h : n.natAbs < 2 ^ 64) : (Str.ofString "mate " ++ itx n).length ≤ 100000 := by
  have := itx_len h
  have e : (Str.ofString "mate ").length = 5 := by kernel_rfl
  rw [str_len_app]; omega
section
variable {w : World} {ns : List Int} {lv : Nat} {σ τ : List AObj} {x v : Int} {i : Nat}
local macro_rules | `(tactic| walk_at "cl") => `(tactic| first | exact CX.cl r_is_mate | exact CX.cl r_mtm | exact CX.cl (r_scoreT (by assumption)) | exact CL.strI (log2_small (by assumption)) | exact CX.cl (r_score (by assumption) (by assumption) (by assumption) (by assumption)))
local macro_rules | `(tactic| walk_at "op2") => `(tactic| first | exact OP2.addS (mate_len (by assumption)) | exact OP2.addS (cp_len (by assumption)))
local macro_rules | `(tactic| walk_at "as") => `(tactic| (apply ES.assign; (walk_at "ev"); rfl; kernel_rfl; kernel_rfl; (intro _; kernel_rfl)))
noncomputable abbrev fd290 : FD := fdO (stm 34) (.ofString "_law_told") 290 289
theorem rest290 {T p q : Str} {n : Int} {b : Bool} {a : PV} (hv : v.natAbs < 2 ^ 64) (h1 : mateS v = b) (h2 : mtm v = n) (h3 : scoreT v = T) (hl : T.length ≤ 100000) (hs : Txt.split T (.ofString " ") = [p, q]) (hq : q.length ≤ 16777216) (hr : rscoreP p q = some v) :
    ER (gg w ns) (lv + 4) fd290 ((boO (stm 34)).drop 1) [(.ofString "text", .str T), (.ofString "moves", .int n), (.ofString "is_mate", .bool b), (.ofString "value", .int v)] σ (.bool true) (σ ++ [.list [.str p, .str q]]) := by
  conv in (List.drop _ _) => whnf
  apply ER.iF
  · walk_at "tr"
  · rw [h1, h2]; simp
  apply ER.re
  · apply EV.and_
    · walk_at "ev"
    · exact TV.bool
    · intro _
      walk_at "ev"
    · intro h
      rw [h3] at h; simp at h
  · simp
theorem b290 {a : PV} (τ : List AObj) (q : ER (gg w ns) (lv + 4) fd290 (boO (stm 34)) [(.ofString "away", a), (.ofString "value", .int v)] σ (.bool true) (σ ++ τ)) : CL (gg w ns) (lv + 5) (.ref 290) [.int v, a] σ (.bool true) σ :=
  CL.drop (τ := τ) (CX.cl (CX.fr [.ofString "value", .ofString "away"] (k290 _) (c290 _) (bind2 fun _ _ => by kernel_rfl) (by kernel_rfl) rfl q)) (fun _ _ _ _ h => h)
theorem told_none (hv : v.natAbs ≤ 31753) : CL (gg w ns) (lv + 5) (.ref 290) [.int v, .none] σ (.bool true) σ := by
  have h0 : mateS v = false := by rw [Bool.eq_false_iff]; intro h; have := mateS_iff.mp h; omega
  have hv' : v.natAbs < 2 ^ 64 := by omega
  have rs := fun τ => rest290 (w := w) (ns := ns) (lv := lv) (σ := τ) (a := .none) (T := .ofString "cp " ++ itx v) (n := 0) (b := false) hv' h0 (by unfold mtm; rw [h0]; rfl) (by unfold scoreT; rw [h0]; rfl) (cp_short hv') split_cp (by have := itx_len hv'; omega) (rs_cp (by omega) (by omega))
  conv at rs in (List.drop _ _) => whnf
  apply b290 [.tup [.str (.ofString "cp " ++ itx v), .int 0, .bool false], .list [.str (.ofString "cp"), .str (itx v)]]
  rw [show σ ++ [AObj.tup [.str (.ofString "cp " ++ itx v), .int 0, .bool false], .list [.str (.ofString "cp"), .str (itx v)]] = σ ++ [.tup [.str (.ofString "cp " ++ itx v), .int 0, .bool false]] ++ [.list [.str (.ofString "cp"), .str (itx v)]] by simp]
  conv in (boO _) => whnf
  apply ER.iTn
  · walk_at "tr"
  · rfl
  · apply EX.cons
    · apply ES.swap [.ofString "text", .ofString "moves", .ofString "is_mate"]
      · apply EV.tuple
        · walk_at "ar"
        · simp
      · exact at_last
      · rfl
      · kernel_rfl
      · decide +kernel
      · rfl
      · intro _; kernel_rfl
      · intro _; kernel_rfl
    · exact EX.nil
  · apply ER.pre
    · exact rs _
    · simp only [List.reverse_cons, List.reverse_nil, List.nil_append, List.cons_append, List.zip_cons_cons, List.zip_nil_left]
      walk_at "cov"
theorem told_even {d : Int} (h0 : 0 ≤ d) (h1 : d ≤ 246) (hd : d.fmod 2 = 0) : CL (gg w ns) (lv + 5) (.ref 290) [.int (d - 32000), .int d] σ (.bool true) σ := by
  have hf : d % 2 = 0 := by rw [← Int.fmod_eq_emod_of_nonneg _ (by decide)]; exact hd
  have hv : (d - 32000).natAbs < 2 ^ 64 := by omega
  have hn : (-((d + 1).fdiv 2)).natAbs < 2 ^ 64 := by rw [fd2]; omega
  have hm : mateS (d - 32000) = true := mateS_iff.mpr (by omega)
  have h2 : mtm (d - 32000) = -((d + 1).fdiv 2) := by
    unfold mtm
    rw [if_pos hm]
    rw [if_neg (by omega)]
    simp only [fd2]
    omega
  have hr : rscoreP (.ofString "mate") (itx (-((d + 1).fdiv 2))) = some (d - 32000) := by
    rw [rs_lost (by rw [fd2]; omega) (by rw [fd2]; omega)]
    congr 1
    rw [fd2]; omega
  have rs := fun τ => rest290 (w := w) (ns := ns) (lv := lv) (σ := τ) (a := .none) (T := .ofString "mate " ++ itx (-((d + 1).fdiv 2))) (n := -((d + 1).fdiv 2)) (b := true) hv hm h2 (by unfold scoreT; rw [hm, if_pos rfl, h2]) (mate_short hn) split_mate (by have := itx_len hn; omega) hr
  conv at rs in (List.drop _ _) => whnf
  apply b290 [.tup [.int ((d + 1).fdiv 2), .bool true], .list [.str (.ofString "mate"), .str (itx (-((d + 1).fdiv 2)))]]
  rw [show σ ++ [AObj.tup [.int ((d + 1).fdiv 2), .bool true], .list [.str (.ofString "mate"), .str (itx (-((d + 1).fdiv 2)))]] = σ ++ [.tup [.int ((d + 1).fdiv 2), .bool true]] ++ [.list [.str (.ofString "mate"), .str (itx (-((d + 1).fdiv 2)))]] by simp]
  conv in (boO _) => whnf
  apply ER.iEn
  · walk_at "tr"
  · rfl
  · apply EX.cons
    · apply ES.swap [.ofString "moves", .ofString "is_mate"]
      · apply EV.tuple
        · walk_at "ar"
        · simp
      · exact at_last
      · rfl
      · kernel_rfl
      · decide +kernel
      · rfl
      · intro _; kernel_rfl
      · intro _; kernel_rfl
    · simp only [List.reverse_cons, List.reverse_nil, List.nil_append, List.cons_append, List.zip_cons_cons, List.zip_nil_left]
      apply EX.iTn
      · walk_at "tr"
      · rw [hd]; rfl
      · apply EX.cons
        · walk_at "as"
        · exact EX.nil
      · apply EX.cons
        · walk_at "as"
        · exact EX.nil
  · apply ER.pre
    · exact rs _
    · walk_at "cov"
theorem told_odd {d : Int} (h0 : 0 ≤ d) (h1 : d ≤ 246) (hd : d.fmod 2 = 1) : CL (gg w ns) (lv + 5) (.ref 290) [.int (32000 - d), .int d] σ (.bool true) σ := by
  have hf : d % 2 = 1 := by rw [← Int.fmod_eq_emod_of_nonneg _ (by decide)]; exact hd
  have hv : (32000 - d).natAbs < 2 ^ 64 := by omega
  have hn : ((d + 1).fdiv 2).natAbs < 2 ^ 64 := by rw [fd2]; omega
  have hm : mateS (32000 - d) = true := mateS_iff.mpr (by omega)
  have h2 : mtm (32000 - d) = (d + 1).fdiv 2 := by
    unfold mtm
    rw [if_pos hm]
    rw [if_pos (by omega)]
    simp only [fd2]
    omega
  have hr : rscoreP (.ofString "mate") (itx ((d + 1).fdiv 2)) = some (32000 - d) := by
    rw [rs_win (by rw [fd2]; omega) (by rw [fd2]; omega)]
    congr 1
    rw [fd2]; omega
  have rs := fun τ => rest290 (w := w) (ns := ns) (lv := lv) (σ := τ) (a := .none) (T := .ofString "mate " ++ itx ((d + 1).fdiv 2)) (n := (d + 1).fdiv 2) (b := true) hv hm h2 (by unfold scoreT; rw [hm, if_pos rfl, h2]) (mate_short hn) split_mate (by have := itx_len hn; omega) hr
  conv at rs in (List.drop _ _) => whnf
  apply b290 [.tup [.int ((d + 1).fdiv 2), .bool true], .list [.str (.ofString "mate"), .str (itx ((d + 1).fdiv 2))]]
  rw [show σ ++ [AObj.tup [.int ((d + 1).fdiv 2), .bool true], .list [.str (.ofString "mate"), .str (itx ((d + 1).fdiv 2))]] = σ ++ [.tup [.int ((d + 1).fdiv 2), .bool true]] ++ [.list [.str (.ofString "mate"), .str (itx ((d + 1).fdiv 2))]] by simp]
  conv in (boO _) => whnf
  apply ER.iEn
  · walk_at "tr"
  · rfl
  · apply EX.cons
    · apply ES.swap [.ofString "moves", .ofString "is_mate"]
      · apply EV.tuple
        · walk_at "ar"
        · simp
      · exact at_last
      · rfl
      · kernel_rfl
      · decide +kernel
      · rfl
      · intro _; kernel_rfl
      · intro _; kernel_rfl
    · simp only [List.reverse_cons, List.reverse_nil, List.nil_append, List.cons_append, List.zip_cons_cons, List.zip_nil_left]
      apply EX.iF
      · walk_at "tr"
      · rw [hd]; rfl
      · apply EX.cons
        · walk_at "as"
        · exact EX.nil
  · apply ER.pre
    · exact rs _
    · walk_at "cov"
end
end
section
section
variable {g : G} {lv : Nat} {fd : FD} {μ μ' μ₁ μ₂ : Loc} {σ σ' σ₁ σ₂ σ₃ : List AObj} {r r₀ r₁ r₂ : PV} {rs xs : List PV} {pos pos' px : Pos} {o : Out}
theorem ES.upd {t : Expr} {b : List Stmt} {y : Bool} (h : TR g lv fd t μ σ y σ) (hT : y = true → EX g lv fd b μ σ .next μ' σ) (hF : y = false → Cov μ μ') : ES g lv fd (.If t b [] pos) μ σ .next μ' σ := by
  cases y with
  | true => exact .ifs h (hT rfl)
  | false => exact .ifs h (EX.cov .nil (hF rfl))
theorem ES.tryOk {b : List Stmt} {h₀ : ExceptHandler} {hs : List ExceptHandler} (h : EX g lv fd b μ σ .next μ' σ') : ES g lv fd (.Try b (h₀ :: hs) [] [] pos) μ σ .next μ' σ' := by
  intro c m α s Q E A F M S k
  refine wpAny_Try_except (h c m α s _ _ A F M S fun f m₁ α₁ h₁ tk₁ x₁ i₁ F₁ M₁ S₁ => ?_)
  cases i₁
  exact wpAny_execs_nil (k .next m₁ α₁ h₁ tk₁ x₁ rfl F₁ M₁ S₁)
end
def WORDS : List Str := [.ofString "cp", .ofString "mate", .ofString "Mate", .ofString "mate ", .ofString ""]
abbrev WV : List PV := [.str (.ofString "cp"), .str (.ofString "mate"), .str (.ofString "Mate"), .str (.ofString "mate "), .str (.ofString "")]
def PRE : List Str := [.ofString "", .ofString "-", .ofString "+", .ofString "0", .ofString "", .ofString "", .ofString ""]
abbrev PRV : List PV := [.str (.ofString ""), .str (.ofString "-"), .str (.ofString "+"), .str (.ofString "0"), .str (.ofString ""), .str (.ofString ""), .str (.ofString "")]
@[irreducible] def zeros : Str := Txt.mul (.ofString "0") 5000
theorem zeros_eq : Txt.mul (.ofString "0") 5000 = zeros := by unfold zeros; rfl
def SUF : List Str := [.ofString "", .ofString "", .ofString "", .ofString "", .ofString " ", .ofString "x", zeros]
abbrev SUV : List PV := [.str (.ofString ""), .str (.ofString ""), .str (.ofString ""), .str (.ofString ""), .str (.ofString " "), .str (.ofString "x"), .str zeros]
theorem str_get {l : List Str} {k : Nat} (h : k < l.length) : (l.map PV.str)[k]? = some (.str (l.getD k (.ofString ""))) := by
  rw [List.getElem?_map, List.getD_eq_getElem?_getD, List.getElem?_eq_getElem h]; rfl
theorem word_get {k : Nat} (h : k < 5) : WV[k]? = some (.str (WORDS.getD k (.ofString ""))) := str_get (l := WORDS) h
theorem pre_get' {k : Nat} (h : k < 7) : PRV[k]? = some (.str (PRE.getD k (.ofString ""))) := str_get (l := PRE) h
theorem suf_get {k : Nat} (h : k < 7) : SUV[k]? = some (.str (SUF.getD k (.ofString ""))) := str_get (l := SUF) h
def rdW (x : Int) : Str := WORDS.getD ((x.fmod 10).fmod 5).toNat (.ofString "")
def rdN (x : Int) : Int := if (rdW x == .ofString "cp") = true then (x.fdiv 100).fmod 70001 - 35000 else (x.fdiv 100).fmod 301 - 150
def rdF (x : Int) : Int := (digit x 1).fmod 8
def rdT1 (x : Int) : Str := rdW x ++ .ofString " " ++ PRE.getD ((rdF x).fmod 7).toNat (.ofString "") ++ itx (rdN x)
def rdT2 (x : Int) : Str := rdT1 x ++ SUF.getD ((rdF x).fmod 7).toNat (.ofString "")
def rdT (x : Int) : Str := if rdF x = 7 then rdW x else rdT2 x
def rdM (x : Int) : Int := if rdF x = 1 then -rdN x else rdN x
def rdA (x : Int) (W : Str) (n : Int) : Option Int := if ((W == .ofString "cp") && decide (ab n ≤ 31753)) = true then some n else none
def rdB (x : Int) (W : Str) (n : Int) : Option Int := if ((W == .ofString "mate") && (decide (0 < n) && decide (n ≤ 123))) = true then some (32001 - 2 * n) else rdA x W n
def rdC (x : Int) (W : Str) (n : Int) : Option Int := if ((W == .ofString "mate") && (decide (-123 ≤ n) && decide (n ≤ 0))) = true then some (-32000 - 2 * n) else rdB x W n
def rdR (x : Int) : Option Int := if ((rdF x == 0) || ((rdF x == 1) && decide (rdM x < 0))) = true then rdC x (rdW x) (rdM x) else none
theorem rdF_bd (x : Int) : 0 ≤ rdF x ∧ rdF x < 8 := ⟨Int.fmod_nonneg_of_pos _ (by decide), Int.fmod_lt_of_pos _ (by decide)⟩
theorem f7_bd (a : Int) : 0 ≤ a.fmod 7 ∧ a.fmod 7 < 7 := ⟨Int.fmod_nonneg_of_pos _ (by decide), Int.fmod_lt_of_pos _ (by decide)⟩
theorem k5_bd (a : Int) : 0 ≤ a.fmod 5 ∧ a.fmod 5 < 5 := ⟨Int.fmod_nonneg_of_pos _ (by decide), Int.fmod_lt_of_pos _ (by decide)⟩
theorem rdN_bd (x : Int) : -35000 ≤ rdN x ∧ rdN x ≤ 35000 := by
  unfold rdN
  have h1 : 0 ≤ (x.fdiv 100).fmod 70001 := Int.fmod_nonneg_of_pos _ (by decide)
  have h2 : (x.fdiv 100).fmod 70001 < 70001 := Int.fmod_lt_of_pos _ (by decide)
  have h3 : 0 ≤ (x.fdiv 100).fmod 301 := Int.fmod_nonneg_of_pos _ (by decide)
  have h4 : (x.fdiv 100).fmod 301 < 301 := Int.fmod_lt_of_pos _ (by decide)
  split <;> omega
theorem getD_all {α : Type} {P : α → Prop} {l : List α} {d : α} (h : ∀ a ∈ l, P a) (hd : P d) (k : Nat) : P (l.getD k d) := by
  rw [List.getD_eq_getElem?_getD]
  cases e : l[k]? with
  | none => exact hd
  | some a => exact h a (List.mem_of_getElem? e)
theorem word_len (k : Nat) : (WORDS.getD k (.ofString "")).length ≤ 5 := getD_all (P := fun x : Str => x.length ≤ 5) (by decide +kernel) (by decide +kernel) k
theorem pre_len (k : Nat) : (PRE.getD k (.ofString "")).length ≤ 5 := getD_all (P := fun x : Str => x.length ≤ 5) (by decide +kernel) (by decide +kernel) k
theorem zeros_l : zeros.cps.toList = List.replicate 5000 48 := by
  rw [← zeros_eq]
  unfold Txt.mul
  rw [if_neg (by decide), if_neg (by decide +kernel), s_zero]
  show ((List.replicate 5000 #[48]).foldl (· ++ ·) #[] : Array Nat).toList = _
  have key : ∀ (n : Nat) (a : Array Nat), ((List.replicate n #[48]).foldl (· ++ ·) a).toList = a.toList ++ List.replicate n 48 := fun n => by
    induction n with
    | zero => intro a; simp
    | succ n ih => intro a; rw [List.replicate_succ, List.foldl_cons, ih]; simp [List.replicate_succ]
  rw [key]; rfl
theorem zeros_len : zeros.length = 5000 := by
  have : zeros.cps.toList.length = zeros.length := Array.length_toList
  rw [zeros_l, List.length_replicate] at this
  exact this.symm
theorem suf_len (k : Nat) : (SUF.getD k (.ofString "")).length ≤ 5000 := by
  refine getD_all (P := fun x : Str => x.length ≤ 5000) (fun a ha => ?_) (by decide +kernel) k
  simp only [SUF, List.mem_cons, List.not_mem_nil, or_false] at ha
  rcases ha with rfl | rfl | rfl | rfl | rfl | rfl | rfl
  · decide +kernel
  · decide +kernel
  · decide +kernel
  · decide +kernel
  · decide +kernel
  · decide +kernel
  · rw [zeros_len]; exact Nat.le_refl _
end
section
section
variable {w : World} {ns : List Int} {lv : Nat} {σ τ : List AObj} {x v : Int} {i : Nat}
local macro_rules | `(tactic| walk_at "cl") => `(tactic| first | exact CL.abs | exact CX.cl (r_digit (i := 1) (by decide)) | exact CL.strI (log2_small (by assumption)))
local macro_rules | `(tactic| walk_at "op2") => `(tactic| first | exact OP2.mul (IntMulOk.of_left (by decide)))
local macro_rules | `(tactic| walk_at "as") => `(tactic| (apply ES.assign; (walk_at "ev"); rfl; kernel_rfl; kernel_rfl; (intro _; kernel_rfl)))
noncomputable abbrev fd318 : FD := fdO (stm 38) (.ofString "_law_reads") 318 317
theorem as_cast {g : G} {fd : FD} {μ : Loc} {σ σ' : List AObj} {y : Str} {e : Expr} {pos pos' : Pos} {r r₀ : PV} (h : ES g lv fd (.Assign [.Name y pos'] e pos) μ σ .next ((y, r) :: μ) σ') (hr : r = r₀) : ES g lv fd (.Assign [.Name y pos'] e pos) μ σ .next ((y, r₀) :: μ) σ' := by subst hr; exact h
theorem reads_pre (hb : ∀ τ, TRX (gg w ns) (lv + 6) fd318 true ((boO (stm 38)).drop 10) [(.ofString "right", ofOpt (rdR x)), (.ofString "text", .str (rdT x))] (σ ++ τ)) : TRX (gg w ns) (lv + 6) fd318 true (boO (stm 38)) [(.ofString "x", .int x)] σ := by
  have hN := rdN_bd x
  have hN' : (rdN x).natAbs < 2 ^ 64 := by omega
  have hF := rdF_bd x
  have hF7 := f7_bd (rdF x)
  have hW := word_len ((x.fmod 10).fmod 5).toNat
  have hP := pre_len ((rdF x).fmod 7).toNat
  have hS := suf_len ((rdF x).fmod 7).toNat
  have hk := k5_bd (x.fmod 10)
  have hi := itx_len hN'
  have l1 : (Str.ofString " ").length = 1 := by kernel_rfl
  conv at hb in (List.drop _ _) => whnf
  conv in (boO _) => whnf
  -- word
  apply TRX.cons (μ₁ := (.ofString "word", .str (rdW x)) :: [(.ofString "x", .int x)]) (σ₁ := σ ++ [.list WV])
  · apply ES.assign
    · with_reducible apply EV.sub
      · apply EV.list
        · walk_at "ar"
        · decide
      · walk_at "ev"
      · exact OP2.item at_last hk.1 (word_get (by omega)) (by decide) (by intro _ _; kernel_rfl)
    · rfl
    · kernel_rfl
    · kernel_rfl
    · intro _; kernel_rfl
  -- number
  apply TRX.cons
  · walk_at "as"
  apply TRX.cons (μ₁ := (.ofString "number", .int (rdN x)) :: (.ofString "word", .str (rdW x)) :: [(.ofString "x", .int x)]) (σ₁ := σ ++ [.list WV])
  · apply ES.upd
    · walk_at "tr"
    · intro h
      apply EX.cov
      · apply EX.cons
        · walk_at "as"
        · exact EX.nil
      · unfold rdN
        rw [if_pos h]
        walk_at "cov"
    · intro h
      unfold rdN
      rw [if_neg (by rw [h]; simp)]
      walk_at "cov"
  -- form
  apply TRX.cons (μ₁ := (.ofString "form", .int (rdF x)) :: (.ofString "number", .int (rdN x)) :: (.ofString "word", .str (rdW x)) :: [(.ofString "x", .int x)]) (σ₁ := σ ++ [.list WV])
  · apply ES.assign
    · apply EV.to
      · walk_at "ev"
      · rfl
    · rfl
    · kernel_rfl
    · kernel_rfl
    · intro _; kernel_rfl
  -- text
  apply TRX.cons (μ₁ := (.ofString "text", .str (rdT1 x)) :: (.ofString "form", .int (rdF x)) :: (.ofString "number", .int (rdN x)) :: (.ofString "word", .str (rdW x)) :: [(.ofString "x", .int x)]) (σ₁ := σ ++ [.list WV] ++ [.list PRV])
  · apply ES.assign
    · with_reducible apply EV.bin
      · with_reducible apply EV.bin
        · with_reducible apply EV.bin
          · walk_at "ev"
          · walk_at "ev"
          · exact OP2.addS (by unfold rdW; omega)
        · with_reducible apply EV.sub
          · apply EV.list
            · walk_at "ar"
            · decide
          · walk_at "ev"
          · exact OP2.item at_last hF7.1 (pre_get' (by omega)) (by decide) (by intro _ _; kernel_rfl)
        · exact OP2.addS (by rw [str_len_app]; unfold rdW; omega)
      · walk_at "ev"
      · exact OP2.addS (by rw [str_len_app, str_len_app]; unfold rdW; omega)
    · rfl
    · kernel_rfl
    · kernel_rfl
    · intro _; kernel_rfl
  refine TRX.cons (μ₁ := (.ofString "text", .str (rdT2 x)) :: (.ofString "text", .str (rdT1 x)) :: (.ofString "form", .int (rdF x)) :: (.ofString "number", .int (rdN x)) :: (.ofString "word", .str (rdW x)) :: [(.ofString "x", .int x)]) (σ₁ := σ ++ [.list WV] ++ [.list PRV] ++ [.list SUV]) (ES.aug (r₀ := .str (rdT1 x)) (r₁ := .str (SUF.getD ((rdF x).fmod 7).toNat (.ofString ""))) (by walk_at "lk") ?hs (OP2.iaddS (by unfold rdT1; rw [str_len_app, str_len_app, str_len_app]; unfold rdW; omega)) rfl (by kernel_rfl) (by kernel_rfl)) ?rest
  case hs =>
    refine EV.sub (r₁ := PV.ref (σ ++ [AObj.list WV] ++ [AObj.list PRV]).length) (r₂ := .int ((rdF x).fmod 7)) (σ₁ := σ ++ [.list WV] ++ [.list PRV] ++ [.list SUV]) (EV.list (rs := SUV) ?hl (by decide)) (by walk_at "ev") (OP2.item at_last hF7.1 (suf_get (by omega)) (by decide) (by intro _ _; kernel_rfl))
    case hl =>
      exact AR.cons EV.text (AR.cons EV.text (AR.cons EV.text (AR.cons EV.text (AR.cons EV.text (AR.cons EV.text (AR.cons (EV.to (EV.bin EV.text EV.num (OP2.mulS (by decide +kernel) (by decide) (by decide))) (congrArg PV.str zeros_eq)) AR.nil (by intro _; kernel_rfl)) (by intro _; kernel_rfl)) (by intro _; kernel_rfl)) (by intro _; kernel_rfl)) (by intro _; kernel_rfl)) (by intro _; kernel_rfl)) (by intro _; kernel_rfl)
  apply TRX.cons (μ₁ := (.ofString "text", .str (rdT x)) :: (.ofString "form", .int (rdF x)) :: (.ofString "number", .int (rdN x)) :: [(.ofString "word", .str (rdW x))]) (σ₁ := σ ++ [.list WV] ++ [.list PRV] ++ [.list SUV])
  · apply ES.upd
    · walk_at "tr"
    · intro h
      apply EX.cov
      · apply EX.cons
        · walk_at "as"
        · exact EX.nil
      · unfold rdT
        rw [if_pos (by simpa using h)]
        walk_at "cov"
    · intro h
      unfold rdT
      rw [if_neg (by simpa using h)]
      walk_at "cov"
  -- right
  apply TRX.cons
  · walk_at "as"
  apply TRX.cons (μ₁ := (.ofString "number", .int (rdM x)) :: (.ofString "right", .none) :: (.ofString "text", .str (rdT x)) :: (.ofString "form", .int (rdF x)) :: [(.ofString "word", .str (rdW x))]) (σ₁ := σ ++ [.list WV] ++ [.list PRV] ++ [.list SUV])
  · apply ES.upd
    · walk_at "tr"
    · intro h
      apply EX.cov
      · apply EX.cons
        · walk_at "as"
        · exact EX.nil
      · unfold rdM
        rw [if_pos (by simpa using h)]
        walk_at "cov"
    · intro h
      unfold rdM
      rw [if_neg (by simpa using h)]
      walk_at "cov"
  apply TRX.cons (μ₁ := (.ofString "right", ofOpt (rdR x)) :: [(.ofString "text", .str (rdT x))]) (σ₁ := σ ++ [.list WV] ++ [.list PRV] ++ [.list SUV])
  · apply ES.upd
    · walk_at "tr"
    · intro h
      have h' : ((rdF x == 0) || ((rdF x == 1) && decide (rdM x < 0))) = true := by simpa using h
      unfold rdR
      rw [if_pos h']
      apply EX.cons (μ₁ := (.ofString "right", ofOpt (rdA x (rdW x) (rdM x))) :: (.ofString "number", .int (rdM x)) :: (.ofString "text", .str (rdT x)) :: [(.ofString "word", .str (rdW x))]) (σ₁ := σ ++ [.list WV] ++ [.list PRV] ++ [.list SUV])
      · apply ES.upd
        · walk_at "tr"
        · intro h
          apply EX.cov
          · apply EX.cons
            · walk_at "as"
            · exact EX.nil
          · unfold rdA
            rw [if_pos (by rw [Bool.and_true] at h; exact h)]
            walk_at "cov"
        · intro h
          unfold rdA
          rw [if_neg (by rw [Bool.and_true] at h; rw [Bool.not_eq_true]; exact h)]
          walk_at "cov"
      apply EX.cons (μ₁ := (.ofString "right", ofOpt (rdB x (rdW x) (rdM x))) :: (.ofString "number", .int (rdM x)) :: (.ofString "text", .str (rdT x)) :: [(.ofString "word", .str (rdW x))]) (σ₁ := σ ++ [.list WV] ++ [.list PRV] ++ [.list SUV])
      · apply ES.upd
        · walk_at "tr"
        · intro h
          apply EX.cov
          · apply EX.cons
            · walk_at "as"
            · exact EX.nil
          · unfold rdB
            rw [if_pos (by simpa using h)]
            walk_at "cov"
        · intro h
          unfold rdB
          rw [if_neg (by simpa using h)]
          walk_at "cov"
      apply EX.cons (μ₁ := (.ofString "right", ofOpt (rdC x (rdW x) (rdM x))) :: [(.ofString "text", .str (rdT x))]) (σ₁ := σ ++ [.list WV] ++ [.list PRV] ++ [.list SUV])
      · apply ES.upd
        · walk_at "tr"
        · intro h
          apply EX.cov
          · apply EX.cons
            · walk_at "as"
            · exact EX.nil
          · unfold rdC
            rw [if_pos (by simpa using h)]
            walk_at "cov"
        · intro h
          unfold rdC
          rw [if_neg (by simpa using h)]
          walk_at "cov"
      · exact EX.nil
    · intro h
      have h' : ¬ ((rdF x == 0) || ((rdF x == 1) && decide (rdM x < 0))) = true := by simpa using h
      unfold rdR
      rw [if_neg h']
      walk_at "cov"
  rw [show σ ++ [AObj.list WV] ++ [.list PRV] ++ [.list SUV] = σ ++ [.list WV, .list PRV, .list SUV] by simp]
  exact hb _
end
end
section
/-! reads: the plain law -/
theorem rdF7 {x : Int} (h : rdF x ≠ 7) : ((rdF x).fmod 7).toNat = (rdF x).toNat := by
  have := rdF_bd x
  rw [Int.fmod_eq_emod_of_nonneg _ (by decide)]
  omega
theorem five_cases {P : Str → Prop} (k : Nat) (h : k < 5) (h0 : P (.ofString "cp")) (h1 : P (.ofString "mate")) (h2 : P (.ofString "Mate")) (h3 : P (.ofString "mate ")) (h4 : P (.ofString "")) : P (WORDS.getD k (.ofString "")) := by
  match k, h with
  | 0, _ => exact h0
  | 1, _ => exact h1
  | 2, _ => exact h2
  | 3, _ => exact h3
  | 4, _ => exact h4
theorem rdW_cases {P : Str → Prop} (x : Int) (h0 : P (.ofString "cp")) (h1 : P (.ofString "mate")) (h2 : P (.ofString "Mate")) (h3 : P (.ofString "mate ")) (h4 : P (.ofString "")) : P (rdW x) := by
  have := k5_bd (x.fmod 10)
  exact five_cases _ (by omega) h0 h1 h2 h3 h4
/-- how a text that is told reads -/
inductive Reads2 (T : Str) : Option Int → Prop
  | good {p q : Str} {r : Int} (hs : Txt.split T (.ofString " ") = [p, q]) (hq : q.length ≤ 16777216) (hr : rscoreP p q = some r) (hb : r.natAbs < 2 ^ 64) (ht : scoreT r = T) : Reads2 T (some r)
  | bad1 (h : (Txt.split T (.ofString " ")).length ≠ 2) : Reads2 T none
  | bad2 {p q : Str} (hs : Txt.split T (.ofString " ") = [p, q]) (hq : q.length ≤ 16777216) (hr : rscoreP p q = none) : Reads2 T none
theorem rs_none {p q : Str} (h : rcount q = none) : rscoreP p q = none := by unfold rscoreP; rw [h]
theorem rs_word {p q : Str} (h1 : (p == .ofString "cp") = false) (h2 : (p == .ofString "mate") = false) : rscoreP p q = none := by
  unfold rscoreP
  split
  · rfl
  · rw [h1, h2]; simp
theorem cnt_free {l : List Nat} (h : 32 ∉ l) : cnt 32 l = 0 := cnt_none 32 l h
theorem bad_num {W B : Str} (hW : 32 ∉ W.cps.toList) (hB : 32 ∉ B.cps.toList) (hl : B.length ≤ 16777216) (h : rcL B.cps.toList = none) : Reads2 (W ++ .ofString " " ++ B) none :=
  .bad2 (split_two hW hB) hl (rs_none (by rw [rcount_eq, h]))
theorem app_assoc4 (a b c d : Str) : a ++ b ++ c ++ d = a ++ b ++ (c ++ d) := str_inj (by simp [app_l])
theorem itx_cases (n : Int) : (∃ m : Nat, n = (m : Int) ∧ (itx n).cps.toList = digs m) ∨ (∃ m : Nat, 0 < m ∧ n = -(m : Int) ∧ (itx n).cps.toList = 45 :: digs m) := by
  rcases Int.lt_or_le n 0 with q | q
  · obtain ⟨m, rfl⟩ : ∃ m : Nat, n = -(m : Int) := ⟨n.natAbs, by omega⟩
    exact .inr ⟨m, by omega, rfl, itx_neg m (by omega)⟩
  · obtain ⟨m, rfl⟩ : ∃ m : Nat, n = (m : Int) := ⟨n.natAbs, by omega⟩
    exact .inl ⟨m, rfl, itx_nat m⟩
theorem l_minus : (Str.ofString "-").cps.toList = [45] := by rw [s_minus]
theorem l_plus : (Str.ofString "+").cps.toList = [43] := by decide +kernel
theorem l_zero : (Str.ofString "0").cps.toList = [48] := by rw [s_zero]
theorem l_nil : (Str.ofString "").cps.toList = [] := by rw [s_nil]
theorem l_space : (Str.ofString " ").cps.toList = [32] := by rw [s_space]
theorem l_x : (Str.ofString "x").cps.toList = [120] := by decide +kernel
theorem nil_app (x : Str) : Str.ofString "" ++ x = x := str_inj (by rw [app_l, l_nil]; rfl)
theorem app_nil (x : Str) : x ++ Str.ofString "" = x := str_inj (by rw [app_l, l_nil]; simp)
theorem digs_free {m : Nat} {c : Nat} (h : ¬ (48 ≤ c ∧ c ≤ 57)) : c ∉ digs m := fun q => h (digs_digit m c q)
/-- the number's text, by its form: '-' ahead -/
theorem bad_minus {n : Int} (h : n ≤ 0) : rcL ((Str.ofString "-" ++ itx n).cps.toList) = none := by
  rw [app_l, l_minus]
  rcases itx_cases n with ⟨m, rfl, e⟩ | ⟨m, hm, rfl, e⟩
  · have : m = 0 := by omega
    subst this
    rw [e, digs_zero]; exact rcL_mzero
  · rw [e]
    exact rcL_bad ⟨45, by simp, by decide⟩
theorem good_minus {n : Int} (h : 0 < n) : Str.ofString "-" ++ itx n = itx (-n) := by
  apply str_inj
  rw [app_l, l_minus]
  obtain ⟨m, rfl⟩ : ∃ m : Nat, n = (m : Int) := ⟨n.natAbs, by omega⟩
  rw [itx_nat, itx_neg m (by omega)]; rfl
theorem bad_plus {n : Int} : rcL ((Str.ofString "+" ++ itx n).cps.toList) = none := by
  rw [app_l, l_plus]
  exact rcL_bad0 (by decide) (by decide)
theorem bad_zero {n : Int} : rcL ((Str.ofString "0" ++ itx n).cps.toList) = none := by
  rw [app_l, l_zero]
  refine rcL_zero fun e => ?_
  rcases itx_cases n with ⟨m, _, q⟩ | ⟨m, _, _, q⟩ <;> rw [q] at e
  · exact digs_ne m e
  · cases e
theorem bad_x {n : Int} : rcL ((itx n ++ Str.ofString "x").cps.toList) = none := by
  rw [app_l, l_x]
  rcases itx_cases n with ⟨m, _, q⟩ | ⟨m, _, _, q⟩ <;> rw [q]
  · cases h : digs m with
    | nil => exact absurd h (digs_ne m)
    | cons c r => exact rcL_bad ⟨120, by simp, by decide⟩
  · exact rcL_bad ⟨120, by simp, by decide⟩
theorem bad_long {n : Int} : rcL ((itx n ++ zeros).cps.toList) = none := by
  apply rcL_long
  rw [app_l, List.length_append, zeros_l, List.length_replicate]; omega
theorem rdC_word {x n : Int} {W : Str} (h1 : (W == .ofString "cp") = false) (h2 : (W == .ofString "mate") = false) : rdC x W n = none := by
  unfold rdC rdB rdA
  rw [h1, h2]; rfl
theorem cp_mate : (Str.ofString "cp" == Str.ofString "mate") = false := by kernel_rfl
theorem cp_self : (Str.ofString "cp" == Str.ofString "cp") = true := by kernel_rfl
theorem mate_self : (Str.ofString "mate" == Str.ofString "mate") = true := by kernel_rfl
theorem itx_fit {n : Int} (h : n.natAbs < 100000) : (itx n).length ≤ 16777216 := by
  have := @itx_len n (by omega); omega
theorem ab_le {n : Int} : ab n ≤ 31753 ↔ n.natAbs ≤ 31753 := by rw [ab_nat]; omega
theorem reads_cp {x n : Int} (h : n.natAbs < 100000) : Reads2 (.ofString "cp" ++ .ofString " " ++ itx n) (rdC x (.ofString "cp") n) := by
  have hs := split_two (a := .ofString "cp") (b := itx n) cp_free (itx_free n)
  have e : rdC x (.ofString "cp") n = if n.natAbs ≤ 31753 then some n else none := by
    unfold rdC rdB rdA
    rw [cp_mate, cp_self]
    simp only [Bool.false_and, Bool.true_and, Bool.false_eq_true, if_false, decide_eq_true_eq, ab_le]
  rw [e]
  split
  · rename_i q
    have h0 : mateS n = false := by rw [Bool.eq_false_iff]; intro h; have := mateS_iff.mp h; omega
    exact .good hs (itx_fit h) (rs_cp (by omega) (by omega)) (by omega) (by unfold scoreT; rw [h0, cp_cut]; rfl)
  · rename_i q
    refine .bad2 hs (itx_fit h) ?_
    unfold rscoreP
    rw [rcount_itx h]
    dsimp only
    rw [cp_self, cp_mate, if_neg (by simp; omega), if_neg (by simp)]
theorem reads_mate {x n : Int} (h : n.natAbs < 100000) : Reads2 (.ofString "mate" ++ .ofString " " ++ itx n) (rdC x (.ofString "mate") n) := by
  have hs := split_two (a := .ofString "mate") (b := itx n) mate_free (itx_free n)
  have e : rdC x (.ofString "mate") n = if -123 ≤ n ∧ n ≤ 0 then some (-32000 - 2 * n) else if 0 < n ∧ n ≤ 123 then some (32001 - 2 * n) else none := by
    unfold rdC rdB rdA
    rw [mate_self, mate_cp]
    simp only [Bool.false_and, Bool.true_and, Bool.false_eq_true, if_false, Bool.and_eq_true, decide_eq_true_eq]
  rw [e]
  split
  · rename_i q
    have hm : mateS (-32000 - 2 * n) = true := mateS_iff.mpr (by omega)
    refine .good hs (itx_fit h) (by rw [rs_lost q.2 (by omega)]; congr 1; omega) (by omega) ?_
    unfold scoreT mtm
    rw [hm, if_pos rfl, if_pos rfl, if_neg (by omega), fd2, mate_cut]
    congr 2
    omega
  · split
    · rename_i q1 q
      have hm : mateS (32001 - 2 * n) = true := mateS_iff.mpr (by omega)
      refine .good hs (itx_fit h) (by rw [rs_win q.1 (by omega)]; congr 1; omega) (by omega) ?_
      unfold scoreT mtm
      rw [hm, if_pos rfl, if_pos rfl, if_pos (by omega), fd2, mate_cut]
      congr 2
      omega
    · rename_i q1 q2
      refine .bad2 hs (itx_fit h) ?_
      unfold rscoreP
      rw [rcount_itx h]
      dsimp only
      rw [mate_cp, mate_self, if_neg (by simp), if_pos rfl, if_neg (by simp; omega), if_neg (by simp; omega)]
theorem Mate_ne : (Str.ofString "Mate" == Str.ofString "cp") = false ∧ (Str.ofString "Mate" == Str.ofString "mate") = false := ⟨by kernel_rfl, by kernel_rfl⟩
theorem mates_ne : (Str.ofString "mate " == Str.ofString "cp") = false ∧ (Str.ofString "mate " == Str.ofString "mate") = false := ⟨by kernel_rfl, by kernel_rfl⟩
theorem nil_ne : (Str.ofString "" == Str.ofString "cp") = false ∧ (Str.ofString "" == Str.ofString "mate") = false := ⟨by kernel_rfl, by kernel_rfl⟩
theorem reads_word {x n : Int} {W : Str} (hW : 32 ∉ W.cps.toList) (h1 : (W == .ofString "cp") = false ∧ (W == .ofString "mate") = false) (h : n.natAbs < 100000) : Reads2 (W ++ .ofString " " ++ itx n) (rdC x W n) := by
  rw [rdC_word h1.1 h1.2]
  exact .bad2 (split_two hW (itx_free n)) (itx_fit h) (rs_word h1.1 h1.2)
theorem Mate_free : 32 ∉ (Str.ofString "Mate").cps.toList := by decide +kernel
theorem nil_free : 32 ∉ (Str.ofString "").cps.toList := by decide +kernel
/-- a word with a sign ' ' of its own: three parts or more -/
theorem reads_two {B : Str} : Reads2 (.ofString "mate " ++ .ofString " " ++ B) none := by
  refine .bad1 (split_not2 ?_)
  rw [app_l, app_l, cnt_append, cnt_append]
  have e : cnt 32 (Str.ofString "mate ").cps.toList = 1 := by decide +kernel
  have e2 : cnt 32 (Str.ofString " ").cps.toList = 1 := by decide +kernel
  have : 0 ≤ cnt 32 B.cps.toList := by
    generalize B.cps.toList = l
    induction l with
    | nil => exact Int.le_refl _
    | cons a l ih => rw [cnt_cons]; split <;> omega
  omega
/-- every word -/
theorem reads_core {x n : Int} {W : Str} (hW : W ∈ WORDS) (h : n.natAbs < 100000) : Reads2 (W ++ .ofString " " ++ itx n) (rdC x W n) := by
  simp only [WORDS, List.mem_cons, List.not_mem_nil, or_false] at hW
  rcases hW with rfl | rfl | rfl | rfl | rfl
  · exact reads_cp h
  · exact reads_mate h
  · exact reads_word Mate_free Mate_ne h
  · rw [rdC_word mates_ne.1 mates_ne.2]; exact reads_two
  · exact reads_word nil_free nil_ne h
theorem reads_bad {W B : Str} (hW : W ∈ WORDS) (hB : 32 ∉ B.cps.toList) (hl : B.length ≤ 16777216) (h : rcL B.cps.toList = none) : Reads2 (W ++ .ofString " " ++ B) none := by
  simp only [WORDS, List.mem_cons, List.not_mem_nil, or_false] at hW
  rcases hW with rfl | rfl | rfl | rfl | rfl
  · exact bad_num cp_free hB hl h
  · exact bad_num mate_free hB hl h
  · exact bad_num Mate_free hB hl h
  · exact reads_two
  · exact bad_num nil_free hB hl h
theorem reads_sp {W : Str} {n : Int} (hW : W ∈ WORDS) : Reads2 (W ++ .ofString " " ++ (itx n ++ .ofString " ")) none := by
  have e2 : cnt 32 (Str.ofString " ").cps.toList = 1 := by decide +kernel
  have hn := cnt_free (itx_free n)
  have key : ∀ W : Str, 32 ∉ W.cps.toList → Reads2 (W ++ .ofString " " ++ (itx n ++ .ofString " ")) none := fun W h => by
    refine .bad1 (split_not2 ?_)
    rw [app_l, app_l, app_l, cnt_append, cnt_append, cnt_append, cnt_free h, hn, e2]; decide
  simp only [WORDS, List.mem_cons, List.not_mem_nil, or_false] at hW
  rcases hW with rfl | rfl | rfl | rfl | rfl
  · exact key _ cp_free
  · exact key _ mate_free
  · exact key _ Mate_free
  · exact reads_two
  · exact key _ nil_free
theorem reads_alone {W : Str} (hW : W ∈ WORDS) : Reads2 W none := by
  have key : ∀ W : Str, 32 ∉ W.cps.toList → Reads2 W none := fun W h => .bad1 (split_not2 (by rw [cnt_free h]; decide))
  simp only [WORDS, List.mem_cons, List.not_mem_nil, or_false] at hW
  rcases hW with rfl | rfl | rfl | rfl | rfl
  · exact key _ cp_free
  · exact key _ mate_free
  · exact key _ Mate_free
  · rw [mate_cut, ← app_nil (Str.ofString "mate" ++ Str.ofString " ")]
    exact bad_num mate_free nil_free (by decide +kernel) (by rw [l_nil]; rfl)
  · exact key _ nil_free
theorem rdW_mem (x : Int) : rdW x ∈ WORDS := rdW_cases (P := fun W => W ∈ WORDS) x (by simp [WORDS]) (by simp [WORDS]) (by simp [WORDS]) (by simp [WORDS]) (by simp [WORDS])
theorem reads_law (x : Int) : Reads2 (rdT x) (rdR x) := by
  have hW := rdW_mem x
  have hN := rdN_bd x
  have hF := rdF_bd x
  have hn : (rdN x).natAbs < 100000 := by omega
  have hi := @itx_len (rdN x) (by omega)
  by_cases h7 : rdF x = 7
  · have e : rdR x = none := by unfold rdR; rw [h7]; rfl
    rw [e, rdT, if_pos h7]
    exact reads_alone hW
  · rw [rdT, if_neg h7, rdT2, rdT1, rdF7 h7]
    obtain ⟨f, hf⟩ : ∃ f : Nat, rdF x = (f : Int) := ⟨(rdF x).toNat, by omega⟩
    have none_of : 2 ≤ f → rdR x = none := fun h2 => by
      unfold rdR
      rw [hf, if_neg]
      simp only [Bool.or_eq_true, beq_iff_eq, Bool.and_eq_true, decide_eq_true_eq]
      omega
    have hlen : ∀ a b : Str, a.length ≤ 5 → b.length ≤ 5000 → (a ++ (itx (rdN x) ++ b)).length ≤ 16777216 := fun a b ha hb => by rw [str_len_app, str_len_app]; omega
    rw [show (rdF x).toNat = f by omega, app_assoc4 (rdW x) (.ofString " ")]
    rw [show ∀ p q r : Str, rdW x ++ Str.ofString " " ++ (p ++ q) ++ r = rdW x ++ Str.ofString " " ++ (p ++ (q ++ r)) from fun p q r => str_inj (by simp [app_l])]
    have h8 : f < 7 := by omega
    match f, h8 with
    | 0, _ =>
      show Reads2 (rdW x ++ Str.ofString " " ++ (Str.ofString "" ++ (itx (rdN x) ++ Str.ofString ""))) _
      rw [nil_app, app_nil]
      have e : rdR x = rdC x (rdW x) (rdN x) := by
        have hm : rdM x = rdN x := by unfold rdM; rw [hf]; rfl
        unfold rdR; rw [hf, hm]; rfl
      rw [e]
      exact reads_core hW hn
    | 1, _ =>
      show Reads2 (rdW x ++ Str.ofString " " ++ (Str.ofString "-" ++ (itx (rdN x) ++ Str.ofString ""))) _
      rw [app_nil]
      have hm : rdM x = -rdN x := by unfold rdM; rw [hf]; rfl
      by_cases q : 0 < rdN x
      · have e : rdR x = rdC x (rdW x) (-rdN x) := by
          unfold rdR; rw [hf, hm, if_pos]
          simp; omega
        rw [e, good_minus q]
        exact reads_core hW (by omega)
      · have e : rdR x = none := by
          unfold rdR; rw [hf, hm, if_neg]
          simp; omega
        rw [e]
        refine reads_bad hW ?_ ?_ (bad_minus (by omega))
        · rw [app_l, l_minus]; exact fun h => (List.mem_append.mp h).elim (by decide) (itx_free _)
        · have := hlen (.ofString "-") (.ofString "") (by decide +kernel) (by decide +kernel); rwa [app_nil] at this
    | 2, _ =>
      show Reads2 (rdW x ++ Str.ofString " " ++ (Str.ofString "+" ++ (itx (rdN x) ++ Str.ofString ""))) _
      rw [app_nil, none_of (by decide)]
      refine reads_bad hW ?_ ?_ bad_plus
      · rw [app_l, l_plus]; exact fun h => (List.mem_append.mp h).elim (by decide) (itx_free _)
      · have := hlen (.ofString "+") (.ofString "") (by decide +kernel) (by decide +kernel); rwa [app_nil] at this
    | 3, _ =>
      show Reads2 (rdW x ++ Str.ofString " " ++ (Str.ofString "0" ++ (itx (rdN x) ++ Str.ofString ""))) _
      rw [app_nil, none_of (by decide)]
      refine reads_bad hW ?_ ?_ bad_zero
      · rw [app_l, l_zero]; exact fun h => (List.mem_append.mp h).elim (by decide) (itx_free _)
      · have := hlen (.ofString "0") (.ofString "") (by decide +kernel) (by decide +kernel); rwa [app_nil] at this
    | 4, _ =>
      show Reads2 (rdW x ++ Str.ofString " " ++ (Str.ofString "" ++ (itx (rdN x) ++ Str.ofString " "))) _
      rw [nil_app, none_of (by decide)]
      exact reads_sp hW
    | 5, _ =>
      show Reads2 (rdW x ++ Str.ofString " " ++ (Str.ofString "" ++ (itx (rdN x) ++ Str.ofString "x"))) _
      rw [none_of (by decide)]
      have hl := hlen (.ofString "") (.ofString "x") (by decide +kernel) (by decide +kernel)
      rw [nil_app] at hl ⊢
      refine reads_bad hW ?_ hl bad_x
      rw [app_l, l_x]; exact fun h => (List.mem_append.mp h).elim (itx_free _) (by decide)
    | 6, _ =>
      show Reads2 (rdW x ++ Str.ofString " " ++ (Str.ofString "" ++ (itx (rdN x) ++ zeros))) _
      rw [none_of (by decide)]
      have hl := hlen (.ofString "") zeros (by decide +kernel) (by rw [zeros_len]; exact Nat.le_refl _)
      rw [nil_app] at hl ⊢
      refine reads_bad hW ?_ hl bad_long
      rw [app_l, zeros_l]; exact fun h => (List.mem_append.mp h).elim (itx_free _) (fun q => absurd (List.eq_of_mem_replicate q) (by decide))
end
section
section
variable {w : World} {ns : List Int} {lv : Nat} {σ τ : List AObj} {x v : Int} {i : Nat}
local macro_rules | `(tactic| walk_at "cl") => `(tactic| first | exact CX.cl (r_scoreT (by assumption)) | exact CX.cl (r_score (by assumption) (by assumption) (by assumption) (by assumption)))
theorem reads_try {T : Str} {R : Option Int} (h : Reads2 T R) (hT : T.length ≤ 100000) : TRX (gg w ns) (lv + 6) fd318 true ((boO (stm 38)).drop 10) [(.ofString "right", ofOpt R), (.ofString "text", .str T)] σ := by
  cases h with
  | @good p q r hs hq hr hb ht =>
    conv in (List.drop _ _) => whnf
    have key : ER (gg w ns) (lv + 6) fd318 ((boO (stm 38)).drop 10) [(.ofString "right", .int r), (.ofString "text", .str T)] σ (.bool true) (σ ++ [.list [.str p, .str q]]) := by
      conv in (List.drop _ _) => whnf
      apply ER.cons
      · apply ES.tryOk
        apply EX.cons
        · apply ES.assign
          · walk_at "ev"
          · rfl
          · kernel_rfl
          · kernel_rfl
          · intro _; kernel_rfl
        · exact EX.nil
      apply ER.re
      · apply EV.and_
        · walk_at "ev"
        · exact TV.bool
        · intro _
          walk_at "ev"
        · intro h
          simp at h
      · rw [ht]; simp
    obtain ⟨_, key⟩ := key
    exact TRX.of key
  | bad1 hl =>
    conv in (List.drop _ _) => whnf
    refine TRX.try_ (C := 63) (rs := [.str T]) (σ₁ := σ) (r := .none) (fv := .ref 135) ?_ ?_ (x_score_a hT hl) (KP.fn (by kernel_rfl)) (by kernel_rfl) rfl (by intro _; kernel_rfl) (by intro _; kernel_rfl) ?_ (.inl ⟨rfl, rfl⟩) (by kernel_rfl) (by kernel_rfl) (g_BadCommand _) (by kernel_rfl) (by kernel_rfl) (by kernel_rfl) (by kernel_rfl)
    · walk_at "ev"
    · walk_at "ar"
    · walk_at "lk"
  | @bad2 p q hs hq hr =>
    conv in (List.drop _ _) => whnf
    refine TRX.try_ (C := 63) (rs := [.str T]) (σ₁ := σ) (r := .none) (fv := .ref 135) ?_ ?_ (x_score_b hT hs hq hr) (KP.fn (by kernel_rfl)) (by kernel_rfl) rfl (by intro _; kernel_rfl) (by intro _; kernel_rfl) ?_ (.inl ⟨rfl, rfl⟩) (by kernel_rfl) (by kernel_rfl) (g_BadCommand _) (by kernel_rfl) (by kernel_rfl) (by kernel_rfl) (by kernel_rfl)
    · walk_at "ev"
    · walk_at "ar"
    · walk_at "lk"
theorem rdT_len (x : Int) : (rdT x).length ≤ 100000 := by
  have hN := rdN_bd x
  have hW := word_len ((x.fmod 10).fmod 5).toNat
  have hP := pre_len ((rdF x).fmod 7).toNat
  have hS := suf_len ((rdF x).fmod 7).toNat
  have hi := @itx_len (rdN x) (by omega)
  have l1 : (Str.ofString " ").length = 1 := by kernel_rfl
  unfold rdT
  split
  · unfold rdW; omega
  · unfold rdT2 rdT1
    rw [str_len_app, str_len_app, str_len_app, str_len_app]
    unfold rdW
    omega
theorem reads_trx : TRX (gg w ns) (lv + 6) fd318 true (boO (stm 38)) [(.ofString "x", .int x)] σ := reads_pre fun _ => reads_try (reads_law x) (rdT_len x)
end
end
section
section
variable {g : G} {lv : Nat} {fd : FD} {μ μ' μ₁ μ₂ : Loc} {σ σ' σ₁ σ₂ σ₃ : List AObj} {r r₀ r₁ r₂ : PV} {rs xs : List PV} {pos pos' px : Pos} {o : Out}
noncomputable def fdC (s : Option Stmt) (qual : Str) (f cd : Nat) (cx : List (Str × Nat)) : FD := ⟨qual, scO s, f, .ref cd, cx, none⟩
theorem CX.frC {s : Option Stmt} {qual md : Str} {mt cd f : Nat} {cx : List (Str × Nat)} {σ₀ : List AObj} (pn cn : List Str) (ks : List Nat) (hK : g.K.lookup f = some (fO s qual md mt cd)) (hcd : codeIn g.K (.ref cd) qual = true)
    (hb : ∀ vs : List Value, vs.length = pn.length → bindArgs (fnOf (nmO s) qual (arO s) (boO s) (scO s) .none .none .none (.str md mt) none (.ref cd) .none) ⟨vs, []⟩ = pure (pn.zip vs))
    (hs : ((pn.all fun x => (scO s).names.lookup x == some .local) && !(scO s).isCoroutine && !(scO s).isGenerator && (scO s).kind == .function) = true)
    (hcf : ∀ n, cellsFrom n (scO s).names [] = cn.zip (ks.map (n + ·))) (hkl : ks.length = cn.length) (hkn : ks.Nodup) (hnd : cn.Nodup) (hn : rs.length = pn.length)
    (e1 : cn.zipIdx σ.length = cx) (e2 : σ ++ noCells cn = σ₀) (h : ER g lv (fdC s qual f cd cx) (boO s) (pn.zip rs).reverse σ₀ r σ') : CX g (lv + 1) (.ref f) rs σ r σ' := by
  subst e1 e2
  simp only [Bool.and_eq_true, Bool.not_eq_true', beq_iff_eq, List.all_eq_true] at hs
  obtain ⟨⟨⟨s1, s2⟩, s3⟩, s4⟩ := hs
  obtain ⟨μ', h⟩ := h
  exact .defC pn cn ks hK hcd hb s1 hn ⟨_, μ', h, rfl⟩ hcf hkl hkn hnd s2 s3 s4
theorem set_self {S : List AObj} {i : Nat} {a b : AObj} (h : S[i]? = some a) : (S.set i b)[i]? = some b := by
  obtain ⟨q, _⟩ := List.getElem?_eq_some_iff.mp h
  exact List.getElem?_set_self q
end
/-! the tree that the law draws -/
def tsize (ns : List Int) : Nat := min (max 8 (ns.length - 3)) 12
def tx (ns : List Int) (i : Nat) : Int := sAt ns (3 + i)
def troom (ns : List Int) (i : Nat) : Nat := tsize ns - 1 - i
def tcount (ns : List Int) (i : Nat) : Nat := if 0 < troom ns i then ((digit (tx ns i) 3).fmod 4).toNat else 0
def tkid (ns : List Int) (i j : Nat) : Nat := i + 1 + ((digit (tx ns i) (4 + j)).fmod (troom ns i)).toNat
def tree (ns : List Int) : Tree := ⟨tsize ns, fun i => (List.range (tcount ns i)).map (tkid ns i), fun i => (tx ns i).fmod 100 - 50, fun i => decide (5 ≤ digit (tx ns i) 2), fun i => [4, 9].any (· == digit (tx ns i) 2)⟩
theorem tsize_bd (ns : List Int) : 8 ≤ tsize ns ∧ tsize ns ≤ 12 := by unfold tsize; omega
theorem tcount_bd (ns : List Int) (i : Nat) : tcount ns i < 4 := by
  unfold tcount
  have h1 : (digit (tx ns i) 3).fmod 4 < 4 := Int.fmod_lt_of_pos _ (by decide)
  split <;> omega
theorem tree_wf (ns : List Int) : (tree ns).WF := by
  have hs := tsize_bd ns
  refine ⟨by show tsize ns ≤ 100; omega, fun i hi k hk => ?_, fun i => ?_⟩
  · obtain ⟨j, hj, rfl⟩ := List.mem_map.mp hk
    show tkid ns i j < tsize ns
    have hr : 0 < troom ns i := by
      have := List.mem_range.mp hj
      unfold tcount at this
      split at this
      · assumption
      · omega
    have h1 : (digit (tx ns i) (4 + j)).fmod (troom ns i) < troom ns i := Int.fmod_lt_of_pos _ (by omega)
    unfold tkid
    unfold troom at h1 hr ⊢
    omega
  · show ((List.range (tcount ns i)).map _).length ≤ 100
    have := tcount_bd ns i
    simp; omega
structure TI (ns : List Int) (k : Nat) (S : List AObj) : Prop where
  c0 : ∃ r, S[0]? = some (.cell r)
  c1 : ∃ r, S[1]? = some (.cell r)
  c2 : ∃ r, S[2]? = some (.cell r)
  ch : ∃ row : Nat → Nat, S[3]? = some (.list (tab k fun i => .ref (row i))) ∧ ∀ i, i < k → 7 ≤ row i ∧ S[row i]? = some (.list ((tree ns).row i))
  va : S[4]? = some (.list (tab k fun i => .int ((tree ns).val i)))
  ck : S[5]? = some (.list (tab k fun i => .bool ((tree ns).chk i)))
  dr : S[6]? = some (.list (tab k fun i => .bool ((tree ns).drw i)))
abbrev μT (ns : List Int) : Loc := [(.ofString "draws", .ref 6), (.ofString "checks", .ref 5), (.ofString "values", .ref 4), (.ofString "children", .ref 3), (.ofString "size", .int (tsize ns)), (.ofString "script", .scr)]
noncomputable abbrev fd278 : FD := fdC (stm 32) (.ofString "_law_tree") 278 277 [(.ofString "room", 0), (.ofString "x", 1), (.ofString "node", 2)]
theorem tab_snoc {α : Type} {k : Nat} {f : Nat → α} : tab k f ++ [f k] = tab (k + 1) f := by
  show (List.range k).map f ++ [f k] = (List.range (k + 1)).map f
  rw [List.range_succ, List.map_append]; rfl
section
variable {w : World} {ns : List Int} {lv : Nat} {σ τ : List AObj} {x v : Int} {i k : Nat}
local macro_rules | `(tactic| walk_at "gt") => `(tactic| first
  | assumption
  | (refine set_self ?_; walk_at "gt")
  | (refine get_set (by decide) ?_; walk_at "gt")
  | (refine get_app ?_; walk_at "gt"))
local macro_rules | `(tactic| walk_at "cel") => `(tactic| (with_reducible apply EV.cell; (walk_at "lkn"); (walk_at "gt"); kernel_rfl; kernel_rfl; kernel_rfl))
theorem ix_room : fd278.ix.lookup (.ofString "room") = some 0 := by kernel_rfl
theorem ix_x : fd278.ix.lookup (.ofString "x") = some 1 := by kernel_rfl
theorem ix_node : fd278.ix.lookup (.ofString "node") = some 2 := by kernel_rfl
local macro_rules | `(tactic| walk_at "lkn") => `(tactic| first
  | with_reducible exact ix_room
  | with_reducible exact ix_x
  | with_reducible exact ix_node)
theorem CompL.pure {g : G} {lv : Nat} {fd : FD} {elt : Expr} {x : Str} {keep : List AObj → Prop} {σ : List AObj} {f : PV → PV} (k : keep σ) : ∀ {xs : List PV}, (∀ v ∈ xs, EV g lv fd elt [(x, v)] σ (f v) σ) → CompL g lv fd elt x keep xs σ (xs.map f) σ
  | [], _ => ⟨rfl, rfl⟩
  | v :: vs, h => ⟨f v, vs.map f, σ, h v (.head _), k, rfl, CompL.pure k fun u hu => h u (.tail _ hu)⟩
theorem CR3 {α : List Addr} {x y z : Str} {i j k : Nat} : ∀ {l : List (Str × Addr)}, CR α l [(x, i), (y, j), (z, k)] → ∃ a b c, l = [(x, a), (y, b), (z, c)] ∧ α[i]? = some a ∧ α[j]? = some b ∧ α[k]? = some c
  | [(x', a), (y', b), (z', c)], ⟨e1, q1, e2, q2, e3, q3, _⟩ => ⟨a, b, c, by rw [e1, e2, e3], q1, q2, q3⟩
def kidV (ns : List Int) (k : Nat) : PV → PV
  | .int j => .int ((tkid ns k j.toNat : Nat) : Int)
  | _ => .none
theorem kids_map {n : Nat} : (rInts 0 (tcount ns k : Int)).map (kidV ns k) = (tree ns).row k := by
  show ((List.range ((tcount ns k : Int) - 0).toNat).map fun (i : Nat) => PV.int (0 + (i : Int))).map (kidV ns k) = ((List.range (tcount ns k)).map (tkid ns k)).map fun k : Nat => PV.int (k : Int)
  rw [List.map_map, List.map_map, show ((tcount ns k : Int) - 0).toNat = tcount ns k by omega]
  refine List.map_congr_left fun i _ => ?_
  show PV.int ((tkid ns k (0 + (i : Int)).toNat : Nat) : Int) = PV.int ((tkid ns k i : Nat) : Int)
  rw [show (0 + (i : Int)).toNat = i by omega]
abbrev kix278 : List (Str × Nat) := [(.ofString "x", 1), (.ofString "room", 0), (.ofString "node", 2)]
abbrev μL (ns : List Int) (k : Nat) : Loc := (.ofString "count", .int (tcount ns k : Int)) :: μT ns
theorem fd10 (a : Int) : a.fmod 10 = a % 10 := Int.fmod_eq_emod_of_nonneg _ (by decide)
theorem kid_val {i : Nat} (h : 0 < troom ns k) : ((k : Int) + 1 + (digit (tx ns k) (4 + i)).fmod (troom ns k : Int)) = ((tkid ns k i : Nat) : Int) := by
  have h0 : 0 ≤ (digit (tx ns k) (4 + i)).fmod (troom ns k : Int) := Int.fmod_nonneg_of_pos _ (by omega)
  unfold tkid
  omega
local macro_rules | `(tactic| walk_at "cl") => `(tactic| exact CX.cl (r_digit (i := 2) (by decide)))
theorem rest278 {S : List AObj} {row : Nat → Nat} (c0 : S[0]? = some (.cell (some (.int (troom ns k : Int))))) (c1 : S[1]? = some (.cell (some (.int (tx ns k))))) (c2 : S[2]? = some (.cell (some (.int (k : Int)))))
    (ch : S[3]? = some (.list (tab k fun i => .ref (row i)))) (va : S[4]? = some (.list (tab k fun i => .int ((tree ns).val i)))) (ck : S[5]? = some (.list (tab k fun i => .bool ((tree ns).chk i)))) (dr : S[6]? = some (.list (tab k fun i => .bool ((tree ns).drw i)))) (hk : k < 100) :
    ∃ S', EX (gg w ns) (lv + 2) fd278 ((forBody ((boO (stm 32))[2]?)).drop 3) (μL ns k) S .next (μL ns k) S' ∧
      S'[0]? = some (.cell (some (.int (troom ns k : Int)))) ∧ S'[1]? = some (.cell (some (.int (tx ns k)))) ∧ S'[2]? = some (.cell (some (.int (k : Int)))) ∧
      S'[3]? = some (.list ((tab k fun i => .ref (row i)) ++ [.ref (S.length + 1)])) ∧ S'[4]? = some (.list ((tab k fun i => .int ((tree ns).val i)) ++ [.int ((tree ns).val k)])) ∧
      S'[5]? = some (.list ((tab k fun i => .bool ((tree ns).chk i)) ++ [.bool ((tree ns).chk k)])) ∧ S'[6]? = some (.list ((tab k fun i => .bool ((tree ns).drw i)) ++ [.bool ((tree ns).drw k)])) ∧
      S'[S.length + 1]? = some (.list ((tree ns).row k)) ∧ ∀ j a, 7 ≤ j → S[j]? = some a → S'[j]? = some a := by
  have hc := tcount_bd ns k
  have hl7 : 7 ≤ S.length := by
    obtain ⟨q, _⟩ := List.getElem?_eq_some_iff.mp dr
    omega
  apply Exists.intro
  apply And.intro
  · conv in (List.drop _ _) => whnf
    apply EX.cons
    · apply ES.expr
      · with_reducible apply EV.me
        · walk_at "ev"
        · exact GM.list PySem.F.slot_list_append PySem.F.type_list_append ch
        · with_reducible apply AR.cons
          · apply EV.comp (kix := kix278) (σ₁ := S ++ [.rng 0 (tcount ns k : Int)]) (σ' := S ++ [.rng 0 (tcount ns k : Int)]) (rs := (tree ns).row k)
            · with_reducible apply EV.call
              · walk_at "ev"
              · walk_at "ar"
              · exact CL.range1
              · walk_at "kp"
              · kernel_rfl
              · intro _; kernel_rfl
            · exact SRC.range at_last (by omega)
            · trivial
            · rfl
            · simp; omega
            · rw [← kids_map (n := 0)]
              refine CompL.pure trivial fun v hv => ?_
              obtain ⟨i, hi, rfl⟩ := List.mem_map.mp hv
              have hi' : i < tcount ns k := by have := List.mem_range.mp hi; omega
              have hr : 0 < troom ns k := by
                unfold tcount at hi'
                split at hi'
                · assumption
                · omega
              have hd : ∀ τ, CL (gg w ns) (lv + 2) (.ref 273) [.int (tx ns k), .int (4 + (0 + (i : Int)))] τ (.int (digit (tx ns k) (4 + i))) τ := fun τ => by
                have := CX.cl (r_digit (w := w) (ns := ns) (lv := lv + 1) (σ := τ) (x := tx ns k) (i := 4 + i) (by omega))
                rwa [Int.natCast_add, show ((4 : Nat) : Int) + (i : Int) = 4 + (0 + (i : Int)) by omega] at this
              have e0 : (S ++ [AObj.rng 0 (tcount ns k : Int)])[0]? = _ := get_app c0
              have e1 : (S ++ [AObj.rng 0 (tcount ns k : Int)])[1]? = _ := get_app c1
              have e2 : (S ++ [AObj.rng 0 (tcount ns k : Int)])[2]? = _ := get_app c2
              apply EV.to
              · with_reducible apply EV.bin
                · with_reducible apply EV.bin
                  · exact EV.cell (by kernel_rfl : List.lookup _ kix278 = some 2) e2 (by kernel_rfl) (by kernel_rfl) (by kernel_rfl)
                  · walk_at "ev"
                  · walk_at "op"
                · with_reducible apply EV.bin
                  · with_reducible apply EV.call
                    · walk_at "ev"
                    · with_reducible apply AR.cons
                      · exact EV.cell (by kernel_rfl : List.lookup _ kix278 = some 1) e1 (by kernel_rfl) (by kernel_rfl) (by kernel_rfl)
                      · walk_at "ar"
                      · intro _; kernel_rfl
                    · exact hd _
                    · walk_at "kp"
                    · kernel_rfl
                    · intro _; kernel_rfl
                  · exact EV.cell (by kernel_rfl : List.lookup _ kix278 = some 0) e0 (by kernel_rfl) (by kernel_rfl) (by kernel_rfl)
                  · exact OP2.mod (by omega)
                · walk_at "op"
              · rw [kid_val hr]
                show _ = PV.int ((tkid ns k (0 + (i : Int)).toNat : Nat) : Int)
                rw [show (0 + (i : Int)).toNat = i by omega]
            · intro c α h
              obtain ⟨a, b, d, e, q0, q1, q2⟩ := CR3 h
              refine ⟨[(.ofString "x", b), (.ofString "room", a), (.ofString "node", d)], ?_, rfl, q1, rfl, q0, rfl, q2, trivial⟩
              show closureFor _ (envX _ _ c.L _ _ c.cl) = _
              rw [e]
              kernel_rfl
            · kernel_rfl
            · kernel_rfl
            · decide +kernel
            · decide +kernel
            · intro _ _; kernel_rfl
          · walk_at "ar"
          · intro _; kernel_rfl
        · exact CL.append (get_app (get_app ch)) (by simp; omega)
        · exact KP.builtin
        · kernel_rfl
        · intro _; kernel_rfl
      · kernel_rfl
      · intro _; kernel_rfl
    apply EX.cons
    · apply ES.expr
      · with_reducible apply EV.me
        · walk_at "ev"
        · exact GM.list PySem.F.slot_list_append PySem.F.type_list_append (get_set (by decide) (get_app (get_app va)))
        · walk_at "ar"
        · exact CL.append (get_set (by decide) (get_app (get_app va))) (by simp; omega)
        · exact KP.builtin
        · kernel_rfl
        · intro _; kernel_rfl
      · kernel_rfl
      · intro _; kernel_rfl
    apply EX.cons
    · apply ES.expr
      · with_reducible apply EV.me
        · walk_at "ev"
        · exact GM.list PySem.F.slot_list_append PySem.F.type_list_append (get_set (by decide) (get_set (by decide) (get_app (get_app ck))))
        · walk_at "ar"
        · exact CL.append (get_set (by decide) (get_set (by decide) (get_app (get_app ck)))) (by simp; omega)
        · exact KP.builtin
        · kernel_rfl
        · intro _; kernel_rfl
      · kernel_rfl
      · intro _; kernel_rfl
    apply EX.cons
    · apply ES.expr
      · with_reducible apply EV.me
        · walk_at "ev"
        · exact GM.list PySem.F.slot_list_append PySem.F.type_list_append (get_set (by decide) (get_set (by decide) (get_set (by decide) (get_app (get_app dr)))))
        · with_reducible apply AR.cons
          · with_reducible apply EV.cmp
            · walk_at "ev"
            · with_reducible apply EV.tuple
              · walk_at "ar"
              · decide
            · exact OP2.inTup (ns := [4, 9]) at_last
            · kernel_rfl
          · walk_at "ar"
          · intro _; kernel_rfl
        · exact CL.append (get_app (get_set (by decide) (get_set (by decide) (get_set (by decide) (get_app (get_app dr)))))) (by simp; omega)
        · exact KP.builtin
        · kernel_rfl
        · intro _; kernel_rfl
      · kernel_rfl
      · intro _; kernel_rfl
    exact EX.nil
  · refine ⟨?_, ?_, ?_, ?_, ?_, ?_, ?_, ?_, ?_⟩
    · walk_at "gt"
    · walk_at "gt"
    · walk_at "gt"
    · rw [show S.length + 1 = (S ++ [AObj.rng 0 (tcount ns k : Int)]).length by simp]
      exact get_set (by decide) (get_app (get_set (by decide) (get_set (by decide) (set_self (get_app (get_app ch))))))
    · exact get_set (by decide) (get_app (get_set (by decide) (set_self (get_set (by decide) (get_app (get_app va))))))
    · exact get_set (by decide) (get_app (set_self (get_set (by decide) (get_set (by decide) (get_app (get_app ck))))))
    · exact set_self (get_app (get_set (by decide) (get_set (by decide) (get_set (by decide) (get_app (get_app dr))))))
    · refine get_set (by omega) (get_app (get_set (by omega) (get_set (by omega) (get_set (by omega) ?_))))
      simp
    · intro j a h7 hj
      exact get_set (by omega) (get_app (get_set (by omega) (get_set (by omega) (get_set (by omega) (get_app (get_app hj))))))
end
end
section
section
variable {w : World} {ns : List Int} {lv : Nat} {σ τ : List AObj} {x v : Int} {i k : Nat}
local macro_rules | `(tactic| walk_at "cl") => `(tactic| first
  | exact CX.cl (r_digit (i := 3) (by decide))
  | exact CL.lenScr
  | exact CL.max
  | exact CL.min
  | exact CL.range1)
theorem count_eq (hr : 0 < troom ns k) : (digit (tx ns k) 3).fmod 4 = (tcount ns k : Int) := by
  have := Int.fmod_nonneg_of_pos (digit (tx ns k) 3) (b := 4) (by decide)
  unfold tcount
  rw [if_pos hr]; omega
theorem turn278 {S : List AObj} (hn : ns.length ≤ 63) (h : TI ns k S) (hk : k < tsize ns) : ∃ S', EX (gg w ns) (lv + 2) fd278 (forBody ((boO (stm 32))[2]?)) (μT ns) (S.set 2 (.cell (some (.int (k : Int))))) .next (μT ns) S' ∧ TI ns (k + 1) S' := by
  obtain ⟨⟨r0, c0⟩, ⟨r1, c1⟩, ⟨r2, c2⟩, ⟨row, ch, hrow⟩, va, ck, dr⟩ := h
  have hs := tsize_bd ns
  have hl7 : 7 ≤ S.length := by
    obtain ⟨q, _⟩ := List.getElem?_eq_some_iff.mp dr
    omega
  have hat : CL (gg w ns) (lv + 2) (.ref 266) [.scr, .int (3 + (k : Int))] (S.set 2 (.cell (some (.int (k : Int))))) (.int (tx ns k)) (S.set 2 (.cell (some (.int (k : Int))))) := by
    have := r_at (w := w) (ns := ns) (lv := lv) (σ := S.set 2 (.cell (some (.int (k : Int))))) (i := 3 + k) (by unfold tsize at hk; omega) (by omega) hn
    rwa [Int.natCast_add] at this
  have e2 := set_self (b := .cell (some (.int (k : Int)))) c2
  have e1 : ((S.set 2 (.cell (some (.int (k : Int))))).set 1 (.cell (some (.int (tx ns k)))))[1]? = _ := set_self (get_set (by decide) c1)
  have e0 : (((S.set 2 (.cell (some (.int (k : Int))))).set 1 (.cell (some (.int (tx ns k))))).set 0 (.cell (some (.int (troom ns k : Int)))))[0]? = _ := set_self (get_set (by decide) (get_set (by decide) c0))
  have e01 : (((S.set 2 (.cell (some (.int (k : Int))))).set 1 (.cell (some (.int (tx ns k))))).set 0 (.cell (some (.int (troom ns k : Int)))))[1]? = _ := get_set (by decide) e1
  obtain ⟨S', hE, q0, q1, q2, q3, q4, q5, q6, q7, q8⟩ := rest278 (w := w) (lv := lv) (S := ((S.set 2 (.cell (some (.int (k : Int))))).set 1 (.cell (some (.int (tx ns k))))).set 0 (.cell (some (.int (troom ns k : Int))))) (row := row)
    e0 e01 (get_set (by decide) (get_set (by decide) e2)) (get_set (by decide) (get_set (by decide) (get_set (by decide) ch))) (get_set (by decide) (get_set (by decide) (get_set (by decide) va))) (get_set (by decide) (get_set (by decide) (get_set (by decide) ck))) (get_set (by decide) (get_set (by decide) (get_set (by decide) dr))) (by omega)
  refine ⟨S', ?_, ⟨_, q0⟩, ⟨_, q1⟩, ⟨_, q2⟩, ?_, ?_, ?_, ?_⟩
  · conv at hE in (List.drop _ _) => whnf
    conv in (forBody _) => whnf
    apply EX.cons
    · apply ES.assignC
      · with_reducible apply EV.call
        · walk_at "ev"
        · with_reducible apply AR.cons
          · walk_at "ev"
          · with_reducible apply AR.cons
            · with_reducible apply EV.bin
              · walk_at "ev"
              · exact EV.cell ix_node e2 (by kernel_rfl) (by kernel_rfl) (by kernel_rfl)
              · walk_at "op"
            · walk_at "ar"
            · intro _; kernel_rfl
          · intro _; kernel_rfl
        · exact hat
        · walk_at "kp"
        · kernel_rfl
        · intro _; kernel_rfl
      · exact ix_x
      · exact get_set (by decide) c1
      · kernel_rfl
      · kernel_rfl
      · intro _; kernel_rfl
    apply EX.cons
    · apply ES.assignC
      · apply EV.to (r₀ := .int (troom ns k : Int))
        · with_reducible apply EV.bin
          · walk_at "ev"
          · exact EV.cell ix_node (get_set (by decide) e2) (by kernel_rfl) (by kernel_rfl) (by kernel_rfl)
          · walk_at "op"
        · rw [show ((tsize ns : Int) - 1 - (k : Int)) = ((troom ns k : Nat) : Int) by unfold troom; omega]
      · exact ix_room
      · exact get_set (by decide) (get_set (by decide) c0)
      · kernel_rfl
      · kernel_rfl
      · intro _; kernel_rfl
    apply EX.cons
    · apply ES.assign
      · apply EV.to (r := .int (tcount ns k : Int))
        · by_cases hr : 0 < troom ns k
          · apply EV.ifT
            · with_reducible apply TR.cmp
              · exact EV.cell ix_room e0 (by kernel_rfl) (by kernel_rfl) (by kernel_rfl)
              · walk_at "ev"
              · walk_at "op"
              · kernel_rfl
            · simpa using hr
            · rw [← count_eq hr]
              with_reducible apply EV.bin
              · with_reducible apply EV.call
                · walk_at "ev"
                · with_reducible apply AR.cons
                  · exact EV.cell ix_x e01 (by kernel_rfl) (by kernel_rfl) (by kernel_rfl)
                  · walk_at "ar"
                  · intro _; kernel_rfl
                · walk_at "cl"
                · walk_at "kp"
                · kernel_rfl
                · intro _; kernel_rfl
              · walk_at "ev"
              · walk_at "op"
          · apply EV.ifF
            · with_reducible apply TR.cmp
              · exact EV.cell ix_room e0 (by kernel_rfl) (by kernel_rfl) (by kernel_rfl)
              · walk_at "ev"
              · walk_at "op"
              · kernel_rfl
            · simpa using hr
            · rw [show tcount ns k = 0 by unfold tcount; rw [if_neg hr]]
              exact EV.num
        · rfl
      · kernel_rfl
      · kernel_rfl
      · kernel_rfl
      · intro _; kernel_rfl
    refine hE.cov ?_
    walk_at "cov"
  · refine ⟨fun i => if i = k then (((S.set 2 (.cell (some (.int (k : Int))))).set 1 (.cell (some (.int (tx ns k))))).set 0 (.cell (some (.int (troom ns k : Int))))).length + 1 else row i, ?_, fun i hi => ?_⟩
    · rw [q3, ← tab_snoc]
      simp only [if_true]
      congr 3
      refine List.map_congr_left fun i hi => ?_
      have := List.mem_range.mp hi
      rw [if_neg (by omega)]
    · by_cases e : i = k
      · subst e; simp only [if_true]
        exact ⟨by simp; omega, q7⟩
      · simp only [if_neg e]
        obtain ⟨h7, hr⟩ := hrow i (by omega)
        exact ⟨h7, q8 _ _ h7 (get_set (by omega) (get_set (by omega) (get_set (by omega) hr)))⟩
  · rw [q4, ← tab_snoc]
  · rw [q5, ← tab_snoc]
  · rw [q6, ← tab_snoc]
abbrev nInts (k m : Nat) : List PV := (List.range' k m).map fun i : Nat => .int (i : Int)
theorem rInts_n {n : Nat} : rInts 0 (n : Int) = nInts 0 n := by
  show (List.range ((n : Int) - 0).toNat).map (fun i : Nat => PV.int (0 + (i : Int))) = _
  rw [show ((n : Int) - 0).toNat = n by omega, List.range_eq_range']
  exact List.map_congr_left fun i _ => by rw [Int.zero_add]
theorem loop278 (hn : ns.length ≤ 63) : ∀ (m k : Nat) (S : List AObj), k + m = tsize ns → TI ns k S → ∃ S', Loop (gg w ns) (lv + 2) fd278 (forBody ((boO (stm 32))[2]?)) (bndC 2) (fun τ => ∃ r, τ[2]? = some (.cell r)) (nInts k m) (μT ns) S .next (μT ns) S' ∧ TI ns (tsize ns) S'
  | 0, k, S, e, h => ⟨S, ⟨rfl, rfl, rfl⟩, by rw [← e]; exact h⟩
  | m + 1, k, S, e, h => by
    obtain ⟨S₁, hE, h₁⟩ := turn278 (w := w) (lv := lv) hn h (by omega)
    obtain ⟨S', hL, h'⟩ := loop278 hn m (k + 1) S₁ (by omega) h₁
    refine ⟨S', ?_, h'⟩
    show Loop _ _ _ _ _ _ (.int (k : Int) :: nInts (k + 1) m) _ _ _ _ _
    exact Loop.next hE h₁.c2 hL
theorem SRC.weak {g : G} {rv : PV} {xs : List PV} {keep keep' : List AObj → Prop} (h : SRC g σ rv xs keep) (k : ∀ τ, keep' τ → keep τ) : SRC g σ rv xs keep' :=
  fun c fd α s Q E v S i q => h c fd α s Q E v S i fun ob P kp hI p0 hf hk => q ob P kp hI p0 hf fun α' σ' x y => hk α' σ' x (k _ y)
noncomputable def psOf : List Expr → List (Str × Pos)
  | .Name x p :: es => (x, p) :: psOf es
  | _ => []
theorem ES.unpackN {g : G} {fd : FD} {μ : Loc} {σ₁ : List AObj} {rs : List PV} {pos : Pos} {elts : List Expr} {k : _} {tpos : Pos} {v : Expr} {i : Nat} (hv : EV g lv fd v μ σ (.ref i) σ₁) (e : σ₁[i]? = some (.tup rs)) (hc : fd.comp = none) (hk : fd.sc.kind = .function) (hl : ∀ p ∈ psOf elts, fd.sc.names.lookup p.1 = some .local) (hn : (psOf elts).length = rs.length)
    (he : ∀ env, assignEach elts env = (psOf elts).map fun p => (false, PySem.assign (.Name p.1 p.2) env))
    (hs : ∀ c : Cfg, swapsWithSole [.Tuple elts k tpos] v pos.line (c.env fd) = pure false) (hw : ∀ c : Cfg, swappedStores [.Tuple elts k tpos] v (c.env fd) = pure none) :
    ES g lv fd (.Assign [.Tuple elts k tpos] v pos) μ σ .next ((((psOf elts).map (·.1)).zip rs).reverse ++ μ) σ₁ := ES.unpack _ hv e hc hk hl hn he hs hw
abbrev S278 (ns : List Int) : List AObj := [.cell none, .cell none, .cell none, .list [], .list [], .list [], .list [], .tup [.ref 3, .ref 4, .ref 5, .ref 6], .rng 0 (tsize ns)]
theorem r_tree (hn : ns.length ≤ 63) : ∃ S r, CX (gg w ns) (lv + 3) (.ref 278) [.scr] [] (.ref r) S ∧ S[r]? = some (.tup [.ref 3, .ref 4, .ref 5, .ref 6]) ∧ TI ns (tsize ns) S := by
  obtain ⟨S', hL, h'⟩ := loop278 (w := w) (lv := lv) hn (tsize ns) 0 (S278 ns) (by omega) ⟨⟨_, rfl⟩, ⟨_, rfl⟩, ⟨_, rfl⟩, ⟨fun _ => 0, rfl, fun i hi => by omega⟩, rfl, rfl, rfl⟩
  have hs := tsize_bd ns
  refine ⟨S' ++ [.tup [.ref 3, .ref 4, .ref 5, .ref 6]], S'.length, ?_, at_last, ⟨?_, ?_, ?_, ?_, ?_, ?_, ?_⟩⟩
  · apply CX.frC [.ofString "script"] [.ofString "room", .ofString "x", .ofString "node"] [2, 1, 0] (k278 _) (c278 _) (bind1 fun _ => by kernel_rfl) (by kernel_rfl) (fun _ => by kernel_rfl) rfl (by decide) (by decide) rfl rfl rfl
    walk_at "body"
    apply ER.cons
    · apply ES.assign
      · apply EV.to (r₀ := .int (tsize ns : Int))
        · walk_at "ev"
        · unfold tsize
          show PV.int (if 12 < (if (ns.length : Int) - 3 > 8 then (ns.length : Int) - 3 else 8) then 12 else if (ns.length : Int) - 3 > 8 then (ns.length : Int) - 3 else 8) = _
          congr 1
          split <;> split <;> omega
      · kernel_rfl
      · kernel_rfl
      · kernel_rfl
      · intro _; kernel_rfl
    apply ER.cons
    · apply ES.unpackN (rs := [.ref 3, .ref 4, .ref 5, .ref 6])
      · apply EV.tuple
        · with_reducible apply AR.cons
          · exact EV.list AR.nil (by decide)
          · with_reducible apply AR.cons
            · exact EV.list AR.nil (by decide)
            · with_reducible apply AR.cons
              · exact EV.list AR.nil (by decide)
              · with_reducible apply AR.cons
                · exact EV.list AR.nil (by decide)
                · exact AR.nil
                · intro _; kernel_rfl
              · intro _; kernel_rfl
            · intro _; kernel_rfl
          · intro _; kernel_rfl
        · decide
      · rfl
      · kernel_rfl
      · kernel_rfl
      · decide +kernel
      · rfl
      · intro _; kernel_rfl
      · intro _; kernel_rfl
      · intro _; kernel_rfl
    show ER _ _ _ _ (μT ns) _ _ _
    apply ER.cons
    · apply ES.for_ (xs := rInts 0 (tsize ns))
      · walk_at "ev"
      · exact SRC.weak (keep' := fun τ => ∃ r, τ[2]? = some (.cell r)) (SRC.range rfl (by omega)) fun _ _ => trivial
      · kernel_rfl
      · exact BIND.cel ix_node (fun _ h => h) (by kernel_rfl) (by kernel_rfl)
      · exact ⟨_, rfl⟩
      · rw [rInts_n]; exact hL
      · intro _ _; kernel_rfl
    apply ER.re
    · apply EV.tuple
      · walk_at "ar"
      · decide
    · rfl
  · exact h'.c0.imp fun _ q => get_app q
  · exact h'.c1.imp fun _ q => get_app q
  · exact h'.c2.imp fun _ q => get_app q
  · obtain ⟨row, q, u⟩ := h'.ch
    exact ⟨row, get_app q, fun i hi => ⟨(u i hi).1, get_app (u i hi).2⟩⟩
  · exact get_app h'.va
  · exact get_app h'.ck
  · exact get_app h'.dr
end
end
section
section
variable {g : G} {lv : Nat} {fd : FD} {μ : Loc} {σ σ' : List AObj}
theorem TR.to {e : Expr} {b b₀ : Bool} (h : TR g lv fd e μ σ b σ') (hb : b = b₀) : TR g lv fd e μ σ b₀ σ' := by subst hb; exact h
end
noncomputable def lmin : List Int → Int
  | [] => 0
  | [a] => a
  | a :: b :: l => min a (lmin (b :: l))
noncomputable def lmax : List Int → Int
  | [] => 0
  | [a] => a
  | a :: b :: l => max a (lmax (b :: l))
theorem lmin_mem : ∀ {l : List Int}, l ≠ [] → lmin l ∈ l
  | [], h => absurd rfl h
  | [a], _ => .head _
  | a :: b :: l, _ => by
    have := lmin_mem (l := b :: l) (by simp)
    show min a (lmin (b :: l)) ∈ _
    rcases Int.min_def a (lmin (b :: l)) ▸ (by split <;> simp : (if a ≤ lmin (b :: l) then a else lmin (b :: l)) = a ∨ (if a ≤ lmin (b :: l) then a else lmin (b :: l)) = lmin (b :: l)) with q | q
    · rw [q]; exact .head _
    · rw [q]; exact .tail _ this
theorem lmin_le : ∀ {l : List Int} {x : Int}, x ∈ l → lmin l ≤ x
  | [a], x, h => by rw [List.mem_singleton.mp h]; exact Int.le_refl _
  | a :: b :: l, x, h => by
    show min a (lmin (b :: l)) ≤ x
    rcases List.mem_cons.mp h with rfl | h
    · omega
    · have := lmin_le h
      omega
theorem lmax_mem : ∀ {l : List Int}, l ≠ [] → lmax l ∈ l
  | [], h => absurd rfl h
  | [a], _ => .head _
  | a :: b :: l, _ => by
    have := lmax_mem (l := b :: l) (by simp)
    show max a (lmax (b :: l)) ∈ _
    rcases (by omega : max a (lmax (b :: l)) = a ∨ max a (lmax (b :: l)) = lmax (b :: l)) with q | q
    · rw [q]; exact .head _
    · rw [q]; exact .tail _ this
theorem lmax_ge : ∀ {l : List Int} {x : Int}, x ∈ l → x ≤ lmax l
  | [a], x, h => by rw [List.mem_singleton.mp h]; exact Int.le_refl _
  | a :: b :: l, x, h => by
    show x ≤ max a (lmax (b :: l))
    rcases List.mem_cons.mp h with rfl | h
    · omega
    · have := lmax_ge h
      omega
abbrev Tab := List (Int × Int)
def zb (t : Tree) (k : Nat) : Bool := t.chk k && ((t.kids k).isEmpty && (((k : Int) == 0) || !t.drw k))
def z0 (t : Tree) (es : Tab) (k : Nat) : Tab := if zb t k = true then putI k 0 es else es
def endsOf (t : Tree) (es : Tab) (k : Nat) : List Int := (t.kids k).map fun j : Nat => (es.lookup (j : Int)).getD (-1)
def skipB (t : Tree) (es : Tab) (k : Nat) : Bool := (es.lookup (k : Int)).isSome || ((t.kids k).isEmpty || (decide ((0 : Int) < (k : Int)) && t.drw k))
def oddB (p : Int) (E : List Int) : Bool := (p.fmod 2 == 1) && E.any (· == p - 1)
noncomputable def evenB (p : Int) (E : List Int) : Bool := (p.fmod 2 == 0) && ((lmin (E.map fun e => e.fmod 2) == 1) && ((lmax E == p - 1) && decide (0 < lmin E)))
noncomputable def pick (t : Tree) (es : Tab) (p : Int) (k : Nat) : Bool := !(skipB t es k) && (oddB p (endsOf t es k) || evenB p (endsOf t es k))
def elTest : Option Stmt → Expr
  | some (.If _ _ [.If t _ _ _] _) => t
  | _ => .Name (.ofString "") ⟨0, 0, 0, 0⟩
noncomputable abbrev fd283 (L : Nat) : FD := fdC (stm 33) (.ofString "_law_rounds") 283 282 [(.ofString "told", L)]
abbrev RS (σ : List AObj) (es : Tab) (rest : List AObj) : List AObj := σ ++ (.cell (some (.ref (σ.length + 1))) :: .tab es :: rest)
structure T4 (t : Tree) (σ : List AObj) (c k d : Nat) (row : Nat → Nat) : Prop where
  wf : t.WF
  ch : σ[c]? = some (.list (tab t.n fun i => .ref (row i)))
  rows : ∀ i, i < t.n → σ[row i]? = some (.list (t.row i))
  ck : σ[k]? = some (.list (tab t.n fun i => .bool (t.chk i)))
  dr : σ[d]? = some (.list (tab t.n fun i => .bool (t.drw i)))
theorem T4.app {t : Tree} {σ τ : List AObj} {c k d : Nat} {row : Nat → Nat} (h : T4 t σ c k d row) : T4 t (σ ++ τ) c k d row := ⟨h.wf, get_app h.ch, fun i hi => get_app (h.rows i hi), get_app h.ck, get_app h.dr⟩
abbrev μR (r c v k d : Nat) (dep : Int) : Loc := [(.ofString "draws", .ref d), (.ofString "checks", .ref k), (.ofString "values", .ref v), (.ofString "children", .ref c), (.ofString "depth", .int dep), (.ofString "tree", .ref r)]
section
variable {w : World} {ns : List Int} {lv : Nat} {σ τ rest : List AObj} {es : Tab} {t : Tree} {r c v kk d : Nat} {row : Nat → Nat} {dep p : Int} {i k : Nat}
theorem RS.cell : (RS σ es rest)[σ.length]? = some (.cell (some (.ref (σ.length + 1)))) := by simp
theorem RS.tab : (RS σ es rest)[σ.length + 1]? = some (.tab es) := by
  rw [List.getElem?_append_right (by omega), show σ.length + 1 - σ.length = 1 by omega]; rfl
theorem RS.app : RS σ es rest ++ τ = RS σ es (rest ++ τ) := by simp
theorem RS.put {es' : Tab} : (RS σ es rest).set (σ.length + 1) (.tab es') = RS σ es' rest := by
  rw [List.set_append_right _ _ (by omega), show σ.length + 1 - σ.length = 1 by omega]; rfl
theorem RS.len : (RS σ es rest).length = σ.length + 2 + rest.length := by simp; omega
theorem RS.at {f : Nat} {a : AObj} (h : rest[f]? = some a) : (RS σ es rest)[σ.length + 2 + f]? = some a := by
  rw [List.getElem?_append_right (by omega), show σ.length + 2 + f - σ.length = f + 2 by omega]; exact h
theorem RS.set {f : Nat} {a : AObj} : (RS σ es rest).set (σ.length + 2 + f) a = RS σ es (rest.set f a) := by
  rw [List.set_append_right _ _ (by omega), show σ.length + 2 + f - σ.length = f + 2 by omega]; rfl
local macro_rules | `(tactic| walk_at "cel") => `(tactic| exact EV.cell (by kernel_rfl) RS.cell (by kernel_rfl) (by kernel_rfl) (by kernel_rfl))
local macro_rules | `(tactic| walk_at "ev2") => `(tactic| (with_reducible apply EV.sub; (walk_at "ev"); (walk_at "ev"); walk_at "it"))
local macro_rules | `(tactic| walk_at "it") => `(tactic| first
  | exact OP2.item (get_app (T4.ck (by assumption))) (by omega) (tab_getI (by assumption)) (by simp; omega) (by intro _ _; kernel_rfl)
  | exact OP2.item (get_app (T4.dr (by assumption))) (by omega) (tab_getI (by assumption)) (by simp; omega) (by intro _ _; kernel_rfl)
  | exact OP2.item (get_app (T4.ch (by assumption))) (by omega) (tab_getI (by assumption)) (by simp; omega) (by intro _ _; kernel_rfl))
local macro_rules | `(tactic| walk_at "tv") => `(tactic| exact TV.list (get_app (T4.rows (by assumption) _ (by assumption))) (by simp; omega))
local macro_rules | `(tactic| walk_at "op2") => `(tactic| exact OP2.inTab RS.tab)
theorem turnZ (T : T4 t σ c kk d row) (hk : k < t.n) (hes : es.length < 100000) :
    EX (gg w ns) lv (fd283 σ.length) (forBody ((boO (stm 33))[2]?)) ((.ofString "node", .int (k : Int)) :: μR r c v kk d dep) (RS σ es rest) .next (μR r c v kk d dep) (RS σ (z0 t es k) rest) := by
  have hw := T.wf.small
  have hf := T.wf.few k
  refine EX.cov (μ₁ := (.ofString "node", .int (k : Int)) :: μR r c v kk d dep) ?_ (by walk_at "cov")
  conv in (forBody _) => whnf
  by_cases hb : zb t k = true
  · rw [z0, if_pos hb]
    apply EX.iTn
    · walk_at "tr"
    · simpa [zb] using hb
    · apply EX.cons (σ₁ := RS σ (putI (k : Int) 0 es) rest)
      · rw [← RS.put (σ := σ) (rest := rest) (es := es) (es' := putI (k : Int) 0 es)]
        apply ES.setTab
        · walk_at "ev"
        · walk_at "ev"
        · walk_at "ev"
        · exact RS.tab
        · exact hes
        · intro _; kernel_rfl
      · exact EX.nil
    · exact EX.nil
  · rw [z0, if_neg hb]
    apply EX.iF
    · walk_at "tr"
    · simpa [zb] using hb
    · exact EX.nil
end
end
section
section
variable {w : World} {ns : List Int} {lv : Nat} {σ τ rest : List AObj} {es : Tab} {t : Tree} {r c v kk d : Nat} {row : Nat → Nat} {dep p : Int} {i k f : Nat} {xs : List Int}
local macro_rules | `(tactic| walk_at "cel") => `(tactic| exact EV.cell (by kernel_rfl) RS.cell (by kernel_rfl) (by kernel_rfl) (by kernel_rfl))
local macro_rules | `(tactic| walk_at "ev2") => `(tactic| (with_reducible apply EV.sub; (walk_at "ev"); (walk_at "ev"); walk_at "it"))
local macro_rules | `(tactic| walk_at "it") => `(tactic| first
  | exact OP2.item (get_app (T4.ck (by assumption))) (by omega) (tab_getI (by assumption)) (by simp; omega) (by intro _ _; kernel_rfl)
  | exact OP2.item (get_app (T4.dr (by assumption))) (by omega) (tab_getI (by assumption)) (by simp; omega) (by intro _ _; kernel_rfl)
  | exact OP2.item (get_app (T4.ch (by assumption))) (by omega) (tab_getI (by assumption)) (by simp; omega) (by intro _ _; kernel_rfl))
local macro_rules | `(tactic| walk_at "tv") => `(tactic| first
  | with_reducible exact TV.bool
  | exact TV.list (get_app (T4.rows (by assumption) _ (by assumption))) (by simp; omega))
local macro_rules | `(tactic| walk_at "op2") => `(tactic| exact OP2.inTab RS.tab)
def ltR (t : Tree) (es : Tab) : PV → PV
  | .int j => .int ((es.lookup j).getD (-1))
  | _ => .none
def m2R : PV → PV
  | .int j => .int (j.fmod 2)
  | _ => .none
theorem pis_map {E : List Int} : (pis E).map m2R = pis (E.map fun e => e.fmod 2) := by
  show (E.map PV.int).map m2R = (E.map fun e => e.fmod 2).map PV.int
  rw [List.map_map, List.map_map]; rfl
theorem row_map : (t.row k).map (ltR t es) = pis (endsOf t es k) := by
  show ((t.kids k).map fun j : Nat => PV.int (j : Int)).map (ltR t es) = ((t.kids k).map fun j : Nat => (es.lookup (j : Int)).getD (-1)).map PV.int
  rw [List.map_map, List.map_map]; rfl
noncomputable abbrev bdF : List Stmt := forBody ((forBody ((boO (stm 33))[3]?))[1]?)
abbrev μF (r c v k d : Nat) (dep p : Int) (f : Nat) : Loc := (.ofString "found", .ref f) :: (.ofString "plies", .int p) :: μR r c v k d dep
abbrev μE (r c v kk d : Nat) (dep p : Int) (f k e : Nat) : Loc := (.ofString "ends", .ref e) :: (.ofString "node", .int (k : Int)) :: μF r c v kk d dep p f
def elT1 (s : Option Stmt) : Expr := match elTest s with
  | .BoolOp _ (_ :: e :: _) _ => e
  | e => e
theorem TB.to {g : G} {fd : FD} {op : BoolOp} {es : List Expr} {μ : Loc} {σ' : List AObj} {b b₀ : Bool} (h : TB g lv fd op es μ σ b σ') (hb : b = b₀) : TB g lv fd op es μ σ b₀ σ' := by subst hb; exact h
theorem t_even {S : List AObj} {E : List Int} {e : Nat} (he : S[e]? = some (.list (pis E))) (hE : E ≠ []) (hl : E.length ≤ 1000) : ∃ τ, TR (gg w ns) lv (fd283 σ.length) (elTest (bdF[2]?)) (μE r c v kk d dep p f k e) S (evenB p E) (S ++ τ) := by
  have hE' : (E.map fun e => e.fmod 2) ≠ [] := by simpa using hE
  unfold evenB
  conv in (elTest _) => whnf
  by_cases h0 : (p.fmod 2 == 0) = true
  case neg =>
    rw [Bool.not_eq_true] at h0
    refine ⟨[], ?_⟩
    rw [List.append_nil, h0, Bool.false_and]
    apply TR.bool
    apply TB.andF
    apply TR.to
    · walk_at "tr"
    · exact h0
  rw [h0, Bool.true_and]
  refine ⟨[.list (pis (E.map fun e => e.fmod 2))], ?_⟩
  apply TR.bool
  apply TB.andT (σ₁ := S)
  · apply TR.to
    · walk_at "tr"
    · exact h0
  have hmin : TR (gg w ns) lv (fd283 σ.length) (elT1 (bdF[2]?)) (μE r c v kk d dep p f k e) S (lmin (E.map fun e => e.fmod 2) == 1) (S ++ [.list (pis (E.map fun e => e.fmod 2))]) := by
    conv in (elT1 _) => whnf
    with_reducible apply TR.cmp
    · with_reducible apply EV.call
      · walk_at "ev"
      · with_reducible apply AR.cons
        · apply EV.comp (kix := []) (σ₁ := S) (σ' := S) (rs := pis (E.map fun e => e.fmod 2))
          · walk_at "ev"
          · exact SRC.list he (by simp; omega)
          · exact he
          · rfl
          · simp; omega
          · rw [← pis_map]
            refine CompL.pure he fun u hu => ?_
            obtain ⟨i, hi, rfl⟩ := List.mem_map.mp hu
            show EV _ _ _ _ _ _ (.int (i.fmod 2)) _
            walk_at "ev"
          · intro c α h
            refine ⟨[], ?_, trivial⟩
            show closureFor _ (envX _ _ c.L _ _ c.cl) = _
            kernel_rfl
          · kernel_rfl
          · kernel_rfl
          · decide +kernel
          · decide +kernel
          · intro _ _; kernel_rfl
        · walk_at "ar"
        · intro _; kernel_rfl
      · exact CL.minL at_last (lmin_mem hE') fun _ h => lmin_le h
      · walk_at "kp"
      · kernel_rfl
      · intro _; kernel_rfl
    · walk_at "ev"
    · walk_at "op"
    · kernel_rfl
  by_cases h1 : (lmin (E.map fun e => e.fmod 2) == 1) = true
  case neg =>
    rw [Bool.not_eq_true] at h1
    rw [h1] at hmin
    rw [h1, Bool.false_and]
    apply TB.andF
    exact hmin
  rw [h1] at hmin
  rw [h1, Bool.true_and]
  apply TB.andT
  · exact hmin
  have he2 := get_app (τ := [.list (pis (E.map fun e => e.fmod 2))]) he
  apply TB.to
  · with_reducible apply TB.and2
    · with_reducible apply TR.cmp
      · with_reducible apply EV.call
        · walk_at "ev"
        · walk_at "ar"
        · exact CL.maxL he2 (lmax_mem hE) fun _ h => lmax_ge h
        · walk_at "kp"
        · kernel_rfl
        · intro _; kernel_rfl
      · walk_at "ev"
      · walk_at "op"
      · kernel_rfl
    · intro _
      with_reducible apply TB.and2
      · with_reducible apply TR.cmp
        · with_reducible apply EV.call
          · walk_at "ev"
          · walk_at "ar"
          · exact CL.minL he2 (lmin_mem hE) fun _ h => lmin_le h
          · walk_at "kp"
          · kernel_rfl
          · intro _; kernel_rfl
        · walk_at "ev"
        · walk_at "op"
        · kernel_rfl
      · intro _; walk_at "tb"
  · simp
end
end
section
section
variable {w : World} {ns : List Int} {lv : Nat} {σ τ rest : List AObj} {es : Tab} {t : Tree} {r c v kk d : Nat} {row : Nat → Nat} {dep p : Int} {i k f : Nat} {xs : List Int}
local macro_rules | `(tactic| walk_at "cel") => `(tactic| exact EV.cell (by kernel_rfl) RS.cell (by kernel_rfl) (by kernel_rfl) (by kernel_rfl))
local macro_rules | `(tactic| walk_at "ev2") => `(tactic| (with_reducible apply EV.sub; (walk_at "ev"); (walk_at "ev"); walk_at "it"))
local macro_rules | `(tactic| walk_at "it") => `(tactic| first
  | exact OP2.item (get_app (T4.ck (by assumption))) (by omega) (tab_getI (by assumption)) (by simp; omega) (by intro _ _; kernel_rfl)
  | exact OP2.item (get_app (T4.dr (by assumption))) (by omega) (tab_getI (by assumption)) (by simp; omega) (by intro _ _; kernel_rfl)
  | exact OP2.item (get_app (T4.ch (by assumption))) (by omega) (tab_getI (by assumption)) (by simp; omega) (by intro _ _; kernel_rfl))
local macro_rules | `(tactic| walk_at "tv") => `(tactic| first
  | with_reducible exact TV.bool
  | exact TV.list (get_app (T4.rows (by assumption) _ (by assumption))) (by simp; omega))
local macro_rules | `(tactic| walk_at "op2") => `(tactic| exact OP2.inTab RS.tab)
theorem CR1 {α : List Addr} {x : Str} {i : Nat} : ∀ {l : List (Str × Addr)}, CR α l [(x, i)] → ∃ a, l = [(x, a)] ∧ α[i]? = some a
  | [(x', a)], ⟨e1, q1, _⟩ => ⟨a, by rw [e1], q1⟩
theorem EX.iX {g : G} {fd : FD} {μ μ' : Loc} {σ' : List AObj} {pos : Pos} {te : Expr} {b b' : List Stmt} {y : Bool} (h : TR g lv fd te μ σ y τ) (h' : EX g lv fd (if y = true then b else b') μ τ .next μ' σ') : EX g lv fd [.If te b b' pos] μ σ .next μ' σ' := .cons (.ifs h h') .nil
theorem app_ex {f : Nat} {x : Int} (h : rest[f]? = some (.list (pis xs))) (hx : xs.length ≤ 1000) {fd : FD} {μ : Loc} {p1 p2 p3 p4 : Pos} {np : Pos}
    (h1 : EV (gg w ns) lv fd (.Name (.ofString "found") p1) μ (RS σ es rest) (.ref (σ.length + 2 + f)) (RS σ es rest)) (h2 : EV (gg w ns) lv fd (.Name (.ofString "node") p2) μ (RS σ es rest) (.int x) (RS σ es rest)) (hk : fd.cs.kind = .function) (hk' : fd.sc.kind = .function)
    (he : ∀ env, eval (.Call (.Attribute (.Name (.ofString "found") p1) (.ofString "append") p3) [.Name (.ofString "node") p2] [] p4) env = (do let ov ← eval (.Name (.ofString "found") p1) env; standAt p3.atName; let (f, first) ← holding [ov] (getMethod ov (.ofString "append") (do return (← importBound (.Name (.ofString "found") p1) env).getD true)); PySem.callWith p4 f first (backTo p4 (starEach [.Name (.ofString "node") p2] env)) []))
    (hs : ∀ env : Env, swapsWith (.Call (.Attribute (.Name (.ofString "found") p1) (.ofString "append") p3) [.Name (.ofString "node") p2] [] p4) none np.line env = pure false) :
    EX (gg w ns) lv fd [.Expr (.Call (.Attribute (.Name (.ofString "found") p1) (.ofString "append") p3) [.Name (.ofString "node") p2] [] p4) np] μ (RS σ es rest) .next μ (RS σ es (rest.set f (.list (pis (xs ++ [x]))))) := by
  apply EX.cons (σ₁ := RS σ es (rest.set f (.list (pis (xs ++ [x])))))
  · rw [← RS.set]
    apply ES.expr
    · with_reducible apply EV.me
      · exact h1
      · exact GM.list PySem.F.slot_list_append PySem.F.type_list_append (RS.at h)
      · with_reducible apply AR.cons
        · exact h2
        · exact AR.nil
        · intro _; kernel_rfl
      · rw [show pis (xs ++ [x]) = pis xs ++ [.int x] by simp]
        exact CL.append (RS.at h) (by simp; omega)
      · exact KP.builtin
      · exact hk
      · exact he
    · exact hk'
    · exact hs
  · exact EX.nil
theorem turnF (T : T4 t σ c kk d row) (hk : k < t.n) (hr : rest[f]? = some (.list (pis xs))) (hx : xs.length ≤ 1000) :
    ∃ rest' o, EX (gg w ns) lv (fd283 σ.length) bdF ((.ofString "node", .int (k : Int)) :: μF r c v kk d dep p (σ.length + 2 + f)) (RS σ es rest) o (μF r c v kk d dep p (σ.length + 2 + f)) (RS σ es rest') ∧ (o = .next ∨ o = .cont) ∧
      rest'[f]? = some (.list (pis (if pick t es p k = true then xs ++ [(k : Int)] else xs))) := by
  have hw := T.wf.small
  have hf := T.wf.few k
  by_cases hb : skipB t es k = true
  · refine ⟨rest, .cont, ?_, .inr rfl, by simp [pick, hb, hr]⟩
    refine EX.cov (μ₁ := (.ofString "node", .int (k : Int)) :: μF r c v kk d dep p (σ.length + 2 + f)) ?_ (by walk_at "cov")
    unfold bdF
    conv in (forBody _) => whnf
    apply EX.iT
    · walk_at "tr"
    · simpa [skipB] using hb
    · exact EX.co
    · simp
  have hb2 : (t.kids k).isEmpty = false := by
    rw [Bool.not_eq_true, skipB, Bool.or_eq_false_iff, Bool.or_eq_false_iff] at hb
    exact hb.2.1
  have hb' : skipB t es k = false := by simpa using hb
  have hr1 : (rest ++ [AObj.list (pis (endsOf t es k))])[f]? = some (.list (pis xs)) := get_app hr
  have hel : (RS σ es (rest ++ [AObj.list (pis (endsOf t es k))]))[σ.length + 2 + rest.length]? = some (.list (pis (endsOf t es k))) := RS.at (by simp)
  have hE : endsOf t es k ≠ [] := by
    intro q
    rw [endsOf, List.map_eq_nil_iff] at q
    rw [q] at hb2; cases hb2
  have hEl : (endsOf t es k).length ≤ 1000 := by simp [endsOf]; omega
  obtain ⟨τ, hev⟩ := t_even (w := w) (ns := ns) (lv := lv) (σ := σ) (r := r) (c := c) (v := v) (kk := kk) (d := d) (dep := dep) (p := p) (f := σ.length + 2 + f) (k := k) hel hE hEl
  rw [RS.app] at hev
  have hr2 : (rest ++ [AObj.list (pis (endsOf t es k))] ++ τ)[f]? = some (.list (pis xs)) := get_app hr1
  have hfin : ∃ rest', EX (gg w ns) lv (fd283 σ.length) (bdF.drop 2) (μE r c v kk d dep p (σ.length + 2 + f) k (σ.length + 2 + rest.length)) (RS σ es (rest ++ [AObj.list (pis (endsOf t es k))])) .next (μE r c v kk d dep p (σ.length + 2 + f) k (σ.length + 2 + rest.length)) (RS σ es rest') ∧
      rest'[f]? = some (.list (pis (if pick t es p k = true then xs ++ [(k : Int)] else xs))) := by
    unfold bdF at hev ⊢
    conv at hev in (elTest _) => whnf
    conv in (List.drop _ _) => whnf
    by_cases h1 : oddB p (endsOf t es k) = true
    · refine ⟨(rest ++ [AObj.list (pis (endsOf t es k))]).set f (.list (pis (xs ++ [(k : Int)]))), ?_, ?_⟩
      · apply EX.iTn
        · with_reducible apply TR.bool
          with_reducible apply TB.and2
          · walk_at "tr"
          · intro _
            with_reducible apply TB.and2
            · with_reducible apply TR.cmp
              · walk_at "ev"
              · walk_at "ev"
              · exact OP2.inList hel
              · kernel_rfl
            · intro _; walk_at "tb"
        · simpa [oddB] using h1
        · exact app_ex hr1 hx (by walk_at "ev") (by walk_at "ev") (by kernel_rfl) (by kernel_rfl) (by intro _; kernel_rfl) (by intro _; kernel_rfl)
        · exact EX.nil
      · rw [set_self hr1, show pick t es p k = true by simp [pick, hb', h1], if_pos rfl]
    · by_cases h2 : evenB p (endsOf t es k) = true
      · refine ⟨(rest ++ [AObj.list (pis (endsOf t es k))] ++ τ).set f (.list (pis (xs ++ [(k : Int)]))), ?_, ?_⟩
        · apply EX.iEn
          · with_reducible apply TR.bool
            with_reducible apply TB.and2
            · walk_at "tr"
            · intro _
              with_reducible apply TB.and2
              · with_reducible apply TR.cmp
                · walk_at "ev"
                · walk_at "ev"
                · exact OP2.inList hel
                · kernel_rfl
              · intro _; walk_at "tb"
          · simpa only [oddB, Bool.and_true, Bool.not_eq_true] using h1
          · apply EX.iTn
            · exact hev
            · exact h2
            · exact app_ex hr2 hx (by walk_at "ev") (by walk_at "ev") (by kernel_rfl) (by kernel_rfl) (by intro _; kernel_rfl) (by intro _; kernel_rfl)
            · exact EX.nil
          · exact EX.nil
        · rw [set_self hr2, show pick t es p k = true by simp [pick, hb', h2], if_pos rfl]
      · refine ⟨rest ++ [AObj.list (pis (endsOf t es k))] ++ τ, ?_, ?_⟩
        · apply EX.iEn
          · with_reducible apply TR.bool
            with_reducible apply TB.and2
            · walk_at "tr"
            · intro _
              with_reducible apply TB.and2
              · with_reducible apply TR.cmp
                · walk_at "ev"
                · walk_at "ev"
                · exact OP2.inList hel
                · kernel_rfl
              · intro _; walk_at "tb"
          · simpa only [oddB, Bool.and_true, Bool.not_eq_true] using h1
          · apply EX.iF
            · exact hev
            · simpa using h2
            · exact EX.nil
          · exact EX.nil
        · rw [hr2, show pick t es p k = false by simp [pick, hb', h1, h2], if_neg (by simp)]
  obtain ⟨rest', hX, hR⟩ := hfin
  refine ⟨rest', .next, ?_, .inl rfl, hR⟩
  refine EX.cov (μ₁ := μE r c v kk d dep p (σ.length + 2 + f) k (σ.length + 2 + rest.length)) ?_ (by walk_at "cov")
  unfold bdF at hX ⊢
  conv at hX in (List.drop _ _) => whnf
  conv in (forBody _) => whnf
  apply EX.iF
  · walk_at "tr"
  · simpa [skipB] using hb'
  apply EX.cons (μ₁ := μE r c v kk d dep p (σ.length + 2 + f) k (σ.length + 2 + rest.length)) (σ₁ := RS σ es (rest ++ [AObj.list (pis (endsOf t es k))]))
  · rw [← RS.app, ← RS.len (σ := σ) (es := es) (rest := rest)]
    apply ES.assignComp (kix := [(.ofString "told", σ.length)]) (σ₁ := RS σ es rest) (σ' := RS σ es rest) (rs := pis (endsOf t es k))
    · walk_at "ev"
    · exact SRC.list (get_app (T.rows k hk)) (by simp; omega)
    · exact get_app (T.rows k hk)
    · rfl
    · simp; omega
    · rw [← row_map]
      refine CompL.pure (get_app (T.rows k hk)) fun u hu => ?_
      obtain ⟨i, hi, rfl⟩ := List.mem_map.mp hu
      show EV _ _ _ _ _ _ (.int ((es.lookup (i : Int)).getD (-1))) _
      with_reducible apply EV.me
      · exact EV.cell (by kernel_rfl) RS.cell (by kernel_rfl) (by kernel_rfl) (by kernel_rfl)
      · exact GM.get RS.tab
      · walk_at "ar"
      · exact CL.get2 RS.tab
      · exact KP.builtin
      · kernel_rfl
      · intro _; kernel_rfl
    · intro c α h
      obtain ⟨a, e, q0⟩ := CR1 h
      refine ⟨[(.ofString "told", a)], ?_, rfl, q0, trivial⟩
      show closureFor _ (envX _ _ c.L _ _ c.cl) = _
      rw [e]
      kernel_rfl
    · kernel_rfl
    · kernel_rfl
    · decide +kernel
    · decide +kernel
    · intro _ _; kernel_rfl
    · kernel_rfl
    · kernel_rfl
    · intro _; kernel_rfl
  · exact hX
end
end
section
section
variable {w : World} {ns : List Int} {lv : Nat} {σ τ rest : List AObj} {es : Tab} {t : Tree} {r c v kk d : Nat} {row : Nat → Nat} {dep p : Int} {i k f : Nat} {xs : List Int}
local macro_rules | `(tactic| walk_at "cel") => `(tactic| exact EV.cell (by kernel_rfl) RS.cell (by kernel_rfl) (by kernel_rfl) (by kernel_rfl))
local macro_rules | `(tactic| walk_at "ev2") => `(tactic| (with_reducible apply EV.sub; (walk_at "ev"); (walk_at "ev"); walk_at "it"))
local macro_rules | `(tactic| walk_at "it") => `(tactic| first
  | exact OP2.item (get_app (T4.ck (by assumption))) (by omega) (tab_getI (by assumption)) (by simp; omega) (by intro _ _; kernel_rfl)
  | exact OP2.item (get_app (T4.dr (by assumption))) (by omega) (tab_getI (by assumption)) (by simp; omega) (by intro _ _; kernel_rfl)
  | exact OP2.item (get_app (T4.ch (by assumption))) (by omega) (tab_getI (by assumption)) (by simp; omega) (by intro _ _; kernel_rfl))
local macro_rules | `(tactic| walk_at "tv") => `(tactic| first
  | with_reducible exact TV.bool
  | exact TV.list (get_app (T4.rows (by assumption) _ (by assumption))) (by simp; omega))
local macro_rules | `(tactic| walk_at "op2") => `(tactic| exact OP2.inTab RS.tab)
noncomputable def stepR (t : Tree) (es : Tab) (p : Int) : Tab := (((List.range' 0 t.n).filter (pick t es p)).map fun k : Nat => (k : Int)).foldl (fun es k => putI k p es) es
noncomputable def roundsT (t : Tree) (dep : Nat) : Tab := (List.range' 1 dep).foldl (fun (es : Tab) (p : Nat) => stepR t es (p : Int)) ((List.range' 0 t.n).foldl (z0 t) [])
theorem putI_len {k v : Int} {es : Tab} : (putI k v es).length ≤ es.length + 1 := by
  unfold putI; split <;> simp
theorem z0_len {es : Tab} {k : Nat} : (z0 t es k).length ≤ es.length + 1 := by
  unfold z0; split
  · exact putI_len
  · omega
theorem fold_len {p : Int} : ∀ {l : List Int} {es : Tab}, (l.foldl (fun es k => putI k p es) es).length ≤ es.length + l.length
  | [], es => Nat.le_refl _
  | k :: l, es => by
    have h1 := fold_len (p := p) (l := l) (es := putI k p es)
    have h2 := putI_len (k := k) (v := p) (es := es)
    show (l.foldl (fun es k => putI k p es) (putI k p es)).length ≤ es.length + (l.length + 1)
    omega
theorem stepR_len (hw : t.n ≤ 100) : (stepR t es p).length ≤ es.length + 100 := by
  have h1 := fold_len (p := p) (l := ((List.range' 0 t.n).filter (pick t es p)).map fun k : Nat => (k : Int)) (es := es)
  have h2 := List.length_filter_le (pick t es p) (List.range' 0 t.n)
  rw [List.length_map] at h1
  rw [List.length_range'] at h2
  exact Nat.le_trans h1 (by omega)
theorem loopZ (T : T4 t σ c kk d row) : ∀ (m k : Nat) (es : Tab), k + m ≤ t.n → es.length + m < 100000 →
    Loop (gg w ns) lv (fd283 σ.length) (forBody ((boO (stm 33))[2]?)) (bndL (.ofString "node")) (fun _ => True) (nInts k m) (μR r c v kk d dep) (RS σ es rest) .next (μR r c v kk d dep) (RS σ ((List.range' k m).foldl (z0 t) es) rest)
  | 0, k, es, _, _ => ⟨rfl, rfl, rfl⟩
  | m + 1, k, es, h, hl => by
    have h2 := z0_len (t := t) (es := es) (k := k)
    exact Loop.next (v := .int (k : Int)) (vs := nInts (k + 1) m) (turnZ T (by omega) (by omega)) trivial (loopZ T m (k + 1) (z0 t es k) (by omega) (by omega))
theorem loopF (T : T4 t σ c kk d row) : ∀ (m k : Nat) (rest : List AObj) (xs : List Int), k + m ≤ t.n → xs.length + m ≤ 1000 → rest[f]? = some (.list (pis xs)) →
    ∃ rest', Loop (gg w ns) lv (fd283 σ.length) bdF (bndL (.ofString "node")) (fun _ => True) (nInts k m) (μF r c v kk d dep p (σ.length + 2 + f)) (RS σ es rest) .next (μF r c v kk d dep p (σ.length + 2 + f)) (RS σ es rest') ∧
      rest'[f]? = some (.list (pis (xs ++ ((List.range' k m).filter (pick t es p)).map fun k : Nat => (k : Int))))
  | 0, k, rest, xs, _, _, hr => ⟨rest, ⟨rfl, rfl, rfl⟩, by simpa using hr⟩
  | m + 1, k, rest, xs, h, hl, hr => by
    obtain ⟨rest₁, o, hE, ho, h₁⟩ := turnF (w := w) (ns := ns) (lv := lv) (r := r) (v := v) (dep := dep) (p := p) (es := es) T (by omega : k < t.n) hr (by omega)
    obtain ⟨rest₂, hL, h₂⟩ := loopF T m (k + 1) rest₁ (if pick t es p k = true then xs ++ [(k : Int)] else xs) (by omega) (by split; (rw [List.length_append]; simp; omega); omega) h₁
    refine ⟨rest₂, ?_, ?_⟩
    · rcases ho with rfl | rfl
      · exact Loop.next (v := .int (k : Int)) (vs := nInts (k + 1) m) hE trivial hL
      · exact Loop.cont (v := .int (k : Int)) (vs := nInts (k + 1) m) hE trivial hL
    · rw [h₂, List.range'_succ, List.filter_cons]
      split <;> simp
theorem loop3 {fs : List Int} (hr : rest[f]? = some (.list (pis fs))) : ∀ (l : List Int) (es : Tab), es.length + l.length < 100000 →
    Loop (gg w ns) lv (fd283 σ.length) (forBody ((forBody ((boO (stm 33))[3]?))[2]?)) (bndL (.ofString "node")) (fun τ => τ[σ.length + 2 + f]? = some (.list (pis fs))) (pis l) (μF r c v kk d dep p (σ.length + 2 + f)) (RS σ es rest) .next (μF r c v kk d dep p (σ.length + 2 + f)) (RS σ (l.foldl (fun es k => putI k p es) es) rest)
  | [], es, _ => ⟨rfl, rfl, rfl⟩
  | k :: l, es, h => by
    have h2 := putI_len (k := k) (v := p) (es := es)
    have h3 : es.length + (l.length + 1) < 100000 := h
    refine Loop.next (v := .int k) (vs := pis l) (σ₁ := RS σ (putI k p es) rest) ?_ (RS.at hr) (loop3 hr l (putI k p es) (by omega))
    refine EX.cov (μ₁ := (.ofString "node", .int k) :: μF r c v kk d dep p (σ.length + 2 + f)) ?_ (by walk_at "cov")
    conv in (forBody _) => whnf
    apply EX.cons (σ₁ := RS σ (putI k p es) rest)
    · rw [← RS.put (σ := σ) (rest := rest) (es := es) (es' := putI k p es)]
      apply ES.setTab
      · walk_at "ev"
      · walk_at "ev"
      · walk_at "ev"
      · exact RS.tab
      · omega
      · intro _; kernel_rfl
    · exact EX.nil
theorem turnP (T : T4 t σ c kk d row) (hes : es.length + 100 < 100000) :
    ∃ rest', EX (gg w ns) lv (fd283 σ.length) (forBody ((boO (stm 33))[3]?)) ((.ofString "plies", .int p) :: μR r c v kk d dep) (RS σ es rest) .next (μR r c v kk d dep) (RS σ (stepR t es p) rest') := by
  have hw := T.wf.small
  obtain ⟨rest', hL, hF⟩ := loopF (w := w) (ns := ns) (lv := lv) (r := r) (v := v) (dep := dep) (p := p) (es := es) (f := rest.length) T t.n 0 (rest ++ [.list (pis [])] ++ [.rng 0 (t.n : Int)]) [] (by omega) (by simp; omega) (get_app at_last)
  have h3 := loop3 (w := w) (ns := ns) (lv := lv) (σ := σ) (r := r) (c := c) (v := v) (kk := kk) (d := d) (dep := dep) (p := p) hF (((List.range' 0 t.n).filter (pick t es p)).map fun k : Nat => (k : Int)) es (by
    have h2 := List.length_filter_le (pick t es p) (List.range' 0 t.n)
    rw [List.length_range'] at h2
    rw [List.length_map]; omega)
  rw [List.nil_append] at hF h3
  have hl2 := List.length_filter_le (pick t es p) (List.range' 0 t.n)
  rw [List.length_range'] at hl2
  unfold bdF at hL
  refine ⟨rest', ?_⟩
  refine EX.cov (μ₁ := μF r c v kk d dep p (σ.length + 2 + rest.length)) ?_ (by walk_at "cov")
  conv at hL in (forBody _) => whnf
  conv at h3 in (forBody _) => whnf
  conv in (forBody _) => whnf
  apply EX.cons (μ₁ := μF r c v kk d dep p (σ.length + 2 + rest.length)) (σ₁ := RS σ es (rest ++ [.list (pis [])]))
  · rw [← RS.app, ← RS.len (σ := σ) (es := es) (rest := rest)]
    apply ES.assign
    · exact EV.list AR.nil (by decide)
    · kernel_rfl
    · kernel_rfl
    · kernel_rfl
    · intro _; kernel_rfl
  apply EX.cons (μ₁ := μF r c v kk d dep p (σ.length + 2 + rest.length)) (σ₁ := RS σ es rest')
  · apply ES.for_ (xs := rInts 0 (t.n : Int)) (σ₁ := RS σ es (rest ++ [.list (pis [])] ++ [.rng 0 (t.n : Int)])) (keep := fun _ => True) (rv := .ref (RS σ es (rest ++ [.list (pis [])])).length)
    · rw [← RS.app (σ := σ) (es := es) (rest := rest ++ [AObj.list (pis [])]) (τ := [AObj.rng 0 (t.n : Int)])]
      with_reducible apply EV.call
      · walk_at "ev"
      · with_reducible apply AR.cons (r := .int (t.n : Int))
        · have hlen := CL.len (g := gg w ns) (lv := lv) (get_app (τ := .cell (some (.ref (σ.length + 1))) :: .tab es :: (rest ++ [.list (pis [])])) T.ch) (by simp; omega)
          rw [List.length_map, List.length_range] at hlen
          with_reducible apply EV.call
          · walk_at "ev"
          · walk_at "ar"
          · exact hlen
          · walk_at "kp"
          · kernel_rfl
          · intro _; kernel_rfl
        · walk_at "ar"
        · intro _; kernel_rfl
      · exact CL.range1
      · walk_at "kp"
      · kernel_rfl
      · intro _; kernel_rfl
    · rw [← RS.app (σ := σ) (es := es) (rest := rest ++ [AObj.list (pis [])]) (τ := [AObj.rng 0 (t.n : Int)])]
      exact SRC.range at_last (by omega)
    · kernel_rfl
    · exact BIND.loc (by kernel_rfl) (by kernel_rfl) (by kernel_rfl)
    · trivial
    · rw [rInts_n]; exact hL
    · intro _ _; kernel_rfl
  apply EX.cons
  · apply ES.for_ (rv := .ref (σ.length + 2 + rest.length))
    · walk_at "ev"
    · exact SRC.list (RS.at hF) (by simp; omega)
    · kernel_rfl
    · exact BIND.loc (by kernel_rfl) (by kernel_rfl) (by kernel_rfl)
    · exact RS.at hF
    · exact h3
    · intro _ _; kernel_rfl
  · exact EX.nil
theorem loopP (T : T4 t σ c kk d row) : ∀ (m a : Nat) (es : Tab) (rest : List AObj), es.length + 100 * m < 100000 →
    ∃ rest', Loop (gg w ns) lv (fd283 σ.length) (forBody ((boO (stm 33))[3]?)) (bndL (.ofString "plies")) (fun _ => True) (nInts a m) (μR r c v kk d dep) (RS σ es rest) .next (μR r c v kk d dep) (RS σ ((List.range' a m).foldl (fun (es : Tab) (p : Nat) => stepR t es (p : Int)) es) rest')
  | 0, a, es, rest, _ => ⟨rest, rfl, rfl, rfl⟩
  | m + 1, a, es, rest, h => by
    have h2 := stepR_len (t := t) (es := es) (p := (a : Int)) T.wf.small
    obtain ⟨rest₁, hE⟩ := turnP (w := w) (ns := ns) (lv := lv) (r := r) (v := v) (dep := dep) (p := (a : Int)) (es := es) (rest := rest) T (by omega)
    obtain ⟨rest₂, hL⟩ := loopP T m (a + 1) (stepR t es (a : Int)) rest₁ (by omega)
    exact ⟨rest₂, Loop.next (v := .int (a : Int)) (vs := nInts (a + 1) m) hE trivial hL⟩
end
end
section
section
variable {w : World} {ns : List Int} {lv : Nat} {σ τ rest : List AObj} {es : Tab} {t : Tree} {r c v kk d : Nat} {row : Nat → Nat} {p : Int} {i k f : Nat} {xs : List Int}
local macro_rules | `(tactic| walk_at "cel") => `(tactic| exact EV.cell (by kernel_rfl) RS.cell (by kernel_rfl) (by kernel_rfl) (by kernel_rfl))
local macro_rules | `(tactic| walk_at "ev2") => `(tactic| (with_reducible apply EV.sub; (walk_at "ev"); (walk_at "ev"); walk_at "it"))
local macro_rules | `(tactic| walk_at "it") => `(tactic| first
  | exact OP2.item (get_app (T4.ck (by assumption))) (by omega) (tab_getI (by assumption)) (by simp; omega) (by intro _ _; kernel_rfl)
  | exact OP2.item (get_app (T4.dr (by assumption))) (by omega) (tab_getI (by assumption)) (by simp; omega) (by intro _ _; kernel_rfl)
  | exact OP2.item (get_app (T4.ch (by assumption))) (by omega) (tab_getI (by assumption)) (by simp; omega) (by intro _ _; kernel_rfl))
local macro_rules | `(tactic| walk_at "tv") => `(tactic| first
  | with_reducible exact TV.bool
  | exact TV.list (get_app (T4.rows (by assumption) _ (by assumption))) (by simp; omega))
local macro_rules | `(tactic| walk_at "op2") => `(tactic| exact OP2.inTab RS.tab)
theorem foldZ_len : ∀ {l : List Nat} {es : Tab}, (l.foldl (z0 t) es).length ≤ es.length + l.length
  | [], es => Nat.le_refl _
  | k :: l, es => by
    have h1 := foldZ_len (l := l) (es := z0 t es k)
    have h2 := z0_len (t := t) (k := k) (es := es)
    show (l.foldl (z0 t) (z0 t es k)).length ≤ es.length + (l.length + 1)
    omega
theorem rInts_1 {n : Nat} : rInts 1 ((n : Int) + 1) = nInts 1 n := by
  show (List.range ((n : Int) + 1 - 1).toNat).map (fun i : Nat => PV.int (1 + (i : Int))) = _
  rw [show ((n : Int) + 1 - 1).toNat = n by omega, nInts, List.range'_eq_map_range, List.map_map]
  exact List.map_congr_left fun i _ => by simp
theorem opt_drop {o : Option Int} : ∀ (lS : Addr) (α β : List Addr) (v : Value), Is lS (α ++ β) (ofOpt o) v → Is lS α (ofOpt o) v := by
  intro lS α β v h
  cases o <;> exact h
theorem r_rounds {dep : Nat} (T : T4 t σ c kk d row) (hr : σ[r]? = some (.tup [.ref c, .ref v, .ref kk, .ref d])) (hd : dep ≤ 10) :
    CL (gg w ns) (lv + 1) (.ref 283) [.ref r, .int (dep : Int)] σ (ofOpt ((roundsT t dep).lookup 0)) σ := by
  have hw := T.wf.small
  have hZ := loopZ (w := w) (ns := ns) (lv := lv) (rest := [.rng 0 (t.n : Int)]) (r := r) (v := v) (dep := (dep : Int)) T t.n 0 [] (by omega) (by simp; omega)
  have hz := foldZ_len (t := t) (l := List.range' 0 t.n) (es := [])
  rw [List.length_range', List.length_nil] at hz
  obtain ⟨rest', hP⟩ := loopP (w := w) (ns := ns) (lv := lv) (r := r) (v := v) (dep := (dep : Int)) T dep 1 ((List.range' 0 t.n).foldl (z0 t) []) [.rng 0 (t.n : Int), .rng 1 ((dep : Int) + 1)] (by omega)
  refine CL.drop (τ := .cell (some (.ref (σ.length + 1))) :: .tab (roundsT t dep) :: rest') (CX.cl (CX.frC [.ofString "tree", .ofString "depth"] [.ofString "told"] [0] (k283 _) (c283 _) (bind2 fun _ _ => by kernel_rfl) (by kernel_rfl) (fun _ => by kernel_rfl) rfl (by decide) (by decide) rfl rfl rfl ?_)) opt_drop
  show ER _ _ (fd283 σ.length) _ _ (σ ++ [.cell none]) _ (RS σ (roundsT t dep) rest')
  have h0 : (σ ++ [AObj.cell none])[σ.length]? = some (.cell none) := at_last
  conv at hZ in (forBody _) => whnf
  conv at hP in (forBody _) => whnf
  walk_at "body"
  apply ER.cons
  · apply ES.unpackN (rs := [.ref c, .ref v, .ref kk, .ref d])
    · walk_at "ev"
    · exact get_app hr
    · kernel_rfl
    · kernel_rfl
    · show ∀ p ∈ psOf _, (scO (stm 33)).names.lookup p.1 = some .local
      decide +kernel
    · rfl
    · intro _; kernel_rfl
    · intro _; kernel_rfl
    · intro _; kernel_rfl
  show ER _ _ _ _ (μR r c v kk d (dep : Int)) _ _ _
  apply ER.cons (σ₁ := RS σ [] [])
  · rw [show RS σ [] [] = (σ ++ [AObj.cell none] ++ [AObj.tab []]).set σ.length (.cell (some (.ref (σ ++ [AObj.cell none]).length))) by
      rw [List.append_assoc, List.set_append_right _ _ (Nat.le_refl _), Nat.sub_self]; simp]
    apply ES.assignC
    · exact EV.dict
    · kernel_rfl
    · exact get_app h0
    · kernel_rfl
    · kernel_rfl
    · intro _; kernel_rfl
  apply ER.cons (μ₁ := μR r c v kk d (dep : Int)) (σ₁ := RS σ ((List.range' 0 t.n).foldl (z0 t) []) [.rng 0 (t.n : Int)])
  · apply ES.for_ (xs := rInts 0 (t.n : Int)) (σ₁ := RS σ [] ([] ++ [.rng 0 (t.n : Int)])) (keep := fun _ => True) (rv := .ref (RS σ [] []).length)
    · rw [← RS.app (σ := σ) (es := []) (rest := []) (τ := [AObj.rng 0 (t.n : Int)])]
      with_reducible apply EV.call
      · walk_at "ev"
      · with_reducible apply AR.cons (r := .int (t.n : Int))
        · have hlen := CL.len (g := gg w ns) (lv := lv) (get_app (τ := .cell (some (.ref (σ.length + 1))) :: .tab [] :: []) T.ch) (by simp; omega)
          rw [List.length_map, List.length_range] at hlen
          with_reducible apply EV.call
          · walk_at "ev"
          · walk_at "ar"
          · exact hlen
          · walk_at "kp"
          · kernel_rfl
          · intro _; kernel_rfl
        · walk_at "ar"
        · intro _; kernel_rfl
      · exact CL.range1
      · walk_at "kp"
      · kernel_rfl
      · intro _; kernel_rfl
    · rw [← RS.app (σ := σ) (es := []) (rest := []) (τ := [AObj.rng 0 (t.n : Int)])]
      exact SRC.range at_last (by omega)
    · kernel_rfl
    · exact BIND.loc (by kernel_rfl) (by kernel_rfl) (by kernel_rfl)
    · trivial
    · rw [rInts_n]; exact hZ
    · intro _ _; kernel_rfl
  apply ER.cons (μ₁ := μR r c v kk d (dep : Int)) (σ₁ := RS σ (roundsT t dep) rest')
  · apply ES.for_ (xs := rInts 1 ((dep : Int) + 1)) (σ₁ := RS σ ((List.range' 0 t.n).foldl (z0 t) []) ([.rng 0 (t.n : Int)] ++ [.rng 1 ((dep : Int) + 1)])) (keep := fun _ => True) (rv := .ref (RS σ ((List.range' 0 t.n).foldl (z0 t) []) [.rng 0 (t.n : Int)]).length)
    · rw [← RS.app (σ := σ) (es := ((List.range' 0 t.n).foldl (z0 t) [])) (rest := [.rng 0 (t.n : Int)]) (τ := [AObj.rng 1 ((dep : Int) + 1)])]
      with_reducible apply EV.call
      · walk_at "ev"
      · walk_at "ar"
      · exact CL.range2
      · walk_at "kp"
      · kernel_rfl
      · intro _; kernel_rfl
    · rw [← RS.app (σ := σ) (es := ((List.range' 0 t.n).foldl (z0 t) [])) (rest := [.rng 0 (t.n : Int)]) (τ := [AObj.rng 1 ((dep : Int) + 1)])]
      exact SRC.range at_last (by omega)
    · kernel_rfl
    · exact BIND.loc (by kernel_rfl) (by kernel_rfl) (by kernel_rfl)
    · trivial
    · rw [rInts_1]; exact hP
    · intro _ _; kernel_rfl
  apply ER.re
  · with_reducible apply EV.me
    · walk_at "ev"
    · exact GM.get RS.tab
    · walk_at "ar"
    · exact CL.get1 RS.tab
    · exact KP.builtin
    · kernel_rfl
    · intro _; kernel_rfl
  · rfl
end
end
section
/-! the game is made -/
abbrev GS (σ : List AObj) (fs : List (Str × PV)) (τ : List AObj) : List AObj := σ ++ (.ns fs :: .inst 248 σ.length :: τ)
section
variable {w : World} {ns : List Int} {lv : Nat} {σ τ : List AObj} {fs fs' : List (Str × PV)} {c v k d m : Nat}
theorem GS.nsx : (GS σ fs τ)[σ.length]? = some (.ns fs) := by simp
theorem GS.inst : (GS σ fs τ)[σ.length + 1]? = some (.inst 248 σ.length) := by
  rw [List.getElem?_append_right (by omega), show σ.length + 1 - σ.length = 1 by omega]; rfl
theorem GS.put : (GS σ fs τ).set σ.length (.ns fs') = GS σ fs' τ := by
  rw [List.set_append_right _ _ (Nat.le_refl _), Nat.sub_self]; rfl
theorem GS.app {τ' : List AObj} : GS σ fs τ ++ τ' = GS σ fs (τ ++ τ') := by simp
theorem GS.len : (GS σ fs τ).length = σ.length + 2 + τ.length := by simp; omega
abbrev sG (c v k d m : Nat) (s : Nat) : Loc := [(.ofString "gains", .ref m), (.ofString "noisy", .ref m), (.ofString "draws", .ref d), (.ofString "checks", .ref k), (.ofString "values", .ref v), (.ofString "children", .ref c), (.ofString "self", .ref (s + 1))]
local macro_rules | `(tactic| walk_at "gt") => `(tactic| (rw [← GS.put (σ := σ)]; apply ES.setAttr (C := 248); (walk_at "ev"); (walk_at "ev"); exact GS.inst; exact GS.nsx; kernel_rfl; decide; kernel_rfl; kernel_rfl; kernel_rfl; kernel_rfl; (intro _; kernel_rfl)))
abbrev gfx (c v k d m p : Nat) : List (Str × PV) := [(.ofString "children", .ref c), (.ofString "values", .ref v), (.ofString "checks", .ref k), (.ofString "draws", .ref d), (.ofString "noisy_rows", .ref m), (.ofString "gain_rows", .ref m), (.ofString "path", .ref p)]
theorem ES.setG {fd : FD} {μ : Loc} {r : PV} {name : Str} {τ' : List AObj} {pos pos' : Pos} {a e : Expr} (hv : EV (gg w ns) lv fd e μ (GS σ fs τ) r (GS σ fs τ')) (ha : EV (gg w ns) lv fd a μ (GS σ fs τ') (.ref (σ.length + 1)) (GS σ fs τ')) (ef : fs.lookup name = none) (hl : fs.length < 900)
    (k₃ : takerIn (K w.params) 248 name = some none) (hs : ∀ c : Cfg, swapsWith e (some (.Attribute a name pos')) pos.line (c.env fd) = pure false) :
    ES (gg w ns) lv fd (.Assign [.Attribute a name pos'] e pos) μ (GS σ fs τ) .next μ (GS σ (fs ++ [(name, r)]) τ') := by
  rw [← GS.put (σ := σ) (fs := fs) (fs' := fs ++ [(name, r)])]
  exact ES.setAttr (C := 248) hv ha GS.inst GS.nsx ef hl (by kernel_rfl) (by kernel_rfl) k₃ (by kernel_rfl) hs
theorem m_init : CX (gg w ns) (lv + 1) (.ref 170) [.ref (σ.length + 1), .ref c, .ref v, .ref k, .ref d, .ref m, .ref m] (σ ++ [.ns []] ++ [.inst 248 σ.length]) .none (GS σ (gfx c v k d m (σ.length + 2)) [.list [.int 0]]) := by
  rw [show σ ++ [AObj.ns []] ++ [AObj.inst 248 σ.length] = GS σ [] [] by simp]
  apply CX.fn (o := .next) [.ofString "self", .ofString "children", .ofString "values", .ofString "checks", .ofString "draws", .ofString "noisy", .ofString "gains"] (k170 _) (c170 _) (fun | [a, b, c, d, e, f, g], _ => by kernel_rfl) (by kernel_rfl) rfl
  · walk_at "body"
    iterate 6
      apply EX.cons
      · apply ES.setG
        · walk_at "ev"
        · walk_at "ev"
        · kernel_rfl
        · simp
        · kernel_rfl
        · intro _; kernel_rfl
    apply EX.cons
    · apply ES.setG (r := .ref (σ.length + 2)) (τ' := [.list [.int 0]])
      · have h : ∀ {fd : FD} {μ : Loc} {pos p2 : Pos} {n : Nat} {fs}, EV (gg w ns) lv fd (.List [.Constant (.int 0) n p2] pos) μ (GS σ fs []) (.ref (σ.length + 2)) (GS σ fs [.list [.int 0]]) := by
          intro fd μ pos p2 n fs
          rw [show [AObj.list [.int 0]] = [] ++ [AObj.list [.int 0]] from rfl, ← GS.app, show PV.ref (σ.length + 2) = .ref (GS σ fs []).length by rw [GS.len]; rfl]
          apply EV.list
          · walk_at "ar"
          · decide
        exact h
      · walk_at "ev"
      · kernel_rfl
      · simp
      · kernel_rfl
      · intro _; kernel_rfl
    exact EX.nil
  · rfl
theorem made : CL (gg w ns) (lv + 2) (.ref 248) [.ref c, .ref v, .ref k, .ref d, .ref m, .ref m] σ (.ref (σ.length + 1)) (GS σ (gfx c v k d m (σ.length + 2)) [.list [.int 0]]) :=
  CL.inst (by kernel_rfl) (by kernel_rfl) (by kernel_rfl) m_init
end
end
section
/-! the plain law -/
section
variable {t : Tree} {es : Tab} {i k d : Nat} {p q : Int}
theorem lk_cons {a k : Int} {v : Int} : List.lookup a ((k, v) :: es) = if a = k then some v else List.lookup a es := by
  rw [List.lookup_cons]
  by_cases h : a = k
  · simp [h]
  · rw [if_neg h, show (a == k) = false by simp [h]]
theorem putI_lk {k v j : Int} : (putI k v es).lookup j = if j = k then some v else es.lookup j := by
  unfold putI
  split
  case isTrue h =>
    have h2 : ∀ (l : Tab), List.lookup j (l.map fun p => if p.1 == k then (p.1, v) else p) = if j = k then (if l.any (fun p => p.1 == k) = true then some v else none) else List.lookup j l := by
      intro l
      induction l with
      | nil => simp
      | cons p l ih =>
        rw [List.map_cons]
        obtain ⟨a, b⟩ := p
        by_cases ha : a = k
        · subst ha
          simp only [beq_self_eq_true, if_true]
          rw [lk_cons, ih, lk_cons]
          by_cases hj : j = a <;> simp [hj]
        · have hb : (a == k) = false := by simp [ha]
          simp only [hb, Bool.false_eq_true, if_false]
          rw [lk_cons, ih, lk_cons]
          by_cases hj : j = k
          · subst hj
            have : ¬ j = a := fun q => ha q.symm
            rw [if_neg this, if_pos rfl, if_pos rfl, List.any_cons]
            simp only [hb, Bool.false_or]
          · by_cases hja : j = a
            · rw [if_pos hja, if_neg hj, if_pos hja]
            · rw [if_neg hja, if_neg hj, if_neg hj, if_neg hja]
    rw [h2]
    by_cases hj : j = k
    · rw [if_pos hj, if_pos hj, if_pos h]
    · rw [if_neg hj, if_neg hj]
  case isFalse h =>
    have h2 : ∀ (l : Tab), l.any (fun p => p.1 == k) = false → List.lookup j (l ++ [(k, v)]) = if j = k then some v else List.lookup j l := by
      intro l
      induction l with
      | nil => intro _; rw [List.nil_append, lk_cons]
      | cons p l ih =>
        intro hl
        obtain ⟨a, b⟩ := p
        simp only [List.any_cons, Bool.or_eq_false_iff, beq_eq_false_iff_ne] at hl
        rw [List.cons_append, lk_cons, ih hl.2, lk_cons]
        by_cases hj : j = k
        · subst hj
          have : ¬ j = a := fun q => hl.1 q.symm
          simp [this]
        · by_cases hja : j = a
          · rw [if_pos hja, if_neg hj, if_pos hja]
          · rw [if_neg hja, if_neg hj, if_neg hj, if_neg hja]
    exact h2 es (Bool.eq_false_iff.mpr h)
theorem fold_lk {j : Int} : ∀ {l : List Int} {es : Tab}, (l.foldl (fun es k => putI k p es) es).lookup j = if j ∈ l then some p else es.lookup j
  | [], es => by simp
  | k :: l, es => by
    show (l.foldl (fun es k => putI k p es) (putI k p es)).lookup j = _
    rw [fold_lk, putI_lk]
    by_cases h1 : j ∈ l
    · simp [h1]
    · by_cases h2 : j = k <;> simp [h1, h2]
theorem foldZ_lk : ∀ {l : List Nat} {es : Tab}, (l.foldl (z0 t) es).lookup (i : Int) = if i ∈ l ∧ zb t i = true then some 0 else es.lookup (i : Int)
  | [], es => by simp
  | k :: l, es => by
    show (l.foldl (z0 t) (z0 t es k)).lookup (i : Int) = _
    rw [foldZ_lk]
    by_cases hz : zb t k = true
    · rw [z0, if_pos hz, putI_lk]
      by_cases h1 : i ∈ l ∧ zb t i = true
      · rw [if_pos h1, if_pos ⟨.tail _ h1.1, h1.2⟩]
      · rw [if_neg h1]
        by_cases h2 : i = k
        · subst h2; rw [if_pos rfl, if_pos ⟨.head _, hz⟩]
        · rw [if_neg (by omega), if_neg]
          rintro ⟨h3, h4⟩
          rcases List.mem_cons.mp h3 with h3 | h3
          · exact h2 h3
          · exact h1 ⟨h3, h4⟩
    · rw [z0, if_neg hz]
      by_cases h1 : i ∈ l ∧ zb t i = true
      · rw [if_pos h1, if_pos ⟨.tail _ h1.1, h1.2⟩]
      · rw [if_neg h1, if_neg]
        rintro ⟨h3, h4⟩
        rcases List.mem_cons.mp h3 with h3 | h3
        · subst h3; exact hz h4
        · exact h1 ⟨h3, h4⟩
noncomputable def tabs (t : Tree) : Nat → Tab
  | 0 => (List.range' 0 t.n).foldl (z0 t) []
  | d + 1 => stepR t (tabs t d) ((d + 1 : Nat) : Int)
theorem rounds_tabs : ∀ {d : Nat}, roundsT t d = tabs t d
  | 0 => rfl
  | d + 1 => by
    have ih := rounds_tabs (d := d)
    unfold roundsT at ih ⊢
    rw [List.range'_1_concat, List.foldl_append, ih, Nat.add_comm 1 d]; rfl
noncomputable def LL (t : Tree) (d i : Nat) : Option Int := (tabs t d).lookup (i : Int)
theorem LL_zero (h : i < t.n) : LL t 0 i = if zb t i = true then some 0 else none := by
  show ((List.range' 0 t.n).foldl (z0 t) []).lookup (i : Int) = _
  rw [foldZ_lk]
  by_cases hz : zb t i = true
  · rw [if_pos ⟨List.mem_range'_1.mpr (by omega), hz⟩, if_pos hz]
  · rw [if_neg (fun q => hz q.2), if_neg hz]; rfl
theorem LL_succ (h : i < t.n) : LL t (d + 1) i = if pick t (tabs t d) ((d + 1 : Nat) : Int) i = true then some ((d + 1 : Nat) : Int) else LL t d i := by
  show (stepR t (tabs t d) ((d + 1 : Nat) : Int)).lookup (i : Int) = _
  unfold stepR
  rw [fold_lk]
  by_cases hp : pick t (tabs t d) ((d + 1 : Nat) : Int) i = true
  · rw [if_pos hp, if_pos]
    exact List.mem_map.mpr ⟨i, List.mem_filter.mpr ⟨List.mem_range'_1.mpr (by omega), hp⟩, rfl⟩
  · rw [if_neg hp, if_neg]
    · rfl
    · intro q
      obtain ⟨j, hj, e⟩ := List.mem_map.mp q
      have : j = i := by omega
      subst this
      exact hp (List.mem_filter.mp hj).2
def GoodO (A : Nat → Option Int) (ks : List Nat) : Option Int → Prop
  | none => (∀ k ∈ ks, ∀ e, A k = some e → e % 2 = 1) ∧ ∃ k ∈ ks, A k = none
  | some e => (e % 2 = 1 ∧ (∃ k ∈ ks, A k = some (e - 1)) ∧ ∀ k ∈ ks, ∀ e', A k = some e' → e' % 2 = 0 → e - 1 ≤ e') ∨
      (e % 2 = 0 ∧ (∃ k ∈ ks, A k = some (e - 1)) ∧ ∀ k ∈ ks, ∃ e', A k = some e' ∧ e' % 2 = 1 ∧ e' ≤ e - 1)
theorem fm2 (a : Int) : a.fmod 2 = a % 2 := Int.fmod_eq_emod_of_nonneg _ (by decide)
theorem oddB_iff {A : Nat → Option Int} {ks : List Nat} (hq : 0 ≤ q) : oddB (q + 1) (ks.map fun k => (A k).getD (-1)) = true ↔ q % 2 = 0 ∧ ∃ k ∈ ks, A k = some q := by
  unfold oddB
  rw [fm2, Bool.and_eq_true, beq_iff_eq, List.any_eq_true]
  constructor
  · rintro ⟨h1, x, hx, e⟩
    obtain ⟨k, hk, rfl⟩ := List.mem_map.mp hx
    refine ⟨by omega, k, hk, ?_⟩
    cases hA : A k with
    | none => rw [hA] at e; simp at e; omega
    | some y => rw [hA] at e; simp at e; rw [e]
  · rintro ⟨h1, k, hk, e⟩
    refine ⟨by omega, (A k).getD (-1), List.mem_map.mpr ⟨k, hk, rfl⟩, ?_⟩
    rw [e]; simp
theorem evenB_iff {A : Nat → Option Int} {ks : List Nat} (hks : ks ≠ []) (hq : 0 ≤ q) (hA : ∀ k ∈ ks, ∀ e, A k = some e → 0 ≤ e ∧ e ≤ q) : evenB (q + 1) (ks.map fun k => (A k).getD (-1)) = true ↔ q % 2 = 1 ∧ (∃ k ∈ ks, A k = some q) ∧ ∀ k ∈ ks, ∃ e, A k = some e ∧ e % 2 = 1 := by
  have hE : (ks.map fun k => (A k).getD (-1)) ≠ [] := by simpa using hks
  have hE' : ((ks.map fun k => (A k).getD (-1)).map fun e => e.fmod 2) ≠ [] := by simpa using hks
  unfold evenB
  rw [fm2, Bool.and_eq_true, Bool.and_eq_true, Bool.and_eq_true, beq_iff_eq, beq_iff_eq, beq_iff_eq, decide_eq_true_iff]
  constructor
  · rintro ⟨h1, h2, h3, h4⟩
    have hsome : ∀ k ∈ ks, ∃ e, A k = some e ∧ e % 2 = 1 := by
      intro k hk
      have hm : (A k).getD (-1) ∈ ks.map fun k => (A k).getD (-1) := List.mem_map.mpr ⟨k, hk, rfl⟩
      have h5 := lmin_le hm
      have h6 := lmin_le (List.mem_map_of_mem (f := fun e : Int => e.fmod 2) hm)
      rw [h2, fm2] at h6
      cases hB : A k with
      | none => rw [hB] at h5; simp at h5; omega
      | some y => rw [hB] at h6; simp at h6; exact ⟨y, rfl, by omega⟩
    refine ⟨by omega, ?_, hsome⟩
    have h7 := lmax_mem hE
    rw [h3] at h7
    obtain ⟨k, hk, e⟩ := List.mem_map.mp h7
    obtain ⟨y, hy, _⟩ := hsome k hk
    refine ⟨k, hk, ?_⟩
    rw [hy] at e ⊢
    simp at e
    rw [e]
  · rintro ⟨h1, ⟨k, hk, e⟩, h3⟩
    refine ⟨by omega, ?_, ?_, ?_⟩
    · obtain ⟨x, hx, e'⟩ := List.mem_map.mp (lmin_mem hE')
      obtain ⟨k', hk', rfl⟩ := List.mem_map.mp hx
      obtain ⟨y, hy, h5⟩ := h3 k' hk'
      rw [← e', hy, fm2]; simpa using h5
    · have h5 : q ≤ lmax (ks.map fun k => (A k).getD (-1)) := lmax_ge (List.mem_map.mpr ⟨k, hk, by rw [e]; rfl⟩)
      obtain ⟨k', hk', e'⟩ := List.mem_map.mp (lmax_mem hE)
      obtain ⟨y, hy, _⟩ := h3 k' hk'
      have := hA k' hk' y hy
      rw [hy] at e'
      simp at e'
      omega
    · obtain ⟨k', hk', e'⟩ := List.mem_map.mp (lmin_mem hE)
      obtain ⟨y, hy, _⟩ := h3 k' hk'
      have := hA k' hk' y hy
      rw [hy] at e'
      simp at e'
      omega
def stepO (o : Option Int) (y : Int) (b : Bool) : Option Int :=
  match o with
  | some e => some e
  | none => if b = true then some y else none
theorem good_step {A A' : Nat → Option Int} {ks : List Nat} (hks : ks ≠ []) (hq : 0 ≤ q) (hA : ∀ k ∈ ks, ∀ e, A k = some e → 0 ≤ e ∧ e < q) (hx : ∀ k ∈ ks, A' k = A k ∨ A k = none ∧ A' k = some q) {o : Option Int} (g : GoodO A ks o) :
    GoodO A' ks (stepO o (q + 1) (oddB (q + 1) (ks.map fun k => (A' k).getD (-1)) || evenB (q + 1) (ks.map fun k => (A' k).getD (-1)))) := by
  have hA' : ∀ k ∈ ks, ∀ e, A' k = some e → 0 ≤ e ∧ e ≤ q := fun k hk e h => by
    rcases hx k hk with h1 | ⟨_, h1⟩
    · rw [h1] at h; have := hA k hk e h; omega
    · rw [h1] at h; cases h; omega
  have keep : ∀ k ∈ ks, ∀ e, A k = some e → A' k = some e := fun k hk e h => by
    rcases hx k hk with h1 | ⟨h1, _⟩
    · rw [h1, h]
    · rw [h] at h1; cases h1
  cases o with
  | some e =>
    show GoodO A' ks (some e)
    rcases g with ⟨g1, ⟨k, hk, g2⟩, g3⟩ | ⟨g1, ⟨k, hk, g2⟩, g3⟩
    · refine .inl ⟨g1, ⟨k, hk, keep k hk _ g2⟩, fun k' hk' e' h hp => ?_⟩
      rcases hx k' hk' with h1 | ⟨_, h1⟩
      · exact g3 k' hk' e' (by rw [← h1]; exact h) hp
      · rw [h1] at h; cases h
        have := hA k hk _ g2; omega
    · exact .inr ⟨g1, ⟨k, hk, keep k hk _ g2⟩, fun k' hk' => let ⟨e', h, r⟩ := g3 k' hk'; ⟨e', keep k' hk' _ h, r⟩⟩
  | none =>
    obtain ⟨g1, k0, hk0, g2⟩ := g
    show GoodO A' ks (if _ then _ else _)
    by_cases h1 : oddB (q + 1) (ks.map fun k => (A' k).getD (-1)) = true
    · rw [h1, Bool.true_or, if_pos rfl]
      obtain ⟨p1, k, hk, e⟩ := (oddB_iff hq).mp h1
      refine .inl ⟨by omega, ⟨k, hk, by rw [e]; congr 1; omega⟩, fun k' hk' e' h hp => ?_⟩
      rcases hx k' hk' with h2 | ⟨_, h2⟩
      · have := g1 k' hk' e' (by rw [← h2]; exact h); omega
      · rw [h2] at h; cases h; omega
    · rw [Bool.not_eq_true] at h1
      rw [h1, Bool.false_or]
      by_cases h2 : evenB (q + 1) (ks.map fun k => (A' k).getD (-1)) = true
      · rw [if_pos h2]
        obtain ⟨p1, ⟨k, hk, e⟩, p3⟩ := (evenB_iff hks hq hA').mp h2
        refine .inr ⟨by omega, ⟨k, hk, by rw [e]; congr 1; omega⟩, fun k' hk' => ?_⟩
        obtain ⟨e', h, r⟩ := p3 k' hk'
        exact ⟨e', h, r, by have := hA' k' hk' e' h; omega⟩
      · rw [if_neg h2]
        rw [← Bool.not_eq_true, oddB_iff hq] at h1
        rw [evenB_iff hks hq hA'] at h2
        have hodd : ∀ k ∈ ks, ∀ e, A' k = some e → e % 2 = 1 := by
          intro k hk e h
          rcases hx k hk with h3 | ⟨_, h3⟩
          · exact g1 k hk e (by rw [← h3]; exact h)
          · rw [h3] at h; cases h
            have : ¬ q % 2 = 0 := fun z => h1 ⟨z, k, hk, h3⟩
            omega
        by_cases hex : ∃ k ∈ ks, A' k = none
        · exact ⟨hodd, hex⟩
        · have hall : ∀ k ∈ ks, ∃ e, A' k = some e ∧ e % 2 = 1 := fun k hk => by
            cases h3 : A' k with
            | none => exact absurd ⟨k, hk, h3⟩ hex
            | some e => exact ⟨e, rfl, hodd k hk e h3⟩
          have h4 : A' k0 = some q := by
            rcases hx k0 hk0 with h3 | ⟨_, h3⟩
            · exact absurd ⟨k0, hk0, by rw [h3, g2]⟩ hex
            · exact h3
          exact absurd ⟨hodd k0 hk0 q h4, ⟨k0, hk0, h4⟩, hall⟩ h2
end
end
section
section
variable {t : Tree} {es : Tab} {i k d : Nat} {p q ply e : Int}
theorem zb_false_of_kids (h : t.kids i ≠ []) : zb t i = false := by
  unfold zb
  rw [show (t.kids i).isEmpty = false by cases hk : t.kids i with
    | nil => exact absurd hk h
    | cons a l => rfl]
  simp
theorem LL_bd (h : i < t.n) : ∀ {d : Nat} {e : Int}, LL t d i = some e → 0 ≤ e ∧ e ≤ d
  | 0, e, he => by
    rw [LL_zero h] at he
    split at he
    · cases he; omega
    · cases he
  | d + 1, e, he => by
    rw [LL_succ h] at he
    split at he
    · cases he; omega
    · have := LL_bd h he; omega
theorem LL_ext (h : i < t.n) (he : LL t d i = some e) : LL t (d + 1) i = some e := by
  rw [LL_succ h, if_neg, he]
  have hs : (List.lookup (i : Int) (tabs t d)).isSome = true := by
    show (LL t d i).isSome = true
    rw [he]; rfl
  unfold pick skipB
  rw [hs]; simp
theorem LL_stay (h : i < t.n) (hd : skipB t (tabs t d) i = true) : LL t (d + 1) i = LL t d i := by
  rw [LL_succ h, if_neg]
  unfold pick; rw [hd]; simp
theorem LL_kid (h : i < t.n) : LL t (d + 1) i = LL t d i ∨ LL t d i = none ∧ LL t (d + 1) i = some ((d + 1 : Nat) : Int) := by
  cases he : LL t d i with
  | some e => exact .inl (LL_ext h he)
  | none =>
    rw [LL_succ h, he]
    split
    · exact .inr ⟨rfl, rfl⟩
    · exact .inl rfl
theorem LL_drawn (h : i < t.n) (h0 : 0 < i) (hd : t.drw i = true) : ∀ {d : Nat}, LL t d i = none
  | 0 => by
    rw [LL_zero h, if_neg]
    unfold zb
    rw [hd, show ((i : Int) == 0) = false by simp; omega]; simp
  | d + 1 => by
    rw [LL_stay h, LL_drawn h h0 hd]
    unfold skipB
    rw [hd, show decide ((0 : Int) < (i : Int)) = true by simp; omega]; simp
theorem LL_bare (h : i < t.n) (hk : t.kids i = []) (hd : ¬(0 < i ∧ t.drw i = true)) : ∀ {d : Nat}, LL t d i = if t.chk i = true then some 0 else none
  | 0 => by
    rw [LL_zero h]
    have : zb t i = t.chk i := by
      unfold zb
      rw [hk]
      by_cases h0 : i = 0
      · subst h0; simp
      · have : t.drw i = false := by
          rw [← Bool.not_eq_true]; exact fun q => hd ⟨by omega, q⟩
        rw [this]; simp
    rw [this]
  | d + 1 => by
    rw [LL_stay h, LL_bare h hk hd]
    unfold skipB
    rw [hk]; simp
theorem good (hw : t.WF) (h : i < t.n) (hk : t.kids i ≠ []) (hd : ¬(0 < i ∧ t.drw i = true)) : ∀ {d : Nat}, GoodO (LL t d) (t.kids i) (LL t (d + 1) i) := by
  have hs : ∀ d, LL t (d + 1) i = stepO (LL t d i) ((d + 1 : Nat) : Int) (oddB ((d + 1 : Nat) : Int) ((t.kids i).map fun k => (LL t d k).getD (-1)) || evenB ((d + 1 : Nat) : Int) ((t.kids i).map fun k => (LL t d k).getD (-1))) := by
    intro d
    cases he : LL t d i with
    | some e => exact LL_ext h he
    | none =>
      rw [LL_succ h, he]
      have : skipB t (tabs t d) i = false := by
        unfold skipB
        rw [show (List.lookup (i : Int) (tabs t d)) = none from he, show (t.kids i).isEmpty = false by cases hk2 : t.kids i with
          | nil => exact absurd hk2 hk
          | cons a l => rfl]
        have : (decide ((0 : Int) < (i : Int)) && t.drw i) = false := by
          rw [← Bool.not_eq_true, Bool.and_eq_true, decide_eq_true_iff]
          exact fun q => hd ⟨by omega, q.2⟩
        rw [this]; rfl
      unfold pick
      rw [this]; rfl
  intro d
  induction d with
  | zero =>
    have := good_step (A := fun _ => none) (A' := LL t 0) (ks := t.kids i) (q := 0) hk (by omega) (fun _ _ _ h => nomatch h) (fun k hk' => by
      rw [LL_zero (hw.up i h k hk')]
      split
      · exact .inr ⟨rfl, rfl⟩
      · exact .inl rfl) (o := none) ⟨(fun _ _ _ h => nomatch h), by
        cases hk2 : t.kids i with
        | nil => exact absurd hk2 hk
        | cons a l => exact ⟨a, .head _, rfl⟩⟩
    rw [hs 0, LL_zero h, zb_false_of_kids hk]
    exact this
  | succ d ih =>
    have := good_step (A := LL t d) (A' := LL t (d + 1)) (ks := t.kids i) (q := ((d + 1 : Nat) : Int)) hk (by omega) (fun k hk' e he => by
      have := LL_bd (hw.up i h k hk') he; omega) (fun k hk' => LL_kid (hw.up i h k hk')) ih
    rw [hs (d + 1)]
    exact this
def evl (e ply : Int) : Int := if e % 2 = 0 then ply + e - 32000 else 32000 - (ply + e)
theorem foldl_up {f : Nat → Int} {M : Int} : ∀ {l : List Nat} {b : Int}, (∀ k ∈ l, f k ≤ M) → b ≤ M → (b = M ∨ ∃ k ∈ l, f k = M) → l.foldl (fun b k => up b (f k)) b = M
  | [], b, _, _, h => by
    rcases h with h | ⟨k, hk, _⟩
    · exact h
    · cases hk
  | k :: l, b, h1, h2, h3 => by
    show l.foldl (fun b k => up b (f k)) (up b (f k)) = M
    have h4 := h1 k (.head _)
    refine foldl_up (fun k hk => h1 k (.tail _ hk)) ?_ ?_
    · unfold up; split <;> omega
    · rcases h3 with h3 | ⟨k', hk', h3⟩
      · left; unfold up; split <;> omega
      · rcases List.mem_cons.mp hk' with rfl | hk'
        · left; unfold up; split <;> omega
        · exact .inr ⟨k', hk', h3⟩
theorem best {P : Nat → Prop} {x : Nat → Int} : ∀ {l : List Nat}, (∃ k ∈ l, P k) → ∃ k ∈ l, P k ∧ ∀ j ∈ l, P j → x j ≤ x k
  | [], ⟨_, h, _⟩ => nomatch h
  | a :: l, h => by
    by_cases h2 : ∃ k ∈ l, P k
    · obtain ⟨k, hk, hp, hm⟩ := best (x := x) h2
      by_cases h3 : P a ∧ x k < x a
      · refine ⟨a, .head _, h3.1, fun j hj hpj => ?_⟩
        rcases List.mem_cons.mp hj with rfl | hj
        · exact Int.le_refl _
        · have := hm j hj hpj; omega
      · refine ⟨k, .tail _ hk, hp, fun j hj hpj => ?_⟩
        rcases List.mem_cons.mp hj with rfl | hj
        · exact Int.not_lt.mp fun q => h3 ⟨hpj, q⟩
        · exact hm j hj hpj
    · obtain ⟨k, hk, hp⟩ := h
      rcases List.mem_cons.mp hk with rfl | hk
      · refine ⟨k, .head _, hp, fun j hj hpj => ?_⟩
        rcases List.mem_cons.mp hj with rfl | hj
        · exact Int.le_refl _
        · exact absurd ⟨j, hj, hpj⟩ h2
      · exact absurd ⟨k, hk, hp⟩ h2
theorem nm_val (hw : t.WF) (hup : ∀ i, i < t.n → ∀ k ∈ t.kids i, i < k) (hv : ∀ i, -50 ≤ t.val i ∧ t.val i ≤ 50) : ∀ (d i : Nat), i < t.n → ∃ x : Int, -50 ≤ x ∧ x ≤ 50 ∧ ∀ ply : Int, 0 ≤ ply → (0 < ply ∨ i = 0) → (i = 0 → 0 < ply → t.drw i = false) → ply + d ≤ 246 →
    nm t d i ply = match LL t d i with | some e => evl e ply | none => x := by
  intro d
  induction d with
  | zero =>
    intro i h
    by_cases hd : 0 < i ∧ t.drw i = true
    · refine ⟨0, by omega, by omega, fun ply h0 h1 h2 h3 => ?_⟩
      rw [LL_drawn h hd.1 hd.2]
      show qv t i ply = 0
      unfold qv
      rw [if_pos]
      rw [hd.2]; simp; omega
    · have hnd : ∀ ply : Int, (0 < ply ∨ i = 0) → (i = 0 → 0 < ply → t.drw i = false) → (decide (0 < ply) && t.drw i) = false := by
        intro ply h1 h2
        rw [← Bool.not_eq_true, Bool.and_eq_true, decide_eq_true_iff]
        rintro ⟨q1, q2⟩
        by_cases h0 : i = 0
        · rw [h2 h0 q1] at q2; cases q2
        · exact hd ⟨by omega, q2⟩
      by_cases hk : t.kids i = []
      · rw [LL_bare h hk hd]
        by_cases hc : t.chk i = true
        · refine ⟨0, by omega, by omega, fun ply h0 h1 h2 h3 => ?_⟩
          show qv t i ply = _
          unfold qv
          rw [hnd ply h1 h2, if_neg (by simp), if_pos hc, if_pos hk, if_pos hc]
          show _ = evl 0 ply
          unfold evl; rw [if_pos (by decide)]; omega
        · refine ⟨t.val i, (hv i).1, (hv i).2, fun ply h0 h1 h2 h3 => ?_⟩
          show qv t i ply = _
          unfold qv
          rw [hnd ply h1 h2, if_neg (by simp), if_neg hc, if_neg hc]
      · refine ⟨t.val i, (hv i).1, (hv i).2, fun ply h0 h1 h2 h3 => ?_⟩
        rw [LL_zero h, zb_false_of_kids hk]
        show qv t i ply = _
        unfold qv
        rw [hnd ply h1 h2, if_neg (by simp)]
        split
        · rfl
        · rfl
  | succ d ih =>
    intro i h
    by_cases hd : 0 < i ∧ t.drw i = true
    · refine ⟨0, by omega, by omega, fun ply h0 h1 h2 h3 => ?_⟩
      rw [LL_drawn h hd.1 hd.2]
      show (if _ then _ else _) = (0 : Int)
      rw [if_pos]
      rw [hd.2]; simp; omega
    have hnd : ∀ ply : Int, (0 < ply ∨ i = 0) → (i = 0 → 0 < ply → t.drw i = false) → (decide (0 < ply) && t.drw i) = false := by
      intro ply h1 h2
      rw [← Bool.not_eq_true, Bool.and_eq_true, decide_eq_true_iff]
      rintro ⟨q1, q2⟩
      by_cases h0 : i = 0
      · rw [h2 h0 q1] at q2; cases q2
      · exact hd ⟨by omega, q2⟩
    by_cases hk : t.kids i = []
    · rw [LL_bare h hk hd]
      refine ⟨0, by omega, by omega, fun ply h0 h1 h2 h3 => ?_⟩
      show (if _ then _ else _) = _
      rw [hnd ply h1 h2, if_neg (by simp), if_pos hk]
      unfold evv
      by_cases hc : t.chk i = true
      · rw [if_pos hc, if_pos hc]
        show _ = evl 0 ply
        unfold evl; rw [if_pos (by decide)]; omega
      · rw [if_neg hc, if_neg hc]
    have g := good hw h hk hd (d := d)
    have hX : ∃ x : Nat → Int, ∀ k ∈ t.kids i, -50 ≤ x k ∧ x k ≤ 50 ∧ ∀ ply : Int, 0 ≤ ply → ply + ((d + 1 : Nat) : Int) ≤ 246 → nm t d k (ply + 1) = match LL t d k with | some e => evl e (ply + 1) | none => x k := by
      refine ⟨fun k => if hk' : k < t.n then Classical.choose (ih k hk') else 0, fun k hk' => ?_⟩
      have hlt := hw.up i h k hk'
      have hgt := hup i h k hk'
      simp only [dif_pos hlt]
      obtain ⟨a, b, c⟩ := Classical.choose_spec (ih k hlt)
      exact ⟨a, b, fun ply h0 h1 => c (ply + 1) (by omega) (.inl (by omega)) (fun q => by omega) (by omega)⟩
    obtain ⟨x, hx⟩ := hX
    have hun : ∀ ply : Int, (0 < ply ∨ i = 0) → (i = 0 → 0 < ply → t.drw i = false) → nm t (d + 1) i ply = (t.kids i).foldl (fun b k => up b (-(nm t d k (ply + 1)))) (-32001) := by
      intro ply h1 h2
      show (if _ then _ else _) = _
      rw [hnd ply h1 h2, if_neg (by simp), if_neg hk]
    cases hL : LL t (d + 1) i with
    | none =>
      rw [hL] at g
      obtain ⟨g1, g2⟩ := g
      obtain ⟨k0, hk0, hp0, hm⟩ := best (x := fun k => -(x k)) g2
      obtain ⟨b1, b2, b3⟩ := hx k0 hk0
      refine ⟨-(x k0), by omega, by omega, fun ply h0 h1 h2 h3 => ?_⟩
      rw [hun ply h1 h2]
      show _ = -(x k0)
      refine foldl_up (fun k hk' => ?_) (by omega) (.inr ⟨k0, hk0, ?_⟩)
      · obtain ⟨c1, c2, c3⟩ := hx k hk'
        rw [c3 ply h0 h3]
        cases hA : LL t d k with
        | none => exact hm k hk' hA
        | some e =>
          have := g1 k hk' e hA
          have h5 := LL_bd (hw.up i h k hk') hA
          show -(evl e (ply + 1)) ≤ _
          unfold evl; rw [if_neg (by omega)]; omega
      · show -(nm t d k0 (ply + 1)) = _
        rw [b3 ply h0 h3, hp0]
    | some e =>
      rw [hL] at g
      refine ⟨0, by omega, by omega, fun ply h0 h1 h2 h3 => ?_⟩
      have hLb := LL_bd h hL
      rw [hun ply h1 h2]
      show _ = evl e ply
      rcases g with ⟨g1, ⟨k0, hk0, hp0⟩, g3⟩ | ⟨g1, ⟨k0, hk0, hp0⟩, g3⟩
      · refine foldl_up (fun k hk' => ?_) ?_ (.inr ⟨k0, hk0, ?_⟩)
        · obtain ⟨c1, c2, c3⟩ := hx k hk'
          rw [c3 ply h0 h3]
          unfold evl; rw [if_neg (by omega : ¬ e % 2 = 0)]
          cases hA : LL t d k with
          | none => show -(x k) ≤ _; omega
          | some e' =>
            have h5 := LL_bd (hw.up i h k hk') hA
            show -(if e' % 2 = 0 then ply + 1 + e' - 32000 else 32000 - (ply + 1 + e')) ≤ _
            split
            · have := g3 k hk' e' hA (by assumption); omega
            · omega
        · unfold evl; rw [if_neg (by omega)]; omega
        · show -(nm t d k0 (ply + 1)) = _
          rw [(hx k0 hk0).2.2 ply h0 h3, hp0]
          show -(evl (e - 1) (ply + 1)) = _
          unfold evl; rw [if_pos (by omega), if_neg (by omega)]; omega
      · refine foldl_up (fun k hk' => ?_) ?_ (.inr ⟨k0, hk0, ?_⟩)
        · obtain ⟨c1, c2, c3⟩ := hx k hk'
          rw [c3 ply h0 h3]
          obtain ⟨e', hA, p1, p2⟩ := g3 k hk'
          rw [hA]
          show -(evl e' (ply + 1)) ≤ _
          unfold evl; rw [if_neg (by omega), if_pos g1]; omega
        · unfold evl; rw [if_pos g1]; omega
        · show -(nm t d k0 (ply + 1)) = _
          rw [(hx k0 hk0).2.2 ply h0 h3, hp0]
          show -(evl (e - 1) (ply + 1)) = _
          unfold evl; rw [if_neg (by omega), if_pos g1]; omega
end
end
section
section
variable {w : World} {ns : List Int} {lv : Nat} {σ : List AObj} {t : Tree} {dep : Nat} {f s : Int}
theorem tree_up : ∀ i, i < (tree ns).n → ∀ k ∈ (tree ns).kids i, i < k := by
  intro i hi k hk
  obtain ⟨j, hj, rfl⟩ := List.mem_map.mp hk
  unfold tkid; omega
theorem tree_val (i : Nat) : -50 ≤ (tree ns).val i ∧ (tree ns).val i ≤ 50 := by
  show -50 ≤ (tx ns i).fmod 100 - 50 ∧ (tx ns i).fmod 100 - 50 ≤ 50
  have h1 := Int.fmod_nonneg_of_pos (tx ns i) (b := 100) (by decide)
  have h2 := Int.fmod_lt_of_pos (tx ns i) (b := 100) (by decide)
  omega
theorem tree_n : 0 < (tree ns).n := by
  have := tsize_bd ns
  show 0 < tsize ns; omega
theorem law_told (hd : dep ≤ 4) : CL (gg w ns) (lv + 5) (.ref 290) [.int (nm (tree ns) dep 0 0), ofOpt ((roundsT (tree ns) dep).lookup 0)] σ (.bool true) σ := by
  obtain ⟨x, h1, h2, h3⟩ := nm_val (tree_wf ns) tree_up tree_val dep 0 tree_n
  rw [h3 0 (by omega) (.inr rfl) (fun _ h => by omega) (by omega), rounds_tabs]
  show CL _ _ _ [.int (match LL (tree ns) dep 0 with | some e => evl e 0 | none => x), ofOpt (LL (tree ns) dep 0)] _ _ _
  cases hL : LL (tree ns) dep 0 with
  | none => exact told_none (by show x.natAbs ≤ _; omega)
  | some e =>
    have hb := LL_bd tree_n hL
    show CL _ _ _ [.int (evl e 0), .int e] _ _ _
    unfold evl
    split
    · rw [Int.zero_add]; exact told_even hb.1 (by omega) (by rw [fm2]; omega)
    · rw [Int.zero_add]; exact told_odd hb.1 (by omega) (by rw [fm2]; omega)
theorem nm_drawn (h : t.drw 0 = true) (hf : 0 < f) : nm t dep 0 f = 0 := by
  have hb : (decide (0 < f) && t.drw 0) = true := by rw [h]; simpa using hf
  cases dep with
  | zero =>
    show qv t 0 f = 0
    unfold qv; rw [if_pos hb]
  | succ d =>
    show (if _ then _ else _) = (0 : Int)
    rw [if_pos hb]
theorem evl_to {e : Int} (h0 : 0 ≤ e) (h1 : e ≤ 4) (hf : 0 ≤ f) (hf2 : f ≤ 240) : toT (evl e f) f = evl e 0 := by
  unfold toT evl
  by_cases hp : e % 2 = 0
  · rw [if_pos hp, if_pos hp, if_neg (by omega), if_pos (by omega)]; omega
  · rw [if_neg hp, if_neg hp, if_pos (by omega)]; omega
theorem evl_fr {e : Int} (h0 : 0 ≤ e) (h1 : e ≤ 4) : frT (evl e 0) s = evl e s := by
  unfold frT evl
  by_cases hp : e % 2 = 0
  · rw [if_pos hp, if_pos hp, if_neg (by omega), if_pos (by omega)]; omega
  · rw [if_neg hp, if_neg hp, if_pos (by omega)]; omega
theorem pl_to {x : Int} (h1 : -50 ≤ x) (h2 : x ≤ 50) : toT x f = x := by
  unfold toT; rw [if_neg (by omega), if_neg (by omega)]
theorem pl_fr {x : Int} (h1 : -50 ≤ x) (h2 : x ≤ 50) : frT x f = x := by
  unfold frT; rw [if_neg (by omega), if_neg (by omega)]
theorem law_three (hd : dep ≤ 4) (h0 : (tree ns).drw 0 = false) (hf : 0 ≤ f) (hf2 : f ≤ 240) : toT (nm (tree ns) dep 0 f) f = nm (tree ns) dep 0 0 ∧ frT (nm (tree ns) dep 0 0) f = nm (tree ns) dep 0 f := by
  obtain ⟨x, h1, h2, h3⟩ := nm_val (tree_wf ns) tree_up tree_val dep 0 tree_n
  rw [h3 0 (by omega) (.inr rfl) (fun _ h => by omega) (by omega), h3 f (by omega) (.inr rfl) (fun _ _ => h0) (by omega)]
  cases hL : LL (tree ns) dep 0 with
  | none => exact ⟨pl_to h1 h2, pl_fr h1 h2⟩
  | some e =>
    have hb := LL_bd tree_n hL
    exact ⟨evl_to hb.1 (by omega) hf hf2, evl_fr hb.1 (by omega)⟩
theorem law_two (hd : dep ≤ 4) (hf : 1 ≤ f) (hf2 : f ≤ 240) (hs : 1 ≤ s) (hs2 : s ≤ 240) : frT (toT (nm (tree ns) dep 0 f) f) s = nm (tree ns) dep 0 s := by
  cases h0 : (tree ns).drw 0 with
  | true =>
    rw [nm_drawn h0 (by omega), nm_drawn h0 (by omega)]
    rw [pl_to (by omega) (by omega), pl_fr (by omega) (by omega)]
  | false =>
    rw [(law_three hd h0 (by omega) hf2).1]
    exact (law_three hd h0 (by omega) hs2).2
end
end
section
/-! the law's own statements -/
section
variable {g : G} {lv : Nat} {fd : FD} {μ μ' μ₁ μ₂ : Loc} {σ σ' σ₁ σ₂ σ₃ τ : List AObj} {r r₀ r₁ r₂ : PV} {rs xs : List PV} {pos pos' px : Pos} {b : Bool}
def LEX (g : G) (lv : Nat) (fd : FD) (b : Bool) (stmts : List Stmt) (μ : Loc) (σ : List AObj) : Prop :=
  ∀ (c : Cfg) (m : Str → Option Value) (α : List Addr) (s : Shared) (Q : Flow → Shared → Prop) (E : Value → Shared → Prop),
    Amb g lv c → c.outer = [] → c.base = c.h₀ → c.cl = [] → Fr c.h₀ c.L s.heap m → MR c fd α m μ → Sto g c s.heap α σ →
    (∀ h' m' tk', Fr c.h₀ c.L h' m' → Q (.ret (.bool b)) { s with heap := h', toks := tk' }) → wpAny (model g.prog g.w) (c.ar fd) (execs stmts (c.env fd)) Q E s
theorem LEX.cons {st : Stmt} {stmts : List Stmt} (h : ES g lv fd st μ σ .next μ₁ σ₁) (h' : LEX g lv fd b stmts μ₁ σ₁) : LEX g lv fd b (st :: stmts) μ σ := by
  intro c m α s Q E A ho hb hcl F M S k
  refine wpAny_execs_cons (h c m α s _ E A F M S fun f m₁ α₁ h₁ tk₁ x₁ i₁ F₁ M₁ S₁ => ?_)
  cases i₁
  exact h' c m₁ α₁ _ Q E A ho hb hcl F₁ M₁ S₁ k
theorem LEX.iF {te : Expr} {bb rest : List Stmt} {y : Bool} (h : TR g lv fd te μ σ y σ₁) (hy : y = false) (k : LEX g lv fd b rest μ σ₁) : LEX g lv fd b (.If te bb [] pos :: rest) μ σ := by
  subst hy; exact .cons (.ifs h .nil) k
theorem LEX.last {xf : Str} {f : Addr} {pf cp : Pos} {a : Expr} {args : List Expr} {rest : List Stmt} {name qual : Str} {params : Arguments} {body : List Stmt} {scope : Scope} {dV kV doc pm cdv ct oc : Value} {an od : Option Addr} {osl : Array (Option Value)} (pn : List Str)
    (h₁ : EV g (lv + 1) fd a μ σ (.bool true) σ₁) (hf : EV g (lv + 1) fd (.Name xf pf) μ σ₁ (.raw (.ref f)) σ₁) (ha : AR g (lv + 1) fd args μ σ₁ rs σ₂) (hkp : KP g (.ref f)) (hkd : fd.cs.kind = .function) (hcomp : fd.comp = none)
    (he : ∀ env, eval (.Call (.Name xf pf) args [] cp) env = (do let r ← eval (.Name xf pf) env; PySem.callWith cp r [] (backTo cp (starEach args env)) (backToKw cp (keywordEach [] env))))
    (ho : g.K.lookup f = some ⟨oc, od, .func (fnOf name qual params body scope dV kV doc pm an cdv ct), osl⟩) (hcd : codeIn g.K cdv qual = true)
    (hb : ∀ vs : List Value, vs.length = pn.length → bindArgs (fnOf name qual params body scope dV kV doc pm an cdv ct) ⟨vs, []⟩ = pure (pn.zip vs))
    (hl : ∀ x ∈ pn, scope.names.lookup x = some .local) (hn : rs.length = pn.length)
    (h : TRX g lv ⟨qual, scope, f, cdv, [], none⟩ b body (pn.zip rs).reverse σ₂)
    (hco : scope.isCoroutine = false) (hgen : scope.isGenerator = false) (hk : scope.kind = .function) (hcell : ∀ x ∈ scope.names, x.2 ≠ .cell) :
    LEX g (lv + 1) fd b (.Return (some (.BoolOp .And [a, .Call (.Name xf pf) args [] cp] pos')) pos :: rest) μ σ := by
  intro c m α s Q E A ho0 hbase hcl F M S k
  refine wpAny_execs_cons (wpAny_Return_some (BoolOp_and (h₁ c m α s _ E A F M S fun v₁ α₁ h'' tk x₁ i₁ F₁ S₁ => ?_)))
  refine TV.bool c fd _ m α₁ _ _ E v₁ A F₁ S₁ i₁ fun tk' => ?_
  refine BoolOp_one ?_
  refine Call_ (hf c m α₁ _ _ E A F₁ (M.ext x₁) S₁ fun v₂ α₂ h₂ tk₂ x₂ i₂ F₂ S₂ => ?_) (he _)
  subst i₂
  refine AR.callWith (first := []) ha hkp A F₂ (M.ext (x₁.trans x₂)) S₂ fun vs α₃ h₃ tk₃ x₃ i₃ F₃ S₃ => ?_
  refine call0 pn ho hcd hb hl hn h hco hgen hk hcell A ho0 hbase hcl F₃ S₃ hkd i₃ fun h₄ tk₄ F₄ => ?_
  exact k h₄ m tk₄ F₄
theorem CompL.grow {elt : Expr} {x : Str} {keep : List AObj → Prop} {S : List AObj} (hk : ∀ τ, keep (S ++ τ)) : ∀ {xs : List PV} {τ : List AObj}, (∀ v ∈ xs, ∀ τ, ∃ r τ', EV g lv fd elt [(x, v)] (S ++ τ) r (S ++ τ')) → ∃ rs τ', CompL g lv fd elt x keep xs (S ++ τ) rs (S ++ τ')
  | [], τ, _ => ⟨[], τ, rfl, rfl⟩
  | v :: vs, τ, h => by
    obtain ⟨r, τ₁, h1⟩ := h v (.head _) τ
    obtain ⟨rs, τ₂, h2⟩ := CompL.grow (xs := vs) (τ := τ₁) hk fun u hu => h u (.tail _ hu)
    exact ⟨r :: rs, τ₂, r, rs, _, h1, hk τ₁, rfl, h2⟩
end
def cElt : Option Stmt → Expr
  | some (.Assign _ (.ListComp e _ _ _) _) => e
  | _ => .Name (.ofString "") ⟨0, 0, 0, 0⟩
noncomputable def cSc : Option Stmt → Scope
  | some (.Assign _ (.ListComp _ _ sc _) _) => sc
  | _ => scO none
noncomputable abbrev fd323 (fa cd : Nat) : FD := fdO (stm 39) (.ofString "law") fa cd
section
variable {w : World} {ns : List Int} {lv fa cd : Nat} {σ τ S : List AObj} {xs : List PV}
theorem marks_ex {n : Nat} {row : Nat → Nat} {f : Nat → List PV} (h3 : S[3]? = some (.list (tab n fun i => .ref (row i)))) (hr : ∀ i, i < n → S[row i]? = some (.list (f i))) (hf : ∀ i, (f i).length ≤ 100) : ∃ rs τ, CompL (gg w ns) lv { (fd323 fa cd) with comp := some (cSc ((boO (stm 39))[4]?), []) } (cElt ((boO (stm 39))[4]?)) (.ofString "row") (fun σ => σ[3]? = some (.list (tab n fun i => .ref (row i)))) (tab n fun i => .ref (row i)) S rs (S ++ τ) := by
  obtain ⟨rs, τ, h⟩ := CompL.grow (g := gg w ns) (lv := lv) (fd := { (fd323 fa cd) with comp := some (cSc ((boO (stm 39))[4]?), []) }) (elt := cElt ((boO (stm 39))[4]?)) (x := .ofString "row") (keep := fun σ => σ[3]? = some (.list (tab n fun i => .ref (row i)))) (S := S) (fun τ => get_app h3) (xs := tab n fun i => .ref (row i)) (τ := []) (by
    intro v hv τ
    obtain ⟨i, hi, rfl⟩ := List.mem_map.mp hv
    have hi' := List.mem_range.mp hi
    have h100 := hf i
    refine ⟨.ref ((S ++ τ) ++ [AObj.list [.bool false]]).length, τ ++ [.list [.bool false]] ++ [.list (List.replicate ((f i).length : Int).toNat (.bool false))], ?_⟩
    rw [← List.append_assoc, ← List.append_assoc]
    conv in (cElt _) => whnf
    apply EV.mulL (i := (S ++ τ).length)
    · apply EV.list
      · walk_at "ar"
      · decide
    · with_reducible apply EV.call
      · walk_at "ev"
      · walk_at "ar"
      · exact CL.len (get_app (get_app (hr i hi'))) (by omega)
      · walk_at "kp"
      · kernel_rfl
      · intro _; kernel_rfl
    · exact at_last
    · omega
    · omega)
  rw [List.append_nil] at h
  exact ⟨rs, τ, h⟩
end
end
section
def lf (ns : List Int) : Int := 1 + ((sAt ns 0).fdiv 10).fmod 240
def ls (ns : List Int) : Int := 1 + ((sAt ns 0).fdiv 2400).fmod 240
section
variable {w : World} {ns : List Int} {lv fa cd : Nat} {σ τ S : List AObj} {xs : List PV}
theorem fm_bd (x n : Int) (h : 0 < n) : 0 ≤ x.fmod n ∧ x.fmod n < n := ⟨Int.fmod_nonneg_of_pos _ h, Int.fmod_lt_of_pos _ h⟩
theorem neg_at {x : GIx} {t : Tree} {dep : Nat} {ply : Int} (h : GP x t σ [] 0) (hd : dep ≤ 4) : CL (gg w ns) 20 (.ref 156) [.ref x.g, .int (dep : Int), .int ply, .int 0] σ (.int (nm t dep 0 ply)) σ := by
  have := r_neg (w := w) (ns := ns) dep (lv := 17 - dep) (ply := ply) h (by simp; omega)
  rwa [show 17 - dep + dep + 3 = 20 by omega] at this
theorem at_at {i : Nat} (hi : i ≤ 10) (hn : ns.length ≤ 63) : CL (gg w ns) 20 (.ref 266) [.scr, .int (i : Int)] σ (.int (sAt ns i)) σ := r_at (lv := 18) (.inr hi) (by omega) hn
theorem game_at {S' : List AObj} {row : Nat → Nat} {m : Nat} (h3 : σ[3]? = some (.list (tab (tsize ns) fun i => .ref (row i)))) (hrow : ∀ i, i < tsize ns → σ[row i]? = some (.list ((tree ns).row i))) (h4 : σ[4]? = some (.list (tab (tsize ns) fun i => .int ((tree ns).val i))))
    (h5 : σ[5]? = some (.list (tab (tsize ns) fun i => .bool ((tree ns).chk i)))) (h6 : σ[6]? = some (.list (tab (tsize ns) fun i => .bool ((tree ns).drw i)))) :
    GP ⟨σ.length + 1, σ.length, 3, 4, 5, 6, m, σ.length + 2, row⟩ (tree ns) (GS σ (gfx 3 4 5 6 m (σ.length + 2)) [.list [.int 0]]) [] 0 := by
  have hs := tsize_bd ns
  have hl : 6 < σ.length := (List.getElem?_eq_some_iff.mp h6).1
  refine ⟨⟨tree_wf ns, GS.inst, GS.nsx, get_app h3, fun i hi => get_app (hrow i hi), get_app h4, get_app h5, get_app h6, ?_⟩, ?_, tree_n, by simp⟩
  · refine ⟨by show σ.length + 2 ≠ σ.length + 1; omega, by show σ.length + 2 ≠ σ.length; omega, by show σ.length + 2 ≠ 3; omega, by show σ.length + 2 ≠ 4; omega, by show σ.length + 2 ≠ 5; omega, by show σ.length + 2 ≠ 6; omega, fun i hi => ?_⟩
    have := (List.getElem?_eq_some_iff.mp (hrow i hi)).1
    show σ.length + 2 ≠ row i
    omega
  · show (σ ++ _)[σ.length + 2]? = _
    rw [List.getElem?_append_right (by omega), show σ.length + 2 - σ.length = 2 by omega]; rfl
abbrev μ4 (ns : List Int) (r dep : Nat) : Loc := [(.ofString "first", .int (lf ns)), (.ofString "second", .int (ls ns)), (.ofString "depth", .int (dep : Int)), (.ofString "x", .int (sAt ns 0)), (.ofString "tree", .ref r), (.ofString "script", .scr)]
abbrev μ6 (ns : List Int) (r dep m gm : Nat) : Loc := (.ofString "game", .ref gm) :: (.ofString "marks", .ref m) :: μ4 ns r dep
theorem law_rest {G : List AObj} {x : GIx} {r dep : Nat} (hn : ns.length ≤ 63) (hg : GP x (tree ns) G [] 0) (hc : x.c = 3 ∧ x.k = 5 ∧ x.dr = 6) (hr : G[r]? = some (.tup [.ref 3, .ref 4, .ref 5, .ref 6])) (hd : dep ≤ 4) : LEX (gg w ns) 20 (fd323 fa cd) true ((boO (stm 39)).drop 6) (μ6 ns r dep x.m x.g) G := by
  have hf := fm_bd ((sAt ns 0).fdiv 10) 240 (by decide)
  have hs := fm_bd ((sAt ns 0).fdiv 2400) 240 (by decide)
  have hsz := tsize_bd ns
  have hT : T4 (tree ns) G 3 5 6 x.row := by
    obtain ⟨h1, h2, h3⟩ := hc
    have ga := hg.ga
    exact ⟨ga.wf, h1 ▸ ga.ch, ga.rows, h2 ▸ ga.ck, h3 ▸ ga.dr⟩
  conv in (List.drop _ _) => whnf
  apply LEX.cons
  · apply ES.assign
    · with_reducible apply EV.call
      · walk_at "ev"
      · walk_at "ar"
      · exact neg_at hg hd
      · walk_at "kp"
      · kernel_rfl
      · intro _; kernel_rfl
    · kernel_rfl
    · kernel_rfl
    · kernel_rfl
    · intro _; kernel_rfl
  apply LEX.iF
  · with_reducible apply TR.not
    with_reducible apply TR.plain
    · with_reducible apply EV.call
      · walk_at "ev"
      · with_reducible apply AR.cons
        · walk_at "ev"
        · with_reducible apply AR.cons
          · with_reducible apply EV.call
            · walk_at "ev"
            · walk_at "ar"
            · exact r_rounds (lv := 19) hT hr (by omega)
            · walk_at "kp"
            · kernel_rfl
            · intro _; kernel_rfl
          · walk_at "ar"
          · intro _; kernel_rfl
        · intro _; kernel_rfl
      · exact law_told (lv := 15) hd
      · walk_at "kp"
      · kernel_rfl
      · intro _; kernel_rfl
    · exact TV.bool
    · intro _ _; kernel_rfl
  · rfl
  iterate 2
    apply LEX.cons
    · apply ES.assign
      · with_reducible apply EV.call
        · walk_at "ev"
        · walk_at "ar"
        · exact neg_at hg hd
        · walk_at "kp"
        · kernel_rfl
        · intro _; kernel_rfl
      · kernel_rfl
      · kernel_rfl
      · kernel_rfl
      · intro _; kernel_rfl
  apply LEX.iF
  · with_reducible apply TR.cmp
    · with_reducible apply EV.call
      · walk_at "ev"
      · with_reducible apply AR.cons
        · with_reducible apply EV.call
          · walk_at "ev"
          · walk_at "ar"
          · exact CX.cl (r_toT (lv := 19))
          · walk_at "kp"
          · kernel_rfl
          · intro _; kernel_rfl
        · walk_at "ar"
        · intro _; kernel_rfl
      · exact CX.cl (r_frT (lv := 19))
      · walk_at "kp"
      · kernel_rfl
      · intro _; kernel_rfl
    · walk_at "ev"
    · walk_at "op"
    · kernel_rfl
  · rw [law_two hd (by unfold lf; omega) (by unfold lf; omega) (by unfold ls; omega) (by unfold ls; omega)]
    simp
  apply LEX.iF
  · with_reducible apply TR.bool
    with_reducible apply TB.and2
    · with_reducible apply TR.not
      with_reducible apply TR.plain
      · with_reducible apply EV.sub
        · with_reducible apply EV.sub
          · walk_at "ev"
          · walk_at "ev"
          · exact OP2.itemT hr (by decide) rfl (by decide) (by intro _ _; kernel_rfl)
        · walk_at "ev"
        · exact OP2.item hT.dr (by decide) (tab_getI (i := 0) tree_n) (by rw [List.length_map, List.length_range]; show tsize ns < 1000000; omega) (by intro _ _; kernel_rfl)
      · exact TV.bool
      · intro _ _; kernel_rfl
    · intro _
      with_reducible apply TB.and2
      · with_reducible apply TR.bool
        with_reducible apply TB.or2
        · with_reducible apply TR.cmp
          · with_reducible apply EV.call
            · walk_at "ev"
            · walk_at "ar"
            · exact CX.cl (r_toT (lv := 19))
            · walk_at "kp"
            · kernel_rfl
            · intro _; kernel_rfl
          · walk_at "ev"
          · walk_at "op"
          · kernel_rfl
        · intro _
          with_reducible apply TB.or2
          · with_reducible apply TR.cmp
            · with_reducible apply EV.call
              · walk_at "ev"
              · walk_at "ar"
              · exact CX.cl (r_frT (lv := 19))
              · walk_at "kp"
              · kernel_rfl
              · intro _; kernel_rfl
            · walk_at "ev"
            · walk_at "op"
            · kernel_rfl
          · intro _; walk_at "tb"
      · intro _; walk_at "tb"
  · cases h0 : (tree ns).drw 0 with
    | true => rfl
    | false =>
      rw [(law_three hd h0 (by unfold ls; omega) (by unfold ls; omega : ls ns ≤ 240)).1, (law_three hd h0 (by unfold lf; omega) (by unfold lf; omega : lf ns ≤ 240)).2]
      simp
  apply LEX.last [.ofString "x"] (lv := 19)
  · with_reducible apply EV.call
    · walk_at "ev"
    · with_reducible apply AR.cons
      · with_reducible apply EV.call
        · walk_at "ev"
        · walk_at "ar"
        · exact at_at (i := 1) (by decide) hn
        · walk_at "kp"
        · kernel_rfl
        · intro _; kernel_rfl
      · walk_at "ar"
      · intro _; kernel_rfl
    · exact r_keeps (lv := 15)
    · walk_at "kp"
    · kernel_rfl
    · intro _; kernel_rfl
  · walk_at "ev"
  · with_reducible apply AR.cons
    · with_reducible apply EV.call
      · walk_at "ev"
      · walk_at "ar"
      · exact at_at (i := 2) (by decide) hn
      · walk_at "kp"
      · kernel_rfl
      · intro _; kernel_rfl
    · walk_at "ar"
    · intro _; kernel_rfl
  · walk_at "kp"
  · kernel_rfl
  · kernel_rfl
  · intro _; kernel_rfl
  · exact k318 _
  · exact c318 _
  · exact bind1 fun _ => by kernel_rfl
  · show ∀ x ∈ _, (scO (stm 38)).names.lookup x = some .local
    decide +kernel
  · rfl
  · exact reads_trx (lv := 13)
  · kernel_rfl
  · kernel_rfl
  · kernel_rfl
  · show ∀ x ∈ (scO (stm 38)).names, x.2 ≠ .cell
    decide +kernel
end
end
section
section
variable {w : World} {ns : List Int} {lv fa cd : Nat} {σ τ S : List AObj} {xs : List PV}
theorem law_lex (hn : ns.length ≤ 63) : LEX (gg w ns) 20 (fd323 fa cd) true (boO (stm 39)) [(.ofString "script", .scr)] [] := by
  obtain ⟨S, r, hT, hr, ⟨c0, c1, c2, ⟨row, h3, hrow⟩, h4, h5, h6⟩⟩ := r_tree (w := w) (lv := 17) hn
  have hwf := tree_wf ns
  have hsz := tsize_bd ns
  obtain ⟨mrs, τ, hM⟩ := marks_ex (w := w) (ns := ns) (fa := fa) (cd := cd) (lv := 20) (S := S ++ [AObj.tup [PV.int (lf ns), PV.int (ls ns)]]) (get_app h3) (fun i hi => get_app (hrow i hi).2) (f := (tree ns).row) (fun i => by rw [List.length_map]; exact hwf.few i)
  have hx5 := fm_bd (sAt ns 0) 5 (by decide)
  obtain ⟨dep, hdep⟩ : ∃ dep : Nat, (4 - (sAt ns 0).fmod 5 : Int) = (dep : Int) := ⟨(4 - (sAt ns 0).fmod 5).toNat, by omega⟩
  have hd : dep ≤ 4 := by omega
  have hgame := game_at (ns := ns) (σ := S ++ [AObj.tup [PV.int (lf ns), PV.int (ls ns)]] ++ τ ++ [AObj.list mrs]) (S' := []) (m := (S ++ [AObj.tup [PV.int (lf ns), PV.int (ls ns)]] ++ τ).length) (row := row)
    (get_app (get_app (get_app h3))) (fun i hi => get_app (get_app (get_app (hrow i hi).2))) (get_app (get_app (get_app h4))) (get_app (get_app (get_app h5))) (get_app (get_app (get_app h6)))
  have hrest := law_rest (w := w) (fa := fa) (cd := cd) (r := r) (dep := dep) hn hgame ⟨rfl, rfl, rfl⟩ (get_app (get_app (get_app (get_app hr)))) hd
  conv at hM in (cElt _) => whnf
  conv at hM in (cSc _) => whnf
  conv at hrest in (List.drop _ _) => whnf
  conv in (boO _) => whnf
  apply LEX.cons
  · apply ES.assign
    · with_reducible apply EV.call
      · walk_at "ev"
      · walk_at "ar"
      · exact CX.cl hT
      · walk_at "kp"
      · kernel_rfl
      · intro _; kernel_rfl
    · kernel_rfl
    · kernel_rfl
    · kernel_rfl
    · intro _; kernel_rfl
  apply LEX.cons
  · apply ES.assign
    · with_reducible apply EV.call
      · walk_at "ev"
      · walk_at "ar"
      · exact at_at (i := 0) (by decide) hn
      · walk_at "kp"
      · kernel_rfl
      · intro _; kernel_rfl
    · kernel_rfl
    · kernel_rfl
    · kernel_rfl
    · intro _; kernel_rfl
  apply LEX.cons
  · apply ES.assign
    · apply EV.to (r₀ := .int (dep : Int))
      · walk_at "ev"
      · exact congrArg PV.int hdep
    · kernel_rfl
    · kernel_rfl
    · kernel_rfl
    · intro _; kernel_rfl
  apply LEX.cons (μ₁ := μ4 ns r dep) (σ₁ := S ++ [AObj.tup [PV.int (lf ns), PV.int (ls ns)]])
  · apply ES.swap [.ofString "first", .ofString "second"] (rs := [.int (lf ns), .int (ls ns)]) (i := S.length)
    · apply EV.tuple
      · with_reducible apply AR.cons
        · apply EV.to
          · walk_at "ev"
          · rfl
        · with_reducible apply AR.cons
          · apply EV.to
            · walk_at "ev"
            · rfl
          · exact AR.nil
          · intro _; kernel_rfl
        · intro _; kernel_rfl
      · show 2 ≤ 1000
        decide
    · exact at_last
    · kernel_rfl
    · kernel_rfl
    · show ∀ p ∈ _, (scO (stm 39)).names.lookup p = some .local
      decide +kernel
    · rfl
    · intro _; kernel_rfl
    · intro _; kernel_rfl
  apply LEX.cons
  · apply ES.assignComp (kix := [])
    · with_reducible apply EV.sub
      · walk_at "ev"
      · walk_at "ev"
      · exact OP2.itemT (get_app hr) (by decide) rfl (by decide) (by intro _ _; kernel_rfl)
    · exact SRC.list (get_app h3) (by simp; omega)
    · exact get_app h3
    · rfl
    · simp; omega
    · exact hM
    · intro c α h
      refine ⟨[], ?_, trivial⟩
      show closureFor _ (envX _ _ c.L _ _ c.cl) = _
      kernel_rfl
    · kernel_rfl
    · kernel_rfl
    · decide +kernel
    · decide +kernel
    · intro _ _; kernel_rfl
    · kernel_rfl
    · kernel_rfl
    · intro _; kernel_rfl
  apply LEX.cons
  · apply ES.assign
    · with_reducible apply EV.call
      · walk_at "ev"
      · with_reducible apply AR.cons
        · with_reducible apply EV.sub
          · walk_at "ev"
          · walk_at "ev"
          · exact OP2.itemT (get_app (get_app (get_app hr))) (by decide) rfl (by decide) (by intro _ _; kernel_rfl)
        · with_reducible apply AR.cons
          · with_reducible apply EV.sub
            · walk_at "ev"
            · walk_at "ev"
            · exact OP2.itemT (get_app (get_app (get_app hr))) (by decide) rfl (by decide) (by intro _ _; kernel_rfl)
          · with_reducible apply AR.cons
            · with_reducible apply EV.sub
              · walk_at "ev"
              · walk_at "ev"
              · exact OP2.itemT (get_app (get_app (get_app hr))) (by decide) rfl (by decide) (by intro _ _; kernel_rfl)
            · with_reducible apply AR.cons
              · with_reducible apply EV.sub
                · walk_at "ev"
                · walk_at "ev"
                · exact OP2.itemT (get_app (get_app (get_app hr))) (by decide) rfl (by decide) (by intro _ _; kernel_rfl)
              · walk_at "ar"
              · intro _; kernel_rfl
            · intro _; kernel_rfl
          · intro _; kernel_rfl
        · intro _; kernel_rfl
      · exact made (lv := 18)
      · walk_at "kp"
      · kernel_rfl
      · intro _; kernel_rfl
    · kernel_rfl
    · kernel_rfl
    · kernel_rfl
    · intro _; kernel_rfl
  exact hrest
end
end
section
theorem join0 (d : DefRec) (kwd : List (Str × Expr)) (h1 : defOf qV RL.row.toRowW.name = some (d, kwd)) (h2 : RL.row.prog.theDef RL.row.toRowW.name = some (d.params, d.body, d.scope)) (h3 : kwWritten? d.params.kwonlyargs d.params.kw_defaults = some kwd) : RL.Holds := by
  obtain ⟨rfl, rfl⟩ : _ ∧ _ := by
    have := h1.symm.trans (rfl : defOf qV RL.row.toRowW.name = some _)
    exact ⟨congrArg (·.1) (Option.some.inj this), congrArg (·.2) (Option.some.inj this)⟩
  refine hd _ _ h1 h2 h3 ?_
  intro w s₀ s₁ mg mb G Y fa o pm cd doc dV kV ho hd hcd hD hmg hg args vals as hpre hlay hrd hwl hlo
  have KX : (K w.params).In s₁.heap := Y
  k_behind G ho hd hcd hD hmg hpre hlay hrd hwl hlo cd
  rename_i X V GL T B TE TW a9 a8 M a7 a6 ns hs hlay0 hL1 hr1 hl2 a4 a3 lS vs a0 hL ra w1 r0 hI hr hc' hc'' K0 h₁ F N0
  have hn : ns.length ≤ 63 := by
    rcases Nat.lt_or_ge 63 ns.length with q | q
    · exact absurd (by exact_mod_cast q) hc'
    · exact q
  let c : Cfg := { p := qV, loose := looseW qV looseV, mean := ExcName.means s₀.heap, mg := mg, mb := mb, dp := callerA.depth + 1, un := callerA.units + 3, gd := callerA.guards, outer := [], A₀ := callerA, base := s₁.heap, h₀ := s₁.heap, L := s₁.heap.objs.size, rest := [], lS := lS, cl := [], C := 0, ccl := [] }
  have A : Amb (gg w ns) 20 c := ⟨K0, KX, T, ⟨vs, hL, hI⟩, hn, by show callerA.depth + 1 + 20 < recursionLimit; decide +kernel, by show callerA.units + 3 + 8 * 20 < cLine; decide +kernel⟩
  have S : Sto (gg w ns) c h₁ [] [] := ⟨rfl, fun i ao e => (by simp at e), List.nodup_nil, N0, fun p hp => nomatch hp⟩
  refine law_lex (w := w) (ns := ns) (fa := fa) (cd := a7) hn c _ [] _ _ _ A rfl rfl rfl F ?_ S ?_
  · refine ⟨⟨_, rfl, fun x r e => ?_⟩, trivial, fun _ _ e => nomatch e⟩
    have e2 : x = .ofString "script" ∧ r = .scr := by
      rw [List.lookup_cons] at e
      by_cases hx : x = .ofString "script"
      · rw [show (x == Str.ofString "script") = true by simp [hx]] at e
        exact ⟨hx, (Option.some.inj e).symm⟩
      · rw [show (x == Str.ofString "script") = false by simp [hx]] at e
        cases e
    obtain ⟨rfl, rfl⟩ := e2
    exact ⟨.ref lS, by kernel_rfl, rfl⟩
  · intro h' m' tk' F'
    refine ⟨.inl ⟨.bool true, .bool true, [], rfl, fun _ => rfl, .bool true, ?_, fun _ => ⟨List.nodup_nil, fun a ha => nomatch ha⟩⟩, fun b o e => F'.keep b o e, rfl, hg⟩
    kernel_rfl
theorem joined : RL.Holds := by
  obtain ⟨d, kwd, h1, h2, h3⟩ := defl
  exact join0 d kwd h1 h2 h3
end
end Mine
end
theorem PySem.Challenge.cw_nt0424_01_holds : PySem.Challenge.rw_nt0424_01.Holds := by
  exact Mine.joined
