import PyProof.Rows.All
import Wide.All
import OpenK.AllK
import Wide.FinOn
import KE.KStateDown
import Lean
import HandS.ForMost
import HandS.WordsExc
import HandS.Defaults
import HandS.Head0
import HandS.Head1
import HandS.Head2
import HandS.HeadEnd
import HandS.HeadHook4
import HandS.HeadWalk
import HandS.GenOver
import HandS.GenList
import HandS.Lambda
import KE.GoesEnum
import HandS.Iter
import HandS.Walk
import KE.DataMinMax
import KE.KMinKey
import HandS.IsInst
import HandS.TupSets
import HandS.Star
import HandS.TupLe
import HandS.Style
import HandS.Zip
import HandS.SetFor
import PySem.Challenge.RW_eventcore_k31_whole_blocked_units
set_option Elab.async false
set_option linter.all false
set_option maxRecDepth 100000
/-! ## H1 -/
set_option maxHeartbeats 0
namespace Ev31
open PySem PySem.Spec PyProof.Rows L2
/-! ### the text by places -/
def top (i : Nat) : Stmt := PySem.Challenge.pw_eventcore_k31_whole_blocked_units.main.body.getD i (.Pass ⟨0, 0, 0, 0⟩)
abbrev s_is_in : Stmt := top 12
abbrev s_are_arrivals : Stmt := top 13
abbrev s_need_pattern : Stmt := top 14
abbrev s_need_task : Stmt := top 16
abbrev s_is_section : Stmt := top 22
abbrev s_fit : Stmt := top 23
abbrev s_is_locked : Stmt := top 24
abbrev s_need_locked : Stmt := top 25
abbrev s_plain_tasks : Stmt := top 26
abbrev s_ceilings_of : Stmt := top 27
abbrev m_init : Stmt := (inClass (top 28) 0)
abbrev m_is_over : Stmt := (inClass (top 28) 1)
abbrev m_ready : Stmt := (inClass (top 28) 2)
abbrev m_has_later : Stmt := (inClass (top 28) 3)
abbrev m_held : Stmt := (inClass (top 28) 4)
abbrev m_wanted : Stmt := (inClass (top 28) 5)
abbrev m_waits : Stmt := (inClass (top 28) 6)
abbrev m_currents : Stmt := (inClass (top 28) 7)
abbrev m_first : Stmt := (inClass (top 28) 8)
abbrev m_work : Stmt := (inClass (top 28) 9)
abbrev s_locked_units : Stmt := top 29
abbrev s_need_protocol : Stmt := top 30
abbrev s_blocking_rows : Stmt := top 32
abbrev s_blocked_units : Stmt := top 33
abbrev s_blockers : Stmt := top 34
abbrev s_worst_section : Stmt := top 35
abbrev s_worst_blocking : Stmt := top 36
abbrev s_law_taken : Stmt := top 38
abbrev s_law_pick : Stmt := top 39
abbrev s_law_alike : Stmt := top 40
abbrev s_law_sections : Stmt := top 41
abbrev s_law_locked : Stmt := top 42
abbrev s_law_arrivals : Stmt := top 43
abbrev s_law_tops : Stmt := top 44
abbrev s_law_holds : Stmt := top 45
abbrev s_law_waits : Stmt := top 46
abbrev s_law_currents : Stmt := top 47
abbrev s_law_run : Stmt := top 48
abbrev s_law_rows : Stmt := top 49
abbrev s_law : Stmt := top 50
/-! ### the head: facts by names -/
def fn : List He.DefD := [⟨("is_in", none), "is_in", "is_in", defArgs s_is_in, defBody s_is_in, defScope s_is_in, [], []⟩,
  ⟨("are_arrivals", none), "are_arrivals", "are_arrivals", defArgs s_are_arrivals, defBody s_are_arrivals, defScope s_are_arrivals, [], []⟩,
  ⟨("need_pattern", none), "need_pattern", "need_pattern", defArgs s_need_pattern, defBody s_need_pattern, defScope s_need_pattern, [], []⟩,
  ⟨("need_task", none), "need_task", "need_task", defArgs s_need_task, defBody s_need_task, defScope s_need_task, [], []⟩,
  ⟨("is_section", none), "is_section", "is_section", defArgs s_is_section, defBody s_is_section, defScope s_is_section, [], []⟩,
  ⟨("fit", none), "fit", "fit", defArgs s_fit, defBody s_fit, defScope s_fit, [], []⟩,
  ⟨("is_locked", none), "is_locked", "is_locked", defArgs s_is_locked, defBody s_is_locked, defScope s_is_locked, [], []⟩,
  ⟨("need_locked", none), "need_locked", "need_locked", defArgs s_need_locked, defBody s_need_locked, defScope s_need_locked, [], []⟩,
  ⟨("plain_tasks", none), "plain_tasks", "plain_tasks", defArgs s_plain_tasks, defBody s_plain_tasks, defScope s_plain_tasks, [], []⟩,
  ⟨("ceilings_of", none), "ceilings_of", "ceilings_of", defArgs s_ceilings_of, defBody s_ceilings_of, defScope s_ceilings_of, [], []⟩,
  ⟨("Locked", some "__init__"), "__init__", "Locked.__init__", defArgs m_init, defBody m_init, defScope m_init, [], []⟩,
  ⟨("Locked", some "is_over"), "is_over", "Locked.is_over", defArgs m_is_over, defBody m_is_over, defScope m_is_over, [], []⟩,
  ⟨("Locked", some "ready"), "ready", "Locked.ready", defArgs m_ready, defBody m_ready, defScope m_ready, [], []⟩,
  ⟨("Locked", some "has_later"), "has_later", "Locked.has_later", defArgs m_has_later, defBody m_has_later, defScope m_has_later, [], []⟩,
  ⟨("Locked", some "held"), "held", "Locked.held", defArgs m_held, defBody m_held, defScope m_held, [], []⟩,
  ⟨("Locked", some "wanted"), "wanted", "Locked.wanted", defArgs m_wanted, defBody m_wanted, defScope m_wanted, [], []⟩,
  ⟨("Locked", some "waits"), "waits", "Locked.waits", defArgs m_waits, defBody m_waits, defScope m_waits, [], []⟩,
  ⟨("Locked", some "currents"), "currents", "Locked.currents", defArgs m_currents, defBody m_currents, defScope m_currents, [], []⟩,
  ⟨("Locked", some "first"), "first", "Locked.first", defArgs m_first, defBody m_first, defScope m_first, [], []⟩,
  ⟨("Locked", some "work"), "work", "Locked.work", defArgs m_work, defBody m_work, defScope m_work, [], []⟩,
  ⟨("locked_units", none), "locked_units", "locked_units", defArgs s_locked_units, defBody s_locked_units, defScope s_locked_units, [], []⟩,
  ⟨("need_protocol", none), "need_protocol", "need_protocol", defArgs s_need_protocol, defBody s_need_protocol, defScope s_need_protocol, [], []⟩,
  ⟨("blocking_rows", none), "blocking_rows", "blocking_rows", defArgs s_blocking_rows, defBody s_blocking_rows, defScope s_blocking_rows, [], []⟩,
  ⟨("blocked_units", none), "blocked_units", "blocked_units", defArgs s_blocked_units, defBody s_blocked_units, defScope s_blocked_units, [], []⟩,
  ⟨("blockers", none), "blockers", "blockers", defArgs s_blockers, defBody s_blockers, defScope s_blockers, [], []⟩,
  ⟨("worst_section", none), "worst_section", "worst_section", defArgs s_worst_section, defBody s_worst_section, defScope s_worst_section, [], []⟩,
  ⟨("worst_blocking", none), "worst_blocking", "worst_blocking", defArgs s_worst_blocking, defBody s_worst_blocking, defScope s_worst_blocking, [], []⟩,
  ⟨("_law_taken", none), "_law_taken", "_law_taken", defArgs s_law_taken, defBody s_law_taken, defScope s_law_taken, [], []⟩,
  ⟨("_law_pick", none), "_law_pick", "_law_pick", defArgs s_law_pick, defBody s_law_pick, defScope s_law_pick, [], []⟩,
  ⟨("_law_alike", none), "_law_alike", "_law_alike", defArgs s_law_alike, defBody s_law_alike, defScope s_law_alike, [], []⟩,
  ⟨("_law_sections", none), "_law_sections", "_law_sections", defArgs s_law_sections, defBody s_law_sections, defScope s_law_sections, [], []⟩,
  ⟨("_law_locked", none), "_law_locked", "_law_locked", defArgs s_law_locked, defBody s_law_locked, defScope s_law_locked, [], []⟩,
  ⟨("_law_arrivals", none), "_law_arrivals", "_law_arrivals", defArgs s_law_arrivals, defBody s_law_arrivals, defScope s_law_arrivals, [], []⟩,
  ⟨("_law_tops", none), "_law_tops", "_law_tops", defArgs s_law_tops, defBody s_law_tops, defScope s_law_tops, [], []⟩,
  ⟨("_law_holds", none), "_law_holds", "_law_holds", defArgs s_law_holds, defBody s_law_holds, defScope s_law_holds, [], []⟩,
  ⟨("_law_waits", none), "_law_waits", "_law_waits", defArgs s_law_waits, defBody s_law_waits, defScope s_law_waits, [], []⟩,
  ⟨("_law_currents", none), "_law_currents", "_law_currents", defArgs s_law_currents, defBody s_law_currents, defScope s_law_currents, [], []⟩,
  ⟨("_law_run", none), "_law_run", "_law_run", defArgs s_law_run, defBody s_law_run, defScope s_law_run, [], []⟩,
  ⟨("_law_rows", none), "_law_rows", "_law_rows", defArgs s_law_rows, defBody s_law_rows, defScope s_law_rows, [], []⟩,
  ⟨("law", none), "law", "law", defArgs s_law, defBody s_law, defScope s_law, [], []⟩]
def fa : List He.Fa := [.glo "is_in", .glo "are_arrivals", .glo "need_pattern", .glo "need_task", .glo "is_section", .glo "fit",
  .glo "is_locked", .glo "need_locked", .glo "plain_tasks", .glo "ceilings_of", .meth "Locked" "is_over", .meth "Locked" "ready",
  .meth "Locked" "has_later", .meth "Locked" "held", .meth "Locked" "wanted", .meth "Locked" "waits", .meth "Locked" "currents", .meth "Locked" "first",
  .meth "Locked" "work", .glo "locked_units", .glo "need_protocol", .glo "blocking_rows", .glo "blocked_units", .glo "blockers",
  .glo "worst_section", .glo "worst_blocking", .glo "_law_taken", .glo "_law_pick", .glo "_law_alike", .glo "_law_sections",
  .glo "_law_locked", .glo "_law_arrivals", .glo "_law_tops", .glo "_law_holds", .glo "_law_waits", .glo "_law_currents",
  .glo "_law_run", .glo "_law_rows", .glo "law", .glo "Locked", .glo "PROTOCOLS", .cls "Locked",
  .mkr "Locked", .noat "Locked" "tasks", .noat "Locked" "pattern", .noat "Locked" "protocol", .noat "Locked" "tops", .noat "Locked" "done",
  .noat "Locked" "units", .free "isinstance", .free "int", .free "bool", .free "tuple", .free "str",
  .free "list", .free "set", .free "dict", .free "enumerate", .free "len", .free "range",
  .free "any", .free "all", .free "sum", .free "max", .free "min", .free "sorted",
  .int "MOST_COST" 20, .int "MOST_TIME" 60, .int "MOST_ARRIVAL" 100, .int "MOST_JOBS" 40, .int "MOST_LOCKED" 5, .int "MOST_SECTIONS" 4,
  .int "LOCKS" 4]
def tf : List He.Defn := [("need_pattern", none), ("is_locked", none), ("ceilings_of", none), ("Locked", some "is_over"), ("Locked", some "has_later"), ("Locked", some "waits"), ("Locked", some "first")]
def ex (K : PySem.W.Frag) : Bool := He.tupB K "PROTOCOLS" [.str "plain", .str "inherit", .str "ceiling", .str "stack"] && decide ((tf.map fun p => (He.cT K p).2).Nodup)
def loose : List PySem.Str := (["EventError", "BadPattern", "BadTask", "BadLocked", "BadProtocol", "TooMany", "MOST_COST", "MOST_TIME", "MOST_ARRIVAL", "MOST_JOBS", "is_in", "are_arrivals", "need_pattern", "need_task", "MOST_LOCKED", "MOST_SECTIONS", "LOCKS", "PROTOCOLS", "is_section", "fit", "is_locked", "need_locked"] : List PySem.Str) ++ (["plain_tasks", "ceilings_of", "Locked", "locked_units", "need_protocol", "blocking_rows", "blocked_units", "blockers", "worst_section", "worst_blocking", "_law_taken", "_law_pick", "_law_alike", "_law_sections", "_law_locked", "_law_arrivals", "_law_tops", "_law_holds", "_law_waits", "_law_currents", "_law_run", "_law_rows"] : List PySem.Str)
abbrev R : PySem.W.OpenRow := PySem.W.OpenLaw.row PySem.Challenge.rw_eventcore_k31_whole_blocked_units
abbrev hk : PySem.W.Hook := He.hookX 6 fa fn [] tf ex
def ob (s : PySem.W.SharedT) : He.AlX := He.obsX 6 fa fn [] tf ex (HandSHeadRun.getT s)
theorem ob_eq (s : PySem.W.SharedT) : ob s = hk.obs s.abs := He.obsX_eq (HandSHeadRun.getT_eq s)
theorem run (w : World) : HandSHeadRun.RunEq R (PySem.W.view R.prog [50]) hk ob 3200 loose w := by
  intro os
  kernel_rfl
end Ev31
/-! ## GxA -/
set_option maxHeartbeats 4000000
/-! Generator expressions: made in a def's frame (one clause or more), their frame's context. -/
namespace Gx
open PySem PySem.Spec PyProof.Rows L2

theorem eval_gen (elt tg iter : Expr) (ifs : List Expr) (more : List Comprehension) (sc : Scope) (pos : Pos) (env : Env) (hco : sc.isCoroutine = false) :
    eval (.GeneratorExp elt (⟨tg, iter, ifs, 0⟩ :: more) sc pos) env = (eval iter env >>= fun x0 => standAt iter.pos >>= fun _ => genFold iter env x0 >>= fun x => holding [x] (pyIter x) >>= fun it =>
      enterFrame >>= fun _ => closureFor sc env >>= fun cl => genexprCode env pos (env.qual ++ "<genexpr>") sc >>= fun code => builtinsFor env.globals env.builtins >>= fun bi =>
      newFunctionEnv sc env.globals cl [(".0", it)] (env.qual ++ "<genexpr>.") none code none bi >>= fun cenv =>
      newGenerator (.compStart (.GeneratorExp elt (⟨tg, iter, ifs, 0⟩ :: more) sc pos) 0 it .none cenv) "<genexpr>" (env.qual ++ "<genexpr>")) := by
  rw [arm_eval_GeneratorExp]
  simp only [hco, Bool.false_eq_true, if_false]
  cases iter <;> rfl

theorem upd_id {H : Hp} {a : Addr} {o : HO} (h : H a = some o) : upd H a o = H := by
  funext b
  unfold upd
  split
  · rename_i e
    rw [e, h]
  · rfl
/-! ### what only grows: all objects but tables stay, the tables T stay tables -/
abbrev TbL := List (Addr × Str)
structure Ex (T : TbL) (H H' : Hp) : Prop where
  ob : ∀ a o, H a = some o → (∀ ps, o ≠ .tbl ps) → H' a = some o
  tb : LamX.Tabs T H → LamX.Tabs T H'
section
variable {T : TbL}
theorem Ex.refl (H : Hp) : Ex T H H := ⟨fun _ _ h _ => h, fun h => h⟩
theorem Ex.trans {H H1 H2 : Hp} (a : Ex T H H1) (b : Ex T H1 H2) : Ex T H H2 := ⟨fun c o h n => b.ob c o (a.ob c o h n) n, fun h => b.tb (a.tb h)⟩
theorem Ex.all {H H' : Hp} (h : ∀ a o, H a = some o → H' a = some o) : Ex T H H' := ⟨fun a o e _ => h a o e, fun t => t.ext h⟩
theorem Ex.new {H : Hp} {p : Addr} {o : HO} (h : H p = none) : Ex T H (upd H p o) := .all fun a u e => by
  rw [upd_ne (ne_of_none e h)]
  exact e
/-- no table, no code object -/
def Plain : HO → Prop
  | .tbl _ => False
  | .ext _ => False
  | _ => True
/-- an object that H does not know may change -/
theorem Ex.mut {H H' : Hp} {p : Addr} {o u : HO} (e : Ex T H H') (h : H p = none) (hp : H' p = some u) (hu : Plain u) : Ex T H (upd H' p o) := by
  refine ⟨fun a v ha n => ?_, fun ht r hr => ?_⟩
  · rw [upd_ne (ne_of_none ha h)]
    exact e.ob a v ha n
  · obtain ⟨ps, h1, h2, h3⟩ := e.tb ht r hr
    have n1 : r.1 ≠ p := fun z => by
      rw [z, hp] at h1
      cases h1
      exact hu
    refine ⟨ps, by rw [upd_ne n1]; exact h1, h2, fun pos cv hc => ?_⟩
    obtain ⟨c, e1, e2⟩ := h3 pos cv hc
    have n2 : c ≠ p := fun z => by
      rw [z, hp] at e2
      have e3 : u = LamX.CodeO p r.2 := Option.some.inj e2
      rw [e3] at hu
      exact hu
    exact ⟨c, e1, by rw [upd_ne n2]; exact e2⟩
end

section
variable {X : Cx} {pins : List (Addr × Obj)} {σ : L2.St} {H : Hp} {s : Shared}
/-- Inv leans on the heap, the os, and on the generators being bare -/
theorem inv_state {s' : Shared} (I : Inv X pins σ H s) (hh : s'.heap = s.heap) (ho : s'.os = s.os) (hb : AllBare s'.gens) : Inv X pins σ H s' :=
  ⟨I.ok, ho.trans I.os, hb, by rw [hh]; exact I.base, by rw [hh]; exact I.loc, by rw [hh]; exact I.cell, I.free, I.freeC, by rw [hh]; exact I.pin, by rw [hh]; exact I.hok, I.len⟩

/-- the genexpr's code object is found in the table, or made -/
theorem code_ok {T : TbL} {c P : Addr} {pos : Pos} {q : Str} {sc : Scope} {E : Value → Shared → Prop} {Q : Value → Shared → Prop} (I : Inv X pins σ H s) (TB : LamX.TabB X.base X.mg c P) (hcode : X.env.code = .ref c) (hm : (P, q) ∈ T)
    (hu : ∀ r ∈ T, r.1 = P → r.2 = q) (hTs : LamX.Tabs T H)
    (hQ : ∀ (code : Value) (H' : Hp) (h' : Heap) (tk : Nat), Inv X pins σ H' { s with heap := h', toks := tk } → Ex T H H' → s.heap.objs.size ≤ h'.objs.size → (∀ b, b < s.heap.objs.size → b ≠ P → H' b = H b) → (∀ b o, b ≠ P → s.heap.get? b = some o → h'.get? b = some o) → Q code { s with heap := h', toks := tk }) :
    wpAny (model X.prog X.w) X.A (genexprCode X.env pos q sc) Q E s := by
  obtain ⟨qs, hT, ht, ha⟩ := hTs _ hm
  have eP : s.heap.get? P = some { cls := .none, data := .fields qs } := I.hok P _ hT
  have cd : PySem.W.CodeHd s.heap c P := TB.code.keeps I.bk
  cases hf : codeAmong pos qs.toList with
  | none =>
    refine wpAny_genexprCodeX hcode (cd.code eP ht) (cd.tab eP) hf fun c' h' tk hx hge hlt hco hrec htab _ => ?_
    obtain ⟨c2, oc, vs, t, e2, hoc, hd, hv⟩ := hrec
    cases e2
    have nC : H c' = none := I.hok.fresh hge
    have I2 := LamX.inv_table (t' := tk) (q := q) (more := #[rawInt pos.line, rawInt pos.col, .ref c']) (h' := h') I hT hx htab.2 hge ⟨oc, vs, t, hoc, hd, hv⟩
    have hE : ∀ b o, H b = some o → (∀ ps, o ≠ .tbl ps) → upd (upd H P (.tbl (qs ++ #[rawInt pos.line, rawInt pos.col, .ref c']))) c' (LamX.CodeO c' q) b = some o := fun b o e n => by
      rw [upd_ne (ne_of_none e nC), upd_ne (fun z => n qs (Option.some.inj (e.symm.trans (by rw [z]; exact hT))))]
      exact e
    refine hQ _ _ h' tk I2 ⟨hE, fun _ r hr => ?_⟩ (Nat.le_trans hge (Nat.le_of_lt hlt)) (fun b hb hbP => ?_) hx
    · by_cases hb : r.1 = P
      · rw [hu r hr hb, hb]
        have eL : (qs ++ #[rawInt pos.line, rawInt pos.col, .ref c']).toList = qs.toList ++ [rawInt pos.line, rawInt pos.col, .ref c'] := by simp
        refine ⟨_, by rw [upd_ne (ne_of_none hT nC), upd_same], by rw [eL]; exact PySem.TriplesOk_snoc _ _ _ _ ht, fun p' cv hcv => ?_⟩
        rw [eL] at hcv
        rcases LamX.among_app _ ht hcv with z | z
        · obtain ⟨c0, e1, e2⟩ := ha p' cv z
          exact ⟨c0, e1, hE _ _ e2 LamX.codeO_ne⟩
        · exact ⟨c', z, upd_same⟩
      · obtain ⟨ps', a1, a2, a3⟩ := hTs r hr
        refine ⟨ps', by rw [upd_ne (ne_of_none a1 nC), upd_ne hb]; exact a1, a2, fun p' cv hcv => ?_⟩
        obtain ⟨c0, e1, e2⟩ := a3 p' cv hcv
        exact ⟨c0, e1, hE _ _ e2 LamX.codeO_ne⟩
    · have hbc : b ≠ c' := fun z => by
        rw [z] at hb
        exact absurd (Nat.lt_of_lt_of_le hb hge) (Nat.lt_irrefl _)
      rw [upd_ne hbc, upd_ne hbP]
  | some cv =>
    refine wpAny_genexprCode_hit hcode (cd.code eP ht) hf ?_
    exact hQ cv H s.heap s.toks I (Ex.refl H) (Nat.le_refl _) (fun _ _ _ => rfl) fun _ _ _ e => e
theorem blt_ok {c P : Addr} {E : Value → Shared → Prop} {Q : Addr → Shared → Prop} (I : Inv X pins σ H s) (TB : LamX.TabB X.base X.mg c P) (hQ : Q builtinsNs s) :
    wpAny (model X.prog X.w) X.A (builtinsFor X.env.globals X.env.builtins) Q E s := by
  obtain ⟨bm, ob, e1, e2, e3, e4, e5, e6, e7, e8⟩ := TB.bm
  exact wpAny_builtinsFor (m := X.mg) (by rw [I.ok.glob]; exact I.mod.glob.keeps I.bk) e1 e2 (I.bk _ _ e5) e6 e7 e8 hQ
end

/-- the genexpr's own scope -/
structure GSc (N : List Str) (sc scope : Scope) (own : List (Str × Nat)) : Prop where
  blk : BlkOk N sc scope own
  co : scope.isCoroutine = false
  cell : ∀ y ∈ scope.names, y.2 ≠ .cell
  dot : scope.names.lookup (".0" : Str) = some NameKind.local
/-- its frame -/
abbrev gEnv (X : Cx) (scope : Scope) (C : Addr) (code : Value) : Env := genEnv scope (cloFrom X.env.cells scope.names []) C code builtinsNs X.env
/-- the context of its code: entered at s (ahead of its frame), its first iterator's objects at fp; pn: its own object -/
abbrev gcx (X : Cx) (s : Shared) (H : Hp) (cenv : Env) (fp : List Addr) (pn : List (Addr × Obj)) (A : Around) : Cx :=
  { X with A := A, s_0 := s, H_0 := H, env := cenv, outer := X.stack, stack := cenv :: X.stack, ex := fp, fn := fun _ => false, pn := pn, xe := fun _ _ => False }

section
variable {X : Cx} {pins : List (Addr × Obj)} {σ : L2.St} {H : Hp} {s : Shared}
theorem gen_start {scope : Scope} {own : List (Str × Nat)} {fp : List Addr} {code : Value} {h' : Heap} {go : Obj} {a : Addr} {m : Str → Option Value} {G : Array GenState} {tk : Nat} {A : Around}
    (I : Inv X pins σ H s) (ok : GSc X.N X.env.scope scope own) (hN : X.N.Nodup) (hc : X.calm = true) (hfp : ∀ b ∈ fp, FpOk X pins H b ∧ b < s.heap.objs.size) (hA1 : A.handled = none) (hA2 : A.frames = some (gEnv X scope s.heap.objs.size code :: X.stack))
    (hn : h'.Ns s.heap.objs.size m) (hk : ∀ b o, s.heap.get? b = some o → h'.get? b = some o) (hal : s.heap.objs.size < a) (hao : h'.get? a = some go) (hgo : ∀ v, go.data ≠ .cell v) (hG : AllBare G) :
    Inv (gcx X s H (gEnv X scope s.heap.objs.size code) fp [(a, go)] A) [] (wipe σ (own.map (·.2))) H { s with heap := h', gens := G, toks := tk } := by
  have hfree : ∀ y ∈ scope.names, y.2 = .free → ∃ c, X.env.cells.lookup y.1 = some c := fun y hy e => by
    rcases ok.blk.free y hy e with k | k
    · exact I.ok.has _ (.inl k)
    · exact I.ok.has _ (.inr k)
  have cm : ∀ {y c}, (cloFrom X.env.cells scope.names []).lookup y = some c → X.env.cells.lookup y = some c ∧ (y, NameKind.free) ∈ scope.names ∧ c < s.heap.objs.size := fun {y c} e => by
    rcases cloFrom_mem (PySem.mem_of_lookup e) with hm | ⟨h1, h2⟩
    · cases hm
    · obtain ⟨c1, hc1⟩ := hfree _ h1 rfl
      have hc1 : X.env.cells.lookup y = some c1 := hc1
      have e2 : c = c1 := by rw [h2, hc1]; rfl
      obtain ⟨w, z⟩ := I.cell _ _ hc1
      rw [e2]
      exact ⟨hc1, h1, z.lt⟩
  have look : ∀ {y}, scope.names.lookup y = some .free → ∃ c, (cloFrom X.env.cells scope.names []).lookup y = some c := fun {y} hl =>
    mem_lookup (cloFrom_has (cells := X.env.cells) (acc := []) (PySem.mem_of_lookup hl))
  have hne : ∀ b, b < s.heap.objs.size → b ≠ s.heap.objs.size := fun b hb => Nat.ne_of_lt hb
  have okG : (gcx X s H (gEnv X scope s.heap.objs.size code) fp [(a, go)] A).Ok := by
    refine ⟨I.ok.mod, ok.blk.kind, I.ok.glob, rfl, Nat.le_refl _, fun y z c e1 e2 => I.ok.inj y z c (cm e1).1 (cm e2).1, fun y hy => ?_, fun y c z _ => Bool.noConfusion z, fun _ => hA1, hA2, .inr ⟨rfl, rfl⟩,
      fun b hb => ⟨hne b (hfp b hb).2, fun y c e z => (hfp b hb).1.2.2.2.2.1 y c (cm e).1 z⟩, I.bs, Nat.le_trans I.ok.bsz I.sz, fun b o e hb => ?_, fun b hb z => ?_, I.stack, I.stkFree⟩
    · have hy : scope.names.lookup y = some .cell ∨ scope.names.lookup y = some .free := hy
      rcases hy with hy | hy
      · exact absurd rfl (ok.cell _ (PySem.mem_of_lookup hy))
      · exact look hy
    · rcases (hfp b hb).1.2.2.2.1 with z | z
      · exact I.ok.noex b o e z
      · exact absurd (Nat.lt_of_lt_of_le (Heap.lt_size e) (Nat.le_trans I.ok.bsz z)) (Nat.lt_irrefl _)
    · rcases List.mem_cons.mp (I.stkSub b z) with z | z
      · exact (hfp b hb).1.2.1 z
      · exact (hfp b hb).1.2.2.1 z
  have aH : H a = none := I.hok.fresh (Nat.le_of_lt hal)
  have afs : a ∉ frs X.stack := fun z => by
    rcases List.mem_cons.mp (I.stkSub a z) with z | z
    · have h1 := I.lt
      rw [← z] at h1
      exact absurd (Nat.lt_trans h1 hal) (Nat.lt_irrefl _)
    · exact I.nofs (Nat.le_of_lt hal) z
  refine ⟨okG, rfl, hG, Un.kept hk, ⟨m, hn, fun i y v e1 e2 e3 => ?_⟩, fun y c e => ?_, I.hok.fresh (Nat.le_refl _), fun y c e => I.freeC y c (cm e).1, fun p hp => ?_, I.hok.kept hk, by rw [wipe_length]; exact I.len⟩
  · obtain ⟨e2, hno⟩ := wipe_some e2
    have noOwn : ∀ k, scope.names.lookup y = some k → k = .local ∨ k = .cell → False := fun k hk' hh => by
      rcases ok.blk.own _ (PySem.mem_of_lookup hk') hh with e' | e'
      · obtain ⟨p, hp, hpy⟩ := List.mem_map.mp e'
        have e3 := ok.blk.ix p hp
        have hpy : p.1 = y := hpy
        rw [hpy] at e3
        exact hno (List.mem_map.mpr ⟨p, hp, nodup_ix hN e3 e1⟩)
      · exact e' (List.mem_of_getElem? e1)
    have e3 : Vis scope y := e3
    rcases e3 with k | k | k
    · exact (noOwn _ k (.inl rfl)).elim
    · exact (noOwn _ k (.inr rfl)).elim
    · obtain ⟨m0, _, hl⟩ := I.loc
      have hv := ok.blk.free _ (PySem.mem_of_lookup k) rfl
      obtain ⟨u, r, q⟩ := hl i y v e1 e2 (hv.elim (fun k => .inr (.inl k)) (fun k => .inr (.inr k)))
      obtain ⟨c2, h2⟩ := look k
      refine ⟨u, r, .inr ⟨.inr k, c2, h2, ?_⟩⟩
      rcases q with ⟨k', _⟩ | ⟨_, c3, e', z⟩
      · have k' : X.env.scope.names.lookup y = some .local := k'
        rcases hv with k2 | k2 <;> rw [show X.env.scope.names.lookup y = _ from k2] at k' <;> cases k'
      · rw [(cm h2).1] at e'
        cases e'
        exact z.keeps hk
  · obtain ⟨v, z⟩ := I.cell y c (cm e).1
    exact ⟨v, z.keeps hk⟩
  · have hp : p = (a, go) := by simpa using hp
    rw [hp]
    exact ⟨hao, aH, Nat.ne_of_gt hal, afs, hgo⟩
end
end Gx
/-! ## GxB -/
set_option maxHeartbeats 4000000
namespace Gx
open PySem PySem.Spec PyProof.Rows L2

/-- a generator expression that has been made, not begun: entered at s0, its frame in the context Z -/
structure Made (X : Cx) (pins : List (Addr × Obj)) (σ σ0 : L2.St) (H1 : Hp) (tg : Expr) (J : It) (e : Expr) (scope : Scope) (it : Addr) (fp : List Addr) (tn : Nat → Heap → Prop) (a : Addr) (g : Nat) (s0 s1 : Shared) (code : Value) (go : Obj) : Prop where
  inv0 : Inv X pins σ H1 s0
  fpo : ∀ b ∈ fp, FpOk X pins H1 b
  afp : a ∉ fp
  inv : Inv (gcx X s0 H1 (gEnv X scope s0.heap.objs.size code) fp [(a, go)] (X.A.in1.in1.deeper (gEnv X scope s0.heap.objs.size code))) [] σ0 H1 s1
  gen : s1.heap.IsGen a g
  gens : s1.gens[g]? = some (.fresh (.compStart e 0 (.ref it) .none (gEnv X scope s0.heap.objs.size code)))
  turn : Turn X.prog X.w X.K tg J fp it tn
  at0 : tn 0 s1.heap

section
variable {X : Cx} {pins : List (Addr × Obj)} {σ : L2.St} {H : Hp} {s : Shared}
theorem gen_made {T : TbL} {c P : Addr} {elt tg iter : Expr} {ifs : List Expr} {more : List Comprehension} {scope : Scope} {own : List (Str × Nat)} {gpos : Pos} {wi : TI} {k : Nat} {Q : Value → Shared → Prop} {R : It → Hp → Prop}
    (hr : Room k X.A) (hc : X.calm = true) (hN : X.N.Nodup) (TB : LamX.TabB X.base X.mg c P) (hcode : X.env.code = .ref c) (ok : GSc X.N X.env.scope scope own) (hi : PI X tg iter wi) (hs : ∀ v, genFold iter X.env v = pure v)
    (I : Inv X pins σ H s) (hm : (P, X.env.qual ++ "<genexpr>") ∈ T) (hu : ∀ r ∈ T, r.1 = P → r.2 = X.env.qual ++ "<genexpr>") (h : wi σ H fun J H1 => LamX.Tabs T H1 ∧ R J H1)
    (hQ : ∀ (J : It) (H0 H1 : Hp) (it : Addr) (fp : List Addr) (tn : Nat → Heap → Prop) (a : Addr) (g : Nat) (s0 s1 : Shared) (code : Value) (go : Obj),
      R J H0 → Ex T H0 H1 → Made X pins σ (wipe σ (own.map (·.2))) H1 tg J (.GeneratorExp elt (⟨tg, iter, ifs, 0⟩ :: more) scope gpos) scope it fp tn a g s0 s1 code go → Q (.ref a) s1) :
    wpAny (model X.prog X.w) X.A (eval (.GeneratorExp elt (⟨tg, iter, ifs, 0⟩ :: more) scope gpos) X.env) Q X.xe s := by
  have hfree : ∀ y ∈ scope.names, y.2 = .free → ∃ c, X.env.cells.lookup y.1 = some c := fun y hy e => by
    rcases ok.blk.free y hy e with k | k
    · exact I.ok.has _ (.inl k)
    · exact I.ok.has _ (.inr k)
  rw [eval_gen _ _ _ _ _ _ _ _ ok.co, closure_ok hfree]
  refine wpAny_bind (thn (hi.run pins s σ H _ I h) fun xv s1 hx => ?_)
  refine wpAny_bind (wpAny_standAt ?_)
  refine wpAny_bind (wpAny_of_eq (hs xv) ?_)
  refine wpAny_bind (wpAny_holding (thn hx fun itv s2 h2 => ?_))
  obtain ⟨it, fp, tn, J, H2, e, I2, Tn, st2, f2, hP, q⟩ := h2
  subst e
  have hroom : X.A.depth < recursionLimit := by have := hr.dp; omega
  refine wpAny_bind (wpAny_enterFrame I2.nolimit hroom ?_)
  refine wpAny_bind (wpAny_pure ?_)
  refine wpAny_bind (code_ok I2 TB hcode hm hu hP fun code H3 h3 tk3 I3 hE hsz kH k3 => ?_)
  refine wpAny_bind (blt_ok I3 TB ?_)
  have fpP : ∀ b ∈ fp, b ≠ P := fun b hb z => by
    obtain ⟨ps, e, _⟩ := hP _ hm
    have e0 := (f2 b hb).1
    rw [z] at e0
    have e : H2 P = some (.tbl ps) := e
    rw [e0] at e
    cases e
  have fp3 : ∀ b ∈ fp, FpOk X pins H3 b := fun b hb => by
    obtain ⟨o, e, _⟩ := Tn.obj _ _ st2 b hb
    exact ⟨(kH b (Heap.lt_size e) (fpP b hb)).trans (f2 b hb).1, (f2 b hb).2⟩
  have st3 : tn 0 h3 := Tn.keep _ _ _ st2 fun b hb o e => k3 b o (fpP b hb) e
  generalize hs3 : ({ s2 with heap := h3, toks := tk3 } : Shared) = s3 at I3
  have h3e : s3.heap = h3 := by rw [← hs3]
  have f3 : ∀ b ∈ fp, FpOk X pins H3 b ∧ b < s3.heap.objs.size := fun b hb => by
    obtain ⟨o, e, _⟩ := Tn.obj _ _ st3 b hb
    exact ⟨fp3 b hb, by rw [h3e]; exact Heap.lt_size e⟩
  have hb1 : ∀ y ∈ ([((".0" : Str), Value.ref it)] : List (Str × Value)), scope.names.lookup y.1 = some NameKind.local := by
    intro y hy
    rcases List.mem_cons.mp hy with rfl | hy
    · exact ok.dot
    · cases hy
  refine wpAny_bind (wpAny_newFunctionEnv ok.cell hb1 (fun h' hn' hs' => ?_) ok.blk.kind)
  have sz' : h'.objs.size = s3.heap.objs.size + 1 := by rw [hs'.1, Heap.size_push]
  have keep' : ∀ b o, s3.heap.get? b = some o → h'.get? b = some o := fun b o e => hs'.extBut b o (Nat.ne_of_lt (Heap.lt_size e)) (Heap.get?_push_of_some _ e)
  have lt' : s3.heap.objs.size < h'.objs.size := by omega
  have fin : Q (.ref h'.objs.size) { s3 with gens := s3.gens.push (.fresh (.compStart (.GeneratorExp elt (⟨tg, iter, ifs, 0⟩ :: more) scope gpos) 0 (.ref it) .none (gEnv X scope s3.heap.objs.size code))), toks := s3.toks + 1 + 1 + 1, heap := h'.push { cls := .type "generator", data := .fields #[.int s3.gens.size 0, .str "<genexpr>" (s3.toks + 1), .str (X.env.qual ++ "<genexpr>") (s3.toks + 1 + 1)] } } := by
    generalize hgo : ({ cls := .type "generator", data := .fields #[.int s3.gens.size 0, .str "<genexpr>" (s3.toks + 1), .str (X.env.qual ++ "<genexpr>") (s3.toks + 1 + 1)] } : Obj) = go
    have eo : (h'.push go).get? h'.objs.size = some go := Heap.get?_push_size _ (by rw [← hgo]; rfl)
    have J0 := gen_start (h' := h'.push go) (go := go) (a := h'.objs.size) (G := s3.gens.push (.fresh (.compStart (.GeneratorExp elt (⟨tg, iter, ifs, 0⟩ :: more) scope gpos) 0 (.ref it) .none (gEnv X scope s3.heap.objs.size code)))) (tk := s3.toks + 1 + 1 + 1)
      (A := X.A.in1.in1.deeper (gEnv X scope s3.heap.objs.size code)) (code := code)
      I3 ok hN hc f3 hr.hd (Around.frames_deeper I3.ok.frames) (hn'.push _) (fun b o e => Heap.get?_push_of_some _ (keep' b o e)) lt' eo (fun v z => by rw [← hgo] at z; cases z) (I3.bare.push rfl)
    refine hQ J H2 H3 it fp tn h'.objs.size s3.gens.size s3 _ code go q hE ⟨I3, fp3, fun hmm => ?_, J0, ?_, ?_, Tn, ?_⟩
    · exact absurd (Nat.lt_trans (f3 _ hmm).2 lt') (Nat.lt_irrefl _)
    · exact ⟨go, .str "<genexpr>" (s3.toks + 1), .str (X.env.qual ++ "<genexpr>") (s3.toks + 1 + 1), eo, by rw [← hgo], by rw [← hgo], by rw [← hgo]⟩
    · exact Array.getElem?_push_size ..
    · exact Tn.keep _ _ _ st3 fun b hb o e => Heap.get?_push_of_some _ (keep' b o (by rw [h3e]; exact e))
  simp only [newGenerator, newFields]
  exact wpAny_bind (wpAny_newGen (wpAny_bind (wpAny_mkText (wpAny_bind (wpAny_mkText (wpAny_newObj_type fin (by size_fits)))))))
end
end Gx
/-! ## GxC -/
set_option maxHeartbeats 4000000
namespace Gx
open PySem PySem.Spec PyProof.Rows L2

theorem over_loopG {A : Around} {elt : Expr} {gens : List Comprehension} {scope : Scope} {pos : Pos} {it acc : Value} {env : Env} : A.over (.compLoop (.GeneratorExp elt gens scope pos) 0 it acc env) [] = A.deeper env := by
  first
    | rfl
    | (obtain ⟨hd, d, fr, gs, u⟩ := A; simp [Around.over, Around.deeper, marksOver, frameCount, unitsOf, envsOf, guardsOf, pushEnvs, pushGuards, Code.envs, Code.env?, Code.isFrame, Code.guards, Code.isGuard, Code.weight, Code.frames, Code.isCreation, Code.isCaller, Code.cUnits])
theorem over_startG {A : Around} {elt : Expr} {gens : List Comprehension} {scope : Scope} {pos : Pos} {it acc : Value} {env : Env} : A.over (.compStart (.GeneratorExp elt gens scope pos) 0 it acc env) [] = A.deeper env := by
  first
    | rfl
    | (obtain ⟨hd, d, fr, gs, u⟩ := A; simp [Around.over, Around.deeper, marksOver, frameCount, unitsOf, envsOf, guardsOf, pushEnvs, pushGuards, Code.envs, Code.env?, Code.isFrame, Code.guards, Code.isGuard, Code.weight, Code.frames, Code.isCreation, Code.isCaller, Code.cUnits])

/-- the code has run to its end -/
def PEnd (Z : Cx) (σ0 : L2.St) (Qe : Hp → Prop) (_n : Nat) (_s0 s1 : Shared) : Prop := ∃ H', Inv Z [] σ0 H' s1 ∧ Qe H'
/-- a truth value is handed out: b0, after which nothing more is asked; or the other one, and on it goes -/
def YOut (Z : Cx) (σ0 : L2.St) (b0 : Bool) (Qh : Hp → Prop) : Protocol := fun _ _ v s1 kap =>
  ∃ c H', v = .bool c ∧ Inv Z [] σ0 H' s1 ∧ (c = b0 → Qh H') ∧ (c ≠ b0 → ∀ s2 : Shared, s2.heap = s1.heap → s2.os = s1.os → AllBare s2.gens → kap (.send .none) s2)

/-- one turn's asking, by what is walked: the end, or an item and the element's reading -/
def Turns (J : It) (g : TG) (te : TE) (vs : List Nat) (σ0 : L2.St) (b0 : Bool) (W : Nat → Nat → Hp → Prop) (Qe Qh : Hp → Prop) : Prop := ∀ i m H, W i m H →
  (J.stop i H ∧ Qe H) ∨ (J.go i H ∧ ∃ Nx : Hp → Prop, (∀ H', Nx H' → ∃ m', m' < m ∧ W (i + 1) m' H') ∧ ∀ x H', J.yld i H x H' → g x σ0 H' fun σ2 H2 => wipe σ2 vs = σ0 ∧ te σ2 H2 fun y H3 => ∃ c, y = .bl c ∧ (c = b0 → Qh H3) ∧ (c ≠ b0 → Nx H3))

section
variable {Z : Cx} {A : Around} {tg iter elt : Expr} {scope : Scope} {gpos : Pos} {it : Addr} {fp : List Addr} {tn : Nat → Heap → Prop} {J : It} {g : TG} {te : TE} {vs : List Nat} {σ0 : L2.St} {b0 : Bool} {W : Nat → Nat → Hp → Prop} {Qe Qh : Hp → Prop}
theorem fp_ok {σ : L2.St} {H : Hp} {s : Shared} (hex : Z.ex = fp) (hpn : ∀ p ∈ Z.pn, p.1 ∉ fp) (I : Inv Z [] σ H s) (hn : ∀ b ∈ fp, H b = none) : ∀ b ∈ fp, FpOk Z [] H b := fun b hb =>
  ⟨hn b hb, (I.ok.exf b (by rw [hex]; exact hb)).1, I.ok.exfs b (by rw [hex]; exact hb), .inl (by rw [hex]; exact hb), fun x c e => (I.ok.exf b (by rw [hex]; exact hb)).2 x c e, fun p hp z => hpn p (by simpa using hp) (by rw [z]; exact hb)⟩

theorem seg_loop1 (hA : Z.A = A.deeper Z.env) (hcm : Z.calm = true) (hco : Z.env.scope.isCoroutine = false) (hex : Z.ex = fp) (hpn : ∀ p ∈ Z.pn, p.1 ∉ fp) (hxe : Z.xe = fun _ _ => False)
    (T : Turn Z.prog Z.w Z.K tg J fp it tn) (pg : PG Z tg g) (pe : PE Z elt te) (hW : Turns J g te vs σ0 b0 W Qe Qh) (hs0 : ∀ σ2, wipe σ2 vs = σ0 → σ0.length = σ2.length) :
    ∀ (m n i : Nat) (s₀ s : Shared) (H : Hp), m < n → W i m H → Inv Z [] σ0 H s → tn i s.heap → (∀ b ∈ fp, H b = none) →
      Seg (model Z.prog Z.w) A (fun n s₀ r s1 => r = .ok .next ∧ PEnd Z σ0 Qe n s₀ s1) (YOut Z σ0 b0 Qh) n s₀ (.compLoop (.GeneratorExp elt [⟨tg, iter, [], 0⟩] scope gpos) 0 (.ref it) .none Z.env)
        ((model Z.prog Z.w).den (.compLoop (.GeneratorExp elt [⟨tg, iter, [], 0⟩] scope gpos) 0 (.ref it) .none Z.env)) [] s := by
  have hov : A.over (.compLoop (.GeneratorExp elt [⟨tg, iter, [], 0⟩] scope gpos) 0 (.ref it) .none Z.env) [] = Z.A := over_loopG.trans hA.symm
  intro m
  induction m using Nat.strongRecOn with
  | ind m ih =>
    intro n i s₀ s H hmn w I st hn
    have n1 : ∃ k, n = k + 1 := ⟨n - 1, by omega⟩
    obtain ⟨n', rfl⟩ := n1
    show Seg _ A _ _ _ s₀ _ ((compTurn (.GeneratorExp elt [⟨tg, iter, [], 0⟩] scope gpos) 0 (.ref it) .none Z.env).onRaise (leaving Z.env)) [] s
    rw [compTurn_gen, Sem.onRaise_eq_wrap]
    refine seg_bind_wrap (wpAny_standAt ?_)
    rcases hW i m H w with ⟨stop, qe⟩ | ⟨go, Nx, hNx, step⟩
    · have td := T.done Z rfl rfl rfl hcm i [] s σ0 H (fun _ _ => False) I (fp_ok hex hpn I hn) st stop
      refine seg_bind_wrap ?_
      rw [hov]
      refine wpAny_mono td (fun r s6 ⟨hr, I6⟩ => ?_) fun _ _ z => z.elim
      subst hr
      exact seg_end (.ok .next) ⟨rfl, H, I6, qe⟩
    · have ti := T.item Z rfl rfl rfl hcm i [] s σ0 H (fun _ _ => False) I (fp_ok hex hpn I hn) st go
      refine seg_bind_wrap ?_
      rw [hov]
      refine wpAny_mono ti (fun r s6 ⟨u, hr, h6⟩ => ?_) fun _ _ z => z.elim
      subst hr
      refine seg_bind_wrap ?_
      rw [hov]
      refine wpAny_mono h6 (fun _ s7 ⟨x, H7, I7, r7, y7, st7, n7⟩ => ?_) fun _ _ z => z.elim
      have I7' := I7.pinned (fp_ok hex hpn I7 n7) (T.obj _ _ st7)
      refine seg_bind_wrap ?_
      rw [hov]
      refine wpAny_mono (pg.run _ s7 _ H7 x u _ I7' r7 (step x H7 y7)) (fun _ s8 ⟨σ8, H8, I8, hw8, q8⟩ => ?_) fun _ _ z => by rw [hxe] at z; exact z.elim
      simp only [List.forIn_nil]
      refine seg_bind_wrap (wpAny_pure ?_)
      simp only [if_true]
      have hy : ∀ v, yieldOut Z.env v = yieldValue v := fun v => by simp only [yieldOut, hco, Bool.false_eq_true, if_false]
      simp only [hy]
      rw [Sem.bind_eq_wrap', Sem.bind_eq_wrap', Sem.wrap_wrap, Sem.wrap_wrap]
      refine seg_wrap ?_
      rw [hov]
      refine wpAny_mono (pe.run _ s8 σ8 H8 _ I8 q8) (fun z s9 ⟨yv, H9, I9, r9, c, hc, qh, qn⟩ => ?_) fun _ _ z => by rw [hxe] at z; exact z.elim
      subst hc
      obtain rfl : z = Value.bool c := r9
      have pin9 : ∀ b ∈ fp, ∀ o, s7.heap.get? b = some o → s9.heap.get? b = some o ∧ H9 b = none := fun b hb o e =>
        let zz := I9.pin (b, o) (List.mem_append_right _ (List.mem_append_right _ (mem_pinsAt hb e)))
        ⟨zz.1, zz.2.1⟩
      have I9' : Inv Z [] σ0 H9 s9 := (I9.unpinned (pins := [])).weak (hs0 _ hw8) fun j v e => by
        rw [← hw8] at e
        exact (wipe_some e).1
      refine seg_at (seg_yield rfl rfl rfl ⟨c, H9, rfl, I9', qh, fun hne s2 hh ho hb => ?_⟩)
      obtain ⟨m', hm, w'⟩ := hNx H9 (qn hne)
      refine seg_again rfl (ih m' hm n' (i + 1) s2 s2 H9 (by omega) w' (inv_state I9' hh ho hb) ?_ fun b hb => ?_)
      · exact T.keep _ _ _ st7 fun b hb o e => by rw [hh]; exact (pin9 b hb o e).1
      · obtain ⟨o, e, _⟩ := T.obj _ _ st7 b hb
        exact (pin9 b hb o e).2

theorem seg_start1 (hA : Z.A = A.deeper Z.env) (hcm : Z.calm = true) (hco : Z.env.scope.isCoroutine = false) (hex : Z.ex = fp) (hpn : ∀ p ∈ Z.pn, p.1 ∉ fp) (hxe : Z.xe = fun _ _ => False)
    (T : Turn Z.prog Z.w Z.K tg J fp it tn) (pg : PG Z tg g) (pe : PE Z elt te) (hW : Turns J g te vs σ0 b0 W Qe Qh) (hs0 : ∀ σ2, wipe σ2 vs = σ0 → σ0.length = σ2.length)
    (m n : Nat) (s₀ s : Shared) (H : Hp) (hmn : m < n) (w : W 0 m H) (I : Inv Z [] σ0 H s) (st : tn 0 s.heap) (hn : ∀ b ∈ fp, H b = none) :
      Seg (model Z.prog Z.w) A (fun n s₀ r s1 => r = .ok .next ∧ PEnd Z σ0 Qe n s₀ s1) (YOut Z σ0 b0 Qh) n s₀ (.compStart (.GeneratorExp elt [⟨tg, iter, [], 0⟩] scope gpos) 0 (.ref it) .none Z.env)
        ((model Z.prog Z.w).den (.compStart (.GeneratorExp elt [⟨tg, iter, [], 0⟩] scope gpos) 0 (.ref it) .none Z.env)) [] s := by
  have loop := seg_loop1 (iter := iter) (scope := scope) (gpos := gpos) hA hcm hco hex hpn hxe T pg pe hW hs0 m n 0 s₀ s H hmn w I st hn
  show Seg _ A _ _ _ s₀ _ ((compStart (.GeneratorExp elt [⟨tg, iter, [], 0⟩] scope gpos) 0 (.ref it) .none Z.env).onRaise (leaving Z.env)) [] s
  unfold compStart
  rw [Sem.onRaise_eq_wrap]
  show Seg _ A _ _ _ s₀ _ ((ask >>= _).wrap _ _ _ _) [] s
  refine seg_bind_wrap (wpAny_askSetting ?_)
  split
  · exact seg_again rfl loop
  · refine seg_bind_wrap (wpAny_rule ?_)
    show Seg _ A _ _ _ s₀ _ ((standAt iter.pos >>= _).wrap _ _ _ _) [] s
    exact seg_bind_wrap (wpAny_standAt (seg_bind_wrap (T.self _ 0 s _ _ st (seg_again rfl loop))))
end
end Gx
/-! ## GxD -/
set_option maxHeartbeats 4000000
namespace Gx
open PySem PySem.Spec PyProof.Rows L2

section
variable {P : Program} {w : World} {Z : Cx} {A : Around} {σ0 : L2.St} {b0 : Bool} {Qe Qh : Hp → Prop} {a : Addr} {g : Nat} {R : Result → Shared → Prop}
theorem isgen_inv {σ : L2.St} {H : Hp} {s : Shared} {go : Obj} (hp : (a, go) ∈ Z.pn) (hgo : ∃ nm qn, go.cls = .type "generator" ∧ go.data = .fields #[.int g 0, nm, qn] ∧ go.slots = #[]) (I : Inv Z [] σ H s) : s.heap.IsGen a g := by
  obtain ⟨nm, qn, r⟩ := hgo
  exact ⟨go, nm, qn, (I.pin (a, go) (List.mem_append_left _ hp)).1, r⟩

/-- any(..) or all(..) drains the generator: c = true: any, false: all -/
theorem drain_any {go : Obj} (hh : A.handled = none) (hd : A.depth < recursionLimit) (hp : (a, go) ∈ Z.pn) (hgo : ∃ nm qn, go.cls = .type "generator" ∧ go.data = .fields #[.int g 0, nm, qn] ∧ go.slots = #[])
    (hend : ∀ H' s', Inv Z [] σ0 H' s' → Qe H' → R (.ok (.ret (.bool false))) s') (hhit : ∀ H' s', Inv Z [] σ0 H' s' → Qh H' → R (.ok (.ret (.bool true))) s') :
    ∀ (n : Nat) (s : Shared) (H : Hp) (gs : GenState), Inv Z [] σ0 H s → s.gens[g]? = some gs →
      gs.Goes (model P w) A.in1.in1 (fun n s₀ r s1 => r = .ok .next ∧ PEnd Z σ0 Qe n s₀ s1) (YOut Z σ0 true Qh) n (.send .none) (s.setGen g .running) →
      codeAny (model P w) A (.builtin "any.loop" ⟨[.ref a], []⟩) R s := by
  intro n
  induction n with
  | zero =>
    intro s H gs I hgs hgo'
    refine codeAny_builtin F.entry_any_loop ?_
    rw [Around.under_plainId F.plain_any_loop _]
    show wpAny _ A.in1 (pyNext (.ref a) >>= _) _ _ s
    refine wpAny_bind (wpAny_pyNext_genexpQ (A := A.in1) hh I.nolimit hd (isgen_inv hp hgo I) hgs hgo' (fun v s1 gs' hbare hv => ?_) (fun s1 hp1 h' hk => ?_))
    · obtain ⟨c, H', rfl, I1, q1, q2⟩ := hv
      refine wpAny_bind (wpAny_holding (wpAny_truthy_bool ?_))
      refine wpAny_bind (wpAny_letGo ?_)
      by_cases hc : c = true
      · subst hc
        simp only [if_true]
        refine wpAny_bind (wpAny_rule (wpAny_pure ?_))
        exact hhit H' _ (inv_state I1 rfl rfl (allBare_setGen I1.bare hbare)) (q1 rfl)
      · exact (q2 hc s1 rfl rfl I1.bare).elim
    · obtain ⟨H', I1, qe⟩ := hp1
      refine wpAny_bind (wpAny_rule (wpAny_pure ?_))
      exact hend H' _ (inv_state (s := { s1 with heap := h' }) (I1.kept (t' := s1.toks) hk) rfl rfl (allBare_setGen I1.bare rfl)) qe
  | succ n ih =>
    intro s H gs I hgs hgo'
    have hgl : g < s.gens.size := (Array.getElem?_eq_some_iff.mp hgs).1
    refine codeAny_builtin F.entry_any_loop ?_
    rw [Around.under_plainId F.plain_any_loop _]
    show wpAny _ A.in1 (pyNext (.ref a) >>= _) _ _ s
    refine wpAny_bind (GenW.wpAny_gsz (n := g + 1) hgl (wpAny_pyNext_genexpQ (A := A.in1) hh I.nolimit hd (isgen_inv hp hgo I) hgs hgo' (fun v s1 gs' hbare hv => ?_) (fun s1 hp1 h' hk => ?_)))
    · intro hsz
      obtain ⟨c, H', rfl, I1, q1, q2⟩ := hv
      refine wpAny_bind (wpAny_holding (wpAny_truthy_bool ?_))
      refine wpAny_bind (wpAny_letGo ?_)
      have I2 : Inv Z [] σ0 H' (s1.setGen g gs') := inv_state I1 rfl rfl (allBare_setGen I1.bare hbare)
      by_cases hc : c = true
      · subst hc
        simp only [if_true]
        refine wpAny_bind (wpAny_rule (wpAny_pure ?_))
        exact hhit H' _ I2 (q1 rfl)
      · have hcf : c = false := by cases c <;> simp_all
        subst hcf
        simp only [Bool.false_eq_true, if_false]
        have hsz1 : g < s1.gens.size := by
          have q : (s1.setGen g gs').gens.size = s1.gens.size := GenW.setGen_size _ _ _
          have hsz' : g + 1 ≤ (s1.setGen g gs').gens.size := hsz
          omega
        refine wpAny_pure ⟨plainId_quiet F.plain_any_loop _, ih _ H' gs' I2 (setGen_at hsz1) ?_⟩
        exact q2 (by decide) _ rfl rfl (allBare_setGen (s := s1.setGen g gs') (allBare_setGen I1.bare hbare) rfl)
    · intro hsz
      obtain ⟨H', I1, qe⟩ := hp1
      refine wpAny_bind (wpAny_rule (wpAny_pure ?_))
      exact hend H' _ (inv_state (s := { s1 with heap := h' }) (I1.kept (t' := s1.toks) hk) rfl rfl (allBare_setGen I1.bare rfl)) qe
theorem drain_all {go : Obj} (hh : A.handled = none) (hd : A.depth < recursionLimit) (hp : (a, go) ∈ Z.pn) (hgo : ∃ nm qn, go.cls = .type "generator" ∧ go.data = .fields #[.int g 0, nm, qn] ∧ go.slots = #[])
    (hend : ∀ H' s', Inv Z [] σ0 H' s' → Qe H' → R (.ok (.ret (.bool true))) s') (hhit : ∀ H' s', Inv Z [] σ0 H' s' → Qh H' → R (.ok (.ret (.bool false))) s') :
    ∀ (n : Nat) (s : Shared) (H : Hp) (gs : GenState), Inv Z [] σ0 H s → s.gens[g]? = some gs →
      gs.Goes (model P w) A.in1.in1 (fun n s₀ r s1 => r = .ok .next ∧ PEnd Z σ0 Qe n s₀ s1) (YOut Z σ0 false Qh) n (.send .none) (s.setGen g .running) →
      codeAny (model P w) A (.builtin "all.loop" ⟨[.ref a], []⟩) R s := by
  intro n
  induction n with
  | zero =>
    intro s H gs I hgs hgo'
    refine codeAny_builtin F.entry_all_loop ?_
    rw [Around.under_plainId F.plain_all_loop _]
    show wpAny _ A.in1 (pyNext (.ref a) >>= _) _ _ s
    refine wpAny_bind (wpAny_pyNext_genexpQ (A := A.in1) hh I.nolimit hd (isgen_inv hp hgo I) hgs hgo' (fun v s1 gs' hbare hv => ?_) (fun s1 hp1 h' hk => ?_))
    · obtain ⟨c, H', rfl, I1, q1, q2⟩ := hv
      refine wpAny_bind (wpAny_holding (wpAny_truthy_bool ?_))
      refine wpAny_bind (wpAny_letGo ?_)
      by_cases hc : c = false
      · subst hc
        simp only [Bool.false_eq_true, if_false]
        refine wpAny_bind (wpAny_rule (wpAny_pure ?_))
        exact hhit H' _ (inv_state I1 rfl rfl (allBare_setGen I1.bare hbare)) (q1 rfl)
      · exact (q2 hc s1 rfl rfl I1.bare).elim
    · obtain ⟨H', I1, qe⟩ := hp1
      refine wpAny_bind (wpAny_rule (wpAny_pure ?_))
      exact hend H' _ (inv_state (s := { s1 with heap := h' }) (I1.kept (t' := s1.toks) hk) rfl rfl (allBare_setGen I1.bare rfl)) qe
  | succ n ih =>
    intro s H gs I hgs hgo'
    have hgl : g < s.gens.size := (Array.getElem?_eq_some_iff.mp hgs).1
    refine codeAny_builtin F.entry_all_loop ?_
    rw [Around.under_plainId F.plain_all_loop _]
    show wpAny _ A.in1 (pyNext (.ref a) >>= _) _ _ s
    refine wpAny_bind (GenW.wpAny_gsz (n := g + 1) hgl (wpAny_pyNext_genexpQ (A := A.in1) hh I.nolimit hd (isgen_inv hp hgo I) hgs hgo' (fun v s1 gs' hbare hv => ?_) (fun s1 hp1 h' hk => ?_)))
    · intro hsz
      obtain ⟨c, H', rfl, I1, q1, q2⟩ := hv
      refine wpAny_bind (wpAny_holding (wpAny_truthy_bool ?_))
      refine wpAny_bind (wpAny_letGo ?_)
      have I2 : Inv Z [] σ0 H' (s1.setGen g gs') := inv_state I1 rfl rfl (allBare_setGen I1.bare hbare)
      by_cases hc : c = false
      · subst hc
        simp only [Bool.false_eq_true, if_false]
        refine wpAny_bind (wpAny_rule (wpAny_pure ?_))
        exact hhit H' _ I2 (q1 rfl)
      · have hcf : c = true := by cases c <;> simp_all
        subst hcf
        simp only [if_true]
        have hsz1 : g < s1.gens.size := by
          have q : (s1.setGen g gs').gens.size = s1.gens.size := GenW.setGen_size _ _ _
          have hsz' : g + 1 ≤ (s1.setGen g gs').gens.size := hsz
          omega
        refine wpAny_pure ⟨plainId_quiet F.plain_all_loop _, ih _ H' gs' I2 (setGen_at hsz1) ?_⟩
        exact q2 (by decide) _ rfl rfl (allBare_setGen (s := s1.setGen g gs') (allBare_setGen I1.bare hbare) rfl)
    · intro hsz
      obtain ⟨H', I1, qe⟩ := hp1
      refine wpAny_bind (wpAny_rule (wpAny_pure ?_))
      exact hend H' _ (inv_state (s := { s1 with heap := h' }) (I1.kept (t' := s1.toks) hk) rfl rfl (allBare_setGen I1.bare rfl)) qe
end
end Gx
/-! ## GxE -/
set_option maxHeartbeats 4000000
namespace Gx
open PySem PySem.Spec PyProof.Rows L2

/-- the slots of its own names -/
abbrev ixs (own : List (Str × Nat)) : List Nat := own.map (·.2)
def tGen (b0 : Bool) (T : TbL) (wi : TI) (g : TG) (te : TE) (vs : List Nat) : TE := fun σ H Q => wi σ H fun J H1 => LamX.Tabs T H1 ∧ ∀ H2, Ex T H1 H2 →
  ∃ W : Nat → Nat → Hp → Prop, (∃ m, W 0 m H2) ∧ Turns J g te vs (wipe σ vs) b0 W (fun H' => Q (.bl (!b0)) H') (fun H' => Q (.bl b0) H')

section
variable {X : Cx} {pins : List (Addr × Obj)} {σ σ0 : L2.St} {H1 : Hp} {tg iter elt : Expr} {J : It} {e : Expr} {scope : Scope} {it : Addr} {fp : List Addr} {tn : Nat → Heap → Prop} {a : Addr} {g : Nat} {s0 s1 : Shared} {code : Value} {go : Obj}
abbrev zcx (X : Cx) (s0 : Shared) (H1 : Hp) (scope : Scope) (code : Value) (fp : List Addr) (a : Addr) (go : Obj) : Cx :=
  gcx X s0 H1 (gEnv X scope s0.heap.objs.size code) fp [(a, go)] (X.A.in1.in1.deeper (gEnv X scope s0.heap.objs.size code))
theorem Made.back (M : Made X pins σ σ0 H1 tg J e scope it fp tn a g s0 s1 code go) {σ' : L2.St} {H' : Hp} {s' : Shared} (I : Inv (zcx X s0 H1 scope code fp a go) [] σ' H' s') : Inv X pins σ H' s' :=
  M.inv0.call' (ch := fp) I.os I.base I.hok I.bare fun b hb => ⟨(M.fpo b hb).2.2.2.1, (M.fpo b hb).2.1, (M.fpo b hb).2.2.2.2.1, (M.fpo b hb).2.2.2.2.2⟩
theorem Made.pnok (M : Made X pins σ σ0 H1 tg J e scope it fp tn a g s0 s1 code go) : ∀ p ∈ (zcx X s0 H1 scope code fp a go).pn, p.1 ∉ fp := fun p hp => by
  have hp : p = (a, go) := by simpa using hp
  rw [hp]
  exact M.afp
theorem Made.obj (M : Made X pins σ σ0 H1 tg J e scope it fp tn a g s0 s1 code go) : ∃ nm qn, go.cls = .type "generator" ∧ go.data = .fields #[.int g 0, nm, qn] ∧ go.slots = #[] := by
  obtain ⟨o, nm, qn, ho, r⟩ := M.gen
  have z := (M.inv.pin (a, go) (by simp)).1
  have z' : s1.heap.get? a = some go := z
  rw [ho] at z'
  cases z'
  exact ⟨nm, qn, r⟩
end
theorem wipe_len {σ2 σ : L2.St} {vs us : List Nat} (h : wipe σ2 vs = wipe σ us) : (wipe σ us).length = σ2.length := by rw [← h, wipe_length]

section
variable {X : Cx} {T : TbL} {c P : Addr} {elt tg iter : Expr} {scope : Scope} {own : List (Str × Nat)} {gpos p pos : Pos} {wi : TI} {g : TG} {te : TE} {k : Nat}
theorem pe_any1 (hr : Room (k + 3) X.A) (hgl : Gl X "any") (hm : X.mg "any" = none) (hc : X.calm = true) (hN : X.N.Nodup) (TB : LamX.TabB X.base X.mg c P) (hcode : X.env.code = .ref c) (hmT : (P, X.env.qual ++ "<genexpr>") ∈ T) (hu : ∀ r ∈ T, r.1 = P → r.2 = X.env.qual ++ "<genexpr>") (ok : GSc X.N X.env.scope scope own) (hi : PI X tg iter wi)
    (hg : ∀ (s : Shared) (H : Hp) (code : Value) (fp : List Addr) (a : Addr) (go : Obj), PG (zcx X s H scope code fp a go) tg g)
    (he : ∀ (s : Shared) (H : Hp) (code : Value) (fp : List Addr) (a : Addr) (go : Obj), Room k (zcx X s H scope code fp a go).A → PE (zcx X s H scope code fp a go) elt te)
    (hs : ∀ v, genFold iter X.env v = pure v := by intro _; rfl)
    (hst : starEach [.GeneratorExp elt [⟨tg, iter, [], 0⟩] scope gpos] X.env = (false, eval (.GeneratorExp elt [⟨tg, iter, [], 0⟩] scope gpos) X.env) :: starEach [] X.env := by rfl) :
    PE X (.Call (.Name "any" p) [.GeneratorExp elt [⟨tg, iter, [], 0⟩] scope gpos] [] pos) (tGen true T wi g te (ixs own)) := by
  refine ⟨fun pins s σ H Q I h => ?_⟩
  refine wpAny_Call_Name_kw (ld_blt I hgl hm boot_any ?_)
  refine PyProof.Rows.callWith_builtin1 ?_ hst (by rfl)
  rw [hst]
  show wpAny _ _ (spliced ((false, eval (.GeneratorExp elt [⟨tg, iter, [], 0⟩] scope gpos) X.env) :: backTo pos (starEach [] X.env))) _ _ s
  refine Calls.spliced_cons (gen_made (R := fun J H1 => ∀ H2, Ex T H1 H2 → ∃ W : Nat → Nat → Hp → Prop, (∃ m, W 0 m H2) ∧ Turns J g te (ixs own) (wipe σ (ixs own)) true W (fun H' => Q (.bl false) H') (fun H' => Q (.bl true) H'))
    hr hc hN TB hcode ok hi hs I hmT hu h fun J H0 H1 it fp tn a gn s0 s1 code go hR hE M => ?_)
  obtain ⟨W, ⟨m0, w0⟩, turn⟩ := hR H1 hE
  refine Calls.spliced_nil ?_
  refine call_function_tree F.kind_any F.plain_any F.entry_any (F.args_any1 _) ?_
  unfold Builtin.«any»
  refine wpAny_bind (m := oneArg "any" _) (wpAny_pure ?_)
  refine wpAny_bind (wpAny_pyIter_gen M.gen ?_)
  refine wpAny_pure ⟨plainId_quiet F.plain_any_loop _, ?_⟩
  refine drain_any (Z := zcx X s0 H1 scope code fp a go) (Qe := fun H' => Q (.bl false) H') (Qh := fun H' => Q (.bl true) H') (go := go) hr.hd (by have := hr.dp; omega) (by simp) M.obj
    (fun H' s' I' q => ⟨.bl false, H', M.back I', rfl, q⟩) (fun H' s' I' q => ⟨.bl true, H', M.back I', rfl, q⟩) (m0 + 1) s1 H1 _ M.inv M.gens ⟨rfl, ?_⟩
  have I2 := inv_state (s' := s1.setGen gn .running) M.inv rfl rfl (allBare_setGen M.inv.bare rfl)
  exact seg_start1 (Z := zcx X s0 H1 scope code fp a go) (A := X.A.in1.in1) rfl hc ok.co rfl M.pnok rfl M.turn (hg _ _ _ _ _ _) (he _ _ _ _ _ _ (hr.in1.in1.deeper _)) turn (fun σ2 h2 => wipe_len h2) m0 (m0 + 1) _ _ H1 (Nat.lt_succ_self _) w0 I2 M.at0 fun b hb => (M.fpo b hb).1
theorem pe_all1 (hr : Room (k + 3) X.A) (hgl : Gl X "all") (hm : X.mg "all" = none) (hc : X.calm = true) (hN : X.N.Nodup) (TB : LamX.TabB X.base X.mg c P) (hcode : X.env.code = .ref c) (hmT : (P, X.env.qual ++ "<genexpr>") ∈ T) (hu : ∀ r ∈ T, r.1 = P → r.2 = X.env.qual ++ "<genexpr>") (ok : GSc X.N X.env.scope scope own) (hi : PI X tg iter wi)
    (hg : ∀ (s : Shared) (H : Hp) (code : Value) (fp : List Addr) (a : Addr) (go : Obj), PG (zcx X s H scope code fp a go) tg g)
    (he : ∀ (s : Shared) (H : Hp) (code : Value) (fp : List Addr) (a : Addr) (go : Obj), Room k (zcx X s H scope code fp a go).A → PE (zcx X s H scope code fp a go) elt te)
    (hs : ∀ v, genFold iter X.env v = pure v := by intro _; rfl)
    (hst : starEach [.GeneratorExp elt [⟨tg, iter, [], 0⟩] scope gpos] X.env = (false, eval (.GeneratorExp elt [⟨tg, iter, [], 0⟩] scope gpos) X.env) :: starEach [] X.env := by rfl) (hb : bootBuiltins "all" = some (.builtin "all") := by decide +kernel) :
    PE X (.Call (.Name "all" p) [.GeneratorExp elt [⟨tg, iter, [], 0⟩] scope gpos] [] pos) (tGen false T wi g te (ixs own)) := by
  refine ⟨fun pins s σ H Q I h => ?_⟩
  refine wpAny_Call_Name_kw (ld_blt I hgl hm hb ?_)
  refine PyProof.Rows.callWith_builtin1 ?_ hst (by rfl)
  rw [hst]
  show wpAny _ _ (spliced ((false, eval (.GeneratorExp elt [⟨tg, iter, [], 0⟩] scope gpos) X.env) :: backTo pos (starEach [] X.env))) _ _ s
  refine Calls.spliced_cons (gen_made (R := fun J H1 => ∀ H2, Ex T H1 H2 → ∃ W : Nat → Nat → Hp → Prop, (∃ m, W 0 m H2) ∧ Turns J g te (ixs own) (wipe σ (ixs own)) false W (fun H' => Q (.bl true) H') (fun H' => Q (.bl false) H'))
    hr hc hN TB hcode ok hi hs I hmT hu h fun J H0 H1 it fp tn a gn s0 s1 code go hR hE M => ?_)
  obtain ⟨W, ⟨m0, w0⟩, turn⟩ := hR H1 hE
  refine Calls.spliced_nil ?_
  refine call_function_tree F.kind_all F.plain_all F.entry_all (F.args_all1 _) ?_
  unfold Builtin.«all»
  refine wpAny_bind (m := oneArg "all" _) (wpAny_pure ?_)
  refine wpAny_bind (wpAny_pyIter_gen M.gen ?_)
  refine wpAny_pure ⟨plainId_quiet F.plain_all_loop _, ?_⟩
  refine drain_all (Z := zcx X s0 H1 scope code fp a go) (Qe := fun H' => Q (.bl true) H') (Qh := fun H' => Q (.bl false) H') (go := go) hr.hd (by have := hr.dp; omega) (by simp) M.obj
    (fun H' s' I' q => ⟨.bl true, H', M.back I', rfl, q⟩) (fun H' s' I' q => ⟨.bl false, H', M.back I', rfl, q⟩) (m0 + 1) s1 H1 _ M.inv M.gens ⟨rfl, ?_⟩
  have I2 := inv_state (s' := s1.setGen gn .running) M.inv rfl rfl (allBare_setGen M.inv.bare rfl)
  exact seg_start1 (Z := zcx X s0 H1 scope code fp a go) (A := X.A.in1.in1) rfl hc ok.co rfl M.pnok rfl M.turn (hg _ _ _ _ _ _) (he _ _ _ _ _ _ (hr.in1.in1.deeper _)) turn (fun σ2 h2 => wipe_len h2) m0 (m0 + 1) _ _ H1 (Nat.lt_succ_self _) w0 I2 M.at0 fun b hb => (M.fpo b hb).1
end
end Gx
/-! ## GxF -/
set_option maxHeartbeats 4000000
namespace Gx
open PySem PySem.Spec PyProof.Rows L2

section
variable {elt t1 i1 t2 i2 : Expr} {scope : Scope} {pos : Pos} {it acc : Value} {env : Env}
theorem turn_two0 : compTurn (.GeneratorExp elt [⟨t1, i1, [], 0⟩, ⟨t2, i2, [], 0⟩] scope pos) 0 it acc env = (standAt i1.pos >>= fun _ => pyNext it >>= fun r => match r with
    | none => pure (.done .next)
    | some v => letOwnedTupleGo t1 it v >>= fun _ => assign t1 env v >>= fun _ => eval i2 env >>= fun x0 => standAt i2.pos >>= fun _ => foldedSetIterable i2 env x0 >>= fun x => holding [x] (pyIter x) >>= fun it2 =>
      runOwn (.compStart (.GeneratorExp elt [⟨t1, i1, [], 0⟩, ⟨t2, i2, [], 0⟩] scope pos) 1 it2 acc env) env >>= fun _ => again (.compLoop (.GeneratorExp elt [⟨t1, i1, [], 0⟩, ⟨t2, i2, [], 0⟩] scope pos) 0 it acc env)) := by rfl
theorem turn_two1 : compTurn (.GeneratorExp elt [⟨t1, i1, [], 0⟩, ⟨t2, i2, [], 0⟩] scope pos) 1 it acc env = (standAt i2.pos >>= fun _ => pyNext it >>= fun r => match r with
    | none => pure (.done .next)
    | some v => letOwnedTupleGo t2 it v >>= fun _ => assign t2 env v >>= fun _ => (do let y ← eval elt env; standAt elt.pos; let _ ← yieldOut env y) >>= fun _ =>
      again (.compLoop (.GeneratorExp elt [⟨t1, i1, [], 0⟩, ⟨t2, i2, [], 0⟩] scope pos) 1 it acc env)) := by rfl
end

theorem wipe_get {σ : L2.St} {j : Nat} : ∀ {vs : List Nat}, j ∉ vs → (wipe σ vs)[j]? = σ[j]?
  | [], _ => rfl
  | v :: vs, h => by
    have h1 : j ≠ v := fun e => h (by rw [e]; exact List.mem_cons_self)
    have h2 : j ∉ vs := fun e => h (List.mem_cons_of_mem _ e)
    unfold wipe
    rw [List.getElem?_set_ne (Ne.symm h1)]
    exact wipe_get h2

/-- two clauses: the outer's turns; within each the inner walk, of at most B + 1 turns -/
def Turns2 (J : It) (g : TG) (wi2 : TI) (g2 : TG) (te : TE) (vs vs2 : List Nat) (σ0 : L2.St) (b0 : Bool) (B : Nat) (W : Nat → Nat → Hp → Prop) (Qe Qh : Hp → Prop) : Prop := ∀ i m H, W i m H →
  (J.stop i H ∧ Qe H) ∨ (J.go i H ∧ ∃ Nx : Hp → Prop, (∀ H', Nx H' → ∃ m', m' < m ∧ W (i + 1) m' H') ∧ ∀ x H', J.yld i H x H' → g x σ0 H' fun σ2 H2 => wipe σ2 vs = σ0 ∧
    wi2 σ2 H2 fun J2 H3 => ∃ W2 : Nat → Nat → Hp → Prop, (∃ k, k ≤ B ∧ W2 0 k H3) ∧ Turns J2 g2 te vs2 (wipe σ2 vs2) b0 W2 Nx Qh)

section
variable {Z : Cx} {A : Around} {t1 i1 t2 i2 elt : Expr} {scope : Scope} {gpos : Pos} {it it2 : Addr} {fp fp2 : List Addr} {tn tn2 : Nat → Heap → Prop} {J J2 : It} {g g2 : TG} {wi2 : TI} {te : TE} {vs vs2 : List Nat} {σ0 σ1 : L2.St} {b0 : Bool} {B : Nat} {W W2 : Nat → Nat → Hp → Prop} {Qe Qh Nx : Hp → Prop}

/-- the inner loop, behind the frame F0 of the outer turn -/
theorem seg_inner {kk : Result → Sem PySem.Fin} {ll : List Value} {p0 : Pos} {pO : List (Addr × Obj)} {R : GenEnd} {base : Nat}
    (hA : Z.A = A.deeper Z.env) (hcm : Z.calm = true) (hco : Z.env.scope.isCoroutine = false) (hxe : Z.xe = fun _ _ => False) (T : Turn Z.prog Z.w Z.K t2 J2 fp2 it2 tn2) (pg : PG Z t2 g2) (pe : PE Z elt te)
    (hfp : ∀ b ∈ fp2, b ≠ Z.env.locals ∧ b ∉ Z.fs ∧ (b ∈ Z.ex ∨ Z.s_0.heap.objs.size ≤ b) ∧ (∀ x c, Z.env.cells.lookup x = some c → c ≠ b) ∧ ∀ p ∈ Z.pn ++ pO, p.1 ≠ b)
    (hW : Turns J2 g2 te vs2 σ1 b0 W2 Nx Qh) (hl1 : ∀ σ2, wipe σ2 vs2 = σ1 → σ1.length = σ2.length) (h01 : ∀ (j : Nat) (v : V), σ0[j]? = some (some v) → σ1[j]? = some (some v)) (hl0 : σ0.length = σ1.length)
    (cont : ∀ (n : Nat) (s₀ s : Shared) (H : Hp), base < n → Inv Z pO σ1 H s → Nx H → Seg (model Z.prog Z.w) A R (YOut Z σ0 b0 Qh) n s₀ (.compLoop (.GeneratorExp elt [⟨t1, i1, [], 0⟩, ⟨t2, i2, [], 0⟩] scope gpos) 0 (.ref it) .none Z.env) (kk (.ok .next)) [] s) :
    ∀ (k n j : Nat) (s₀ s : Shared) (H : Hp), base + k < n → W2 j k H → Inv Z pO σ1 H s → tn2 j s.heap → (∀ b ∈ fp2, H b = none) →
      Seg (model Z.prog Z.w) A R (YOut Z σ0 b0 Qh) n s₀ (.compLoop (.GeneratorExp elt [⟨t1, i1, [], 0⟩, ⟨t2, i2, [], 0⟩] scope gpos) 1 (.ref it2) .none Z.env)
        ((model Z.prog Z.w).den (.compLoop (.GeneratorExp elt [⟨t1, i1, [], 0⟩, ⟨t2, i2, [], 0⟩] scope gpos) 1 (.ref it2) .none Z.env))
        [.ret kk none false ll (.compLoop (.GeneratorExp elt [⟨t1, i1, [], 0⟩, ⟨t2, i2, [], 0⟩] scope gpos) 0 (.ref it) .none Z.env) p0 []] s := by
  have hov : A.over (.compLoop (.GeneratorExp elt [⟨t1, i1, [], 0⟩, ⟨t2, i2, [], 0⟩] scope gpos) 1 (.ref it2) .none Z.env)
        [.ret kk none false ll (.compLoop (.GeneratorExp elt [⟨t1, i1, [], 0⟩, ⟨t2, i2, [], 0⟩] scope gpos) 0 (.ref it) .none Z.env) p0 []] = Z.A :=
    (GenW.over_loop rfl rfl).trans (over_loopG.trans hA.symm)
  have fpk : ∀ {H : Hp}, (∀ b ∈ fp2, H b = none) → ∀ b ∈ fp2, FpOk Z pO H b := fun {H} hn b hb => ⟨hn b hb, hfp b hb⟩
  intro k
  induction k using Nat.strongRecOn with
  | ind k ih =>
    intro n j s₀ s H hmn w I st hn
    have n1 : ∃ q, n = q + 1 := ⟨n - 1, by omega⟩
    obtain ⟨n', rfl⟩ := n1
    show Seg _ A _ _ _ s₀ _ ((compTurn (.GeneratorExp elt [⟨t1, i1, [], 0⟩, ⟨t2, i2, [], 0⟩] scope gpos) 1 (.ref it2) .none Z.env).onRaise (fun x => do noteFrame x Z.env; theTreesLotGoes x)) _ s
    rw [turn_two1, Sem.onRaise_eq_wrap]
    refine seg_bind_wrap (wpAny_standAt ?_)
    rcases hW j k H w with ⟨stop, qe⟩ | ⟨go, Nx2, hNx, step⟩
    · have td := T.done Z rfl rfl rfl hcm j pO s σ1 H (fun _ _ => False) I (fpk hn) st stop
      refine seg_bind_wrap ?_
      rw [hov]
      refine wpAny_mono td (fun r s6 ⟨hr, I6⟩ => ?_) fun _ _ z => z.elim
      subst hr
      exact seg_leaf (.ok .next) (cont (n' + 1) s₀ s6 H (by omega) I6 qe)
    · have ti := T.item Z rfl rfl rfl hcm j pO s σ1 H (fun _ _ => False) I (fpk hn) st go
      refine seg_bind_wrap ?_
      rw [hov]
      refine wpAny_mono ti (fun r s6 ⟨u, hr, h6⟩ => ?_) fun _ _ z => z.elim
      subst hr
      refine seg_bind_wrap ?_
      rw [hov]
      refine wpAny_mono h6 (fun _ s7 ⟨x, H7, I7, r7, y7, st7, n7⟩ => ?_) fun _ _ z => z.elim
      have I7' := I7.pinned (fpk n7) (T.obj _ _ st7)
      refine seg_bind_wrap ?_
      rw [hov]
      refine wpAny_mono (pg.run _ s7 _ H7 x u _ I7' r7 (step x H7 y7)) (fun _ s8 ⟨σ8, H8, I8, hw8, q8⟩ => ?_) fun _ _ z => by rw [hxe] at z; exact z.elim
      have hy : ∀ v, yieldOut Z.env v = yieldValue v := fun v => by simp only [yieldOut, hco, Bool.false_eq_true, if_false]
      simp only [hy]
      rw [Sem.bind_eq_wrap', Sem.bind_eq_wrap', Sem.wrap_wrap, Sem.wrap_wrap]
      refine seg_wrap ?_
      rw [hov]
      refine wpAny_mono (pe.run _ s8 σ8 H8 _ I8 q8) (fun z s9 ⟨yv, H9, I9, r9, c, hc, qh, qn⟩ => ?_) fun _ _ z => by rw [hxe] at z; exact z.elim
      subst hc
      obtain rfl : z = Value.bool c := r9
      have pin9 : ∀ b ∈ fp2, ∀ o, s7.heap.get? b = some o → s9.heap.get? b = some o ∧ H9 b = none := fun b hb o e =>
        let zz := I9.pin (b, o) (List.mem_append_right _ (List.mem_append_right _ (mem_pinsAt hb e)))
        ⟨zz.1, zz.2.1⟩
      have I9' : Inv Z pO σ1 H9 s9 := (I9.unpinned (pins := pO)).weak (hl1 _ hw8) fun j v e => by
        rw [← hw8] at e
        exact (wipe_some e).1
      have I9'' : Inv Z [] σ0 H9 s9 := (Inv.unpinned (pins := []) (pl := pO) (by simpa using I9')).weak hl0 h01
      refine seg_at (seg_yield rfl rfl rfl ⟨c, H9, rfl, I9'', qh, fun hne s2 hh ho hb => ?_⟩)
      obtain ⟨k', hk, w'⟩ := hNx H9 (qn hne)
      refine seg_again rfl (ih k' hk n' (j + 1) s2 s2 H9 (by omega) w' (inv_state I9' hh ho hb) ?_ fun b hb => ?_)
      · exact T.keep _ _ _ st7 fun b hb o e => by rw [hh]; exact (pin9 b hb o e).1
      · obtain ⟨o, e, _⟩ := T.obj _ _ st7 b hb
        exact (pin9 b hb o e).2
end
end Gx
/-! ## GxG -/
set_option maxHeartbeats 4000000
namespace Gx
open PySem PySem.Spec PyProof.Rows L2

section
variable {Z : Cx} {A : Around} {t1 i1 t2 i2 elt : Expr} {scope : Scope} {gpos : Pos} {it it2 : Addr} {fp fp2 : List Addr} {tn tn2 : Nat → Heap → Prop} {J J2 : It} {g g2 : TG} {wi2 : TI} {te : TE} {vs vs2 : List Nat} {σ0 σ1 : L2.St} {b0 : Bool} {B : Nat} {W W2 : Nat → Nat → Hp → Prop} {Qe Qh Nx : Hp → Prop}

theorem seg_loop2 (hA : Z.A = A.deeper Z.env) (hcm : Z.calm = true) (hco : Z.env.scope.isCoroutine = false) (hex : Z.ex = fp) (hpn : ∀ p ∈ Z.pn, p.1 ∉ fp) (hxe : Z.xe = fun _ _ => False)
    (T : Turn Z.prog Z.w Z.K t1 J fp it tn) (pg : PG Z t1 g) (pi2 : PI Z t2 i2 wi2) (pg2 : PG Z t2 g2) (pe : PE Z elt te) (hs2 : ∀ x, foldedSetIterable i2 Z.env x = pure x)
    (hW : Turns2 J g wi2 g2 te vs vs2 σ0 b0 B W Qe Qh) (hs0 : ∀ σ2, wipe σ2 vs = σ0 → σ0.length = σ2.length) (hsub : ∀ v ∈ vs2, v ∈ vs) :
    ∀ (m n i : Nat) (s₀ s : Shared) (H : Hp), m * (B + 1) + B < n → W i m H → Inv Z [] σ0 H s → tn i s.heap → (∀ b ∈ fp, H b = none) →
      Seg (model Z.prog Z.w) A (fun n s₀ r s1 => r = .ok .next ∧ PEnd Z σ0 Qe n s₀ s1) (YOut Z σ0 b0 Qh) n s₀ (.compLoop (.GeneratorExp elt [⟨t1, i1, [], 0⟩, ⟨t2, i2, [], 0⟩] scope gpos) 0 (.ref it) .none Z.env)
        ((model Z.prog Z.w).den (.compLoop (.GeneratorExp elt [⟨t1, i1, [], 0⟩, ⟨t2, i2, [], 0⟩] scope gpos) 0 (.ref it) .none Z.env)) [] s := by
  have hov : A.over (.compLoop (.GeneratorExp elt [⟨t1, i1, [], 0⟩, ⟨t2, i2, [], 0⟩] scope gpos) 0 (.ref it) .none Z.env) [] = Z.A := over_loopG.trans hA.symm
  intro m
  induction m using Nat.strongRecOn with
  | ind m ih =>
    intro n i s₀ s H hmn w I st hn
    show Seg _ A _ _ _ s₀ _ ((compTurn (.GeneratorExp elt [⟨t1, i1, [], 0⟩, ⟨t2, i2, [], 0⟩] scope gpos) 0 (.ref it) .none Z.env).onRaise (leaving Z.env)) [] s
    rw [turn_two0, Sem.onRaise_eq_wrap]
    refine seg_bind_wrap (wpAny_standAt ?_)
    rcases hW i m H w with ⟨stop, qe⟩ | ⟨go, Nx, hNx, step⟩
    · have td := T.done Z rfl rfl rfl hcm i [] s σ0 H (fun _ _ => False) I (fp_ok hex hpn I hn) st stop
      refine seg_bind_wrap ?_
      rw [hov]
      refine wpAny_mono td (fun r s6 ⟨hr, I6⟩ => ?_) fun _ _ z => z.elim
      subst hr
      exact seg_end (.ok .next) ⟨rfl, H, I6, qe⟩
    · have ti := T.item Z rfl rfl rfl hcm i [] s σ0 H (fun _ _ => False) I (fp_ok hex hpn I hn) st go
      refine seg_bind_wrap ?_
      rw [hov]
      refine wpAny_mono ti (fun r s6 ⟨u, hr, h6⟩ => ?_) fun _ _ z => z.elim
      subst hr
      refine seg_bind_wrap ?_
      rw [hov]
      refine wpAny_mono h6 (fun _ s7 ⟨x, H7, I7, r7, y7, st7, n7⟩ => ?_) fun _ _ z => z.elim
      have I7' := I7.pinned (fp_ok hex hpn I7 n7) (T.obj _ _ st7)
      refine seg_bind_wrap ?_
      rw [hov]
      refine wpAny_mono (pg.run _ s7 _ H7 x u _ I7' r7 (step x H7 y7)) (fun _ s8 ⟨σ8, H8, I8, hw8, q8⟩ => ?_) fun _ _ z => by rw [hxe] at z; exact z.elim
      refine seg_bind_wrap ?_
      rw [hov]
      refine wpAny_mono (pi2.run _ s8 σ8 H8 _ I8 q8) (fun xv s9 h9 => ?_) fun _ _ z => by rw [hxe] at z; exact z.elim
      refine seg_bind_wrap (wpAny_standAt ?_)
      refine seg_bind_wrap (wpAny_of_eq (hs2 xv) ?_)
      refine seg_bind_wrap ?_
      rw [hov]
      refine wpAny_holding (wpAny_mono h9 (fun itv s10 h10 => ?_) fun _ _ z => by rw [hxe] at z; exact z.elim)
      obtain ⟨it2, fp2, tn2, J2, H10, e10, I10, T2, st10, f10, W2, ⟨k0, hk0, w20⟩, hW2⟩ := h10
      subst e10
      have hle1 : ∀ σ2, wipe σ2 vs2 = wipe σ8 vs2 → (wipe σ8 vs2).length = σ2.length := fun σ2 h => by rw [← h, wipe_length]
      have h01 : ∀ (j : Nat) (v : V), σ0[j]? = some (some v) → (wipe σ8 vs2)[j]? = some (some v) := fun j v e => by
        rw [← hw8] at e
        obtain ⟨e1, e2⟩ := wipe_some e
        rw [wipe_get fun hm => e2 (hsub j hm)]
        exact e1
      have hl0 : σ0.length = (wipe σ8 vs2).length := by rw [wipe_length]; exact hs0 _ hw8
      have I10' : Inv Z ([] ++ pinsAt fp s7.heap) (wipe σ8 vs2) H10 s10 := I10.weak (wipe_length _ _) fun j v e => (wipe_some e).1
      have inner := fun (kk : Result → Sem PySem.Fin) (ll : List Value) (p0 : Pos) => seg_inner (kk := kk) (ll := ll) (p0 := p0) (Z := Z) (A := A) (t1 := t1) (i1 := i1) (t2 := t2) (i2 := i2) (elt := elt) (scope := scope) (gpos := gpos) (it := it) (it2 := it2) (fp2 := fp2) (tn2 := tn2) (J2 := J2) (g2 := g2) (te := te) (vs2 := vs2) (σ0 := σ0) (σ1 := wipe σ8 vs2) (b0 := b0) (W2 := W2) (Qh := Qh) (Nx := Nx)
        (pO := [] ++ pinsAt fp s7.heap) (R := fun n s₀ r s1 => r = .ok .next ∧ PEnd Z σ0 Qe n s₀ s1) (base := m * (B + 1)) hA hcm hco hxe T2 pg2 pe (fun b hb => (f10 b hb).2) hW2 hle1 h01 hl0
      rw [Sem.bind_eq_wrap', Sem.wrap_wrap]
      refine seg_call fun p => ?_
      have hov1 : ∀ {kk : Result → Sem PySem.Fin} {gg : Bool} {ll kp : List Value}, A.over (.compStart (.GeneratorExp elt [⟨t1, i1, [], 0⟩, ⟨t2, i2, [], 0⟩] scope gpos) 1 (.ref it2) .none Z.env)
          [.ret kk none gg ll (.compLoop (.GeneratorExp elt [⟨t1, i1, [], 0⟩, ⟨t2, i2, [], 0⟩] scope gpos) 0 (.ref it) .none Z.env) p kp] = Z.A := (GenW.over_loop rfl rfl).trans hov
      have fin : ∀ s', s'.heap = s10.heap → s'.os = s10.os → AllBare s'.gens → Inv Z ([] ++ pinsAt fp s7.heap) (wipe σ8 vs2) H10 s' := fun s' h1 h2 h3 => inv_state I10' h1 h2 h3
      show Seg _ A _ _ _ s₀ _ ((compStart (.GeneratorExp elt [⟨t1, i1, [], 0⟩, ⟨t2, i2, [], 0⟩] scope gpos) 1 (.ref it2) .none Z.env).onRaise (fun x => do noteFrame x Z.env; standAt theWindowsPlace)) _ s10
      have cont : ∀ (n : Nat) (s₀ s : Shared) (H : Hp), m * (B + 1) < n → Inv Z ([] ++ pinsAt fp s7.heap) (wipe σ8 vs2) H s → Nx H → Seg (model Z.prog Z.w) A (fun n s₀ r s1 => r = .ok .next ∧ PEnd Z σ0 Qe n s₀ s1) (YOut Z σ0 b0 Qh) n s₀
          (.compLoop (.GeneratorExp elt [⟨t1, i1, [], 0⟩, ⟨t2, i2, [], 0⟩] scope gpos) 0 (.ref it) .none Z.env) (.pure (.again (.compLoop (.GeneratorExp elt [⟨t1, i1, [], 0⟩, ⟨t2, i2, [], 0⟩] scope gpos) 0 (.ref it) .none Z.env))) [] s := fun n s₀ s H hn I nx => by
        obtain ⟨m', hm, w'⟩ := hNx H nx
        have hmB : m' * (B + 1) + (B + 1) ≤ m * (B + 1) := by
          have := Nat.mul_le_mul_right (B + 1) (show m' + 1 ≤ m from hm)
          rw [Nat.add_mul, Nat.one_mul] at this
          exact this
        have pinE : ∀ b ∈ fp, ∀ o, s7.heap.get? b = some o → s.heap.get? b = some o ∧ H b = none := fun b hb o e =>
          let zz := I.pin (b, o) (List.mem_append_right _ (List.mem_append_right _ (mem_pinsAt hb e)))
          ⟨zz.1, zz.2.1⟩
        refine seg_again rfl (ih m' hm n (i + 1) s₀ s H (by omega) w' ((I.unpinned (pins := [])).weak hl0 h01) ?_ fun b hb => ?_)
        · exact T.keep _ _ _ st7 fun b hb o e => (pinE b hb o e).1
        · obtain ⟨o, e, _⟩ := T.obj _ _ st7 b hb
          exact (pinE b hb o e).2
      unfold compStart
      rw [Sem.onRaise_eq_wrap]
      show Seg _ A _ _ _ s₀ _ ((ask >>= _).wrap _ _ _ _) _ s10
      refine seg_bind_wrap (wpAny_askSetting ?_)
      split
      · exact seg_again rfl (inner _ _ _ cont k0 n 0 s₀ s10 H10 (by omega) w20 I10' st10 fun b hb => (f10 b hb).1)
      · refine seg_bind_wrap (wpAny_rule ?_)
        show Seg _ A _ _ _ s₀ _ ((standAt i2.pos >>= _).wrap _ _ _ _) _ s10
        exact seg_bind_wrap (wpAny_standAt (seg_bind_wrap (T2.self _ 0 s10 _ _ st10 (seg_again rfl (inner _ _ _ cont k0 n 0 s₀ s10 H10 (by omega) w20 I10' st10 fun b hb => (f10 b hb).1)))))
end
end Gx
/-! ## GxH -/
set_option maxHeartbeats 4000000
namespace Gx
open PySem PySem.Spec PyProof.Rows L2

section
variable {Z : Cx} {A : Around} {t1 i1 t2 i2 elt : Expr} {scope : Scope} {gpos : Pos} {it it2 : Addr} {fp fp2 : List Addr} {tn tn2 : Nat → Heap → Prop} {J J2 : It} {g g2 : TG} {wi2 : TI} {te : TE} {vs vs2 : List Nat} {σ0 σ1 : L2.St} {b0 : Bool} {B : Nat} {W W2 : Nat → Nat → Hp → Prop} {Qe Qh Nx : Hp → Prop}
theorem seg_start2 (hA : Z.A = A.deeper Z.env) (hcm : Z.calm = true) (hco : Z.env.scope.isCoroutine = false) (hex : Z.ex = fp) (hpn : ∀ p ∈ Z.pn, p.1 ∉ fp) (hxe : Z.xe = fun _ _ => False)
    (T : Turn Z.prog Z.w Z.K t1 J fp it tn) (pg : PG Z t1 g) (pi2 : PI Z t2 i2 wi2) (pg2 : PG Z t2 g2) (pe : PE Z elt te) (hs2 : ∀ x, foldedSetIterable i2 Z.env x = pure x)
    (hW : Turns2 J g wi2 g2 te vs vs2 σ0 b0 B W Qe Qh) (hs0 : ∀ σ2, wipe σ2 vs = σ0 → σ0.length = σ2.length) (hsub : ∀ v ∈ vs2, v ∈ vs)
    (m n : Nat) (s₀ s : Shared) (H : Hp) (hmn : m * (B + 1) + B < n) (w : W 0 m H) (I : Inv Z [] σ0 H s) (st : tn 0 s.heap) (hn : ∀ b ∈ fp, H b = none) :
      Seg (model Z.prog Z.w) A (fun n s₀ r s1 => r = .ok .next ∧ PEnd Z σ0 Qe n s₀ s1) (YOut Z σ0 b0 Qh) n s₀ (.compStart (.GeneratorExp elt [⟨t1, i1, [], 0⟩, ⟨t2, i2, [], 0⟩] scope gpos) 0 (.ref it) .none Z.env)
        ((model Z.prog Z.w).den (.compStart (.GeneratorExp elt [⟨t1, i1, [], 0⟩, ⟨t2, i2, [], 0⟩] scope gpos) 0 (.ref it) .none Z.env)) [] s := by
  have loop := seg_loop2 (i1 := i1) (scope := scope) (gpos := gpos) hA hcm hco hex hpn hxe T pg pi2 pg2 pe hs2 hW hs0 hsub m n 0 s₀ s H hmn w I st hn
  show Seg _ A _ _ _ s₀ _ ((compStart (.GeneratorExp elt [⟨t1, i1, [], 0⟩, ⟨t2, i2, [], 0⟩] scope gpos) 0 (.ref it) .none Z.env).onRaise (leaving Z.env)) [] s
  unfold compStart
  rw [Sem.onRaise_eq_wrap]
  show Seg _ A _ _ _ s₀ _ ((ask >>= _).wrap _ _ _ _) [] s
  refine seg_bind_wrap (wpAny_askSetting ?_)
  split
  · exact seg_again rfl loop
  · refine seg_bind_wrap (wpAny_rule ?_)
    show Seg _ A _ _ _ s₀ _ ((standAt i1.pos >>= _).wrap _ _ _ _) [] s
    exact seg_bind_wrap (wpAny_standAt (seg_bind_wrap (T.self _ 0 s _ _ st (seg_again rfl loop))))
end

def tGen2 (b0 : Bool) (T : TbL) (wi : TI) (g : TG) (wi2 : TI) (g2 : TG) (te : TE) (vs vs2 : List Nat) : TE := fun σ H Q => wi σ H fun J H1 => LamX.Tabs T H1 ∧ ∀ H2, Ex T H1 H2 →
  ∃ (B : Nat) (W : Nat → Nat → Hp → Prop), (∃ m, W 0 m H2) ∧ Turns2 J g wi2 g2 te vs vs2 (wipe σ vs) b0 B W (fun H' => Q (.bl (!b0)) H') (fun H' => Q (.bl b0) H')

section
variable {X : Cx} {T : TbL} {c P : Addr} {elt tg iter t2 i2 : Expr} {scope : Scope} {own : List (Str × Nat)} {vs2 : List Nat} {gpos p pos : Pos} {wi wi2 : TI} {g g2 : TG} {te : TE} {k : Nat}
theorem pe_any2 (hr : Room (k + 3) X.A) (hgl : Gl X "any") (hm : X.mg "any" = none) (hc : X.calm = true) (hN : X.N.Nodup) (TB : LamX.TabB X.base X.mg c P) (hcode : X.env.code = .ref c) (hmT : (P, X.env.qual ++ "<genexpr>") ∈ T) (hu : ∀ r ∈ T, r.1 = P → r.2 = X.env.qual ++ "<genexpr>") (ok : GSc X.N X.env.scope scope own) (hi : PI X tg iter wi)
    (hg : ∀ (s : Shared) (H : Hp) (code : Value) (fp : List Addr) (a : Addr) (go : Obj), PG (zcx X s H scope code fp a go) tg g)
    (he : ∀ (s : Shared) (H : Hp) (code : Value) (fp : List Addr) (a : Addr) (go : Obj), Room k (zcx X s H scope code fp a go).A → PE (zcx X s H scope code fp a go) elt te)
    (hi2 : ∀ (s : Shared) (H : Hp) (code : Value) (fp : List Addr) (a : Addr) (go : Obj), Room k (zcx X s H scope code fp a go).A → PI (zcx X s H scope code fp a go) t2 i2 wi2)
    (hg2 : ∀ (s : Shared) (H : Hp) (code : Value) (fp : List Addr) (a : Addr) (go : Obj), PG (zcx X s H scope code fp a go) t2 g2) (hsub : ∀ v ∈ vs2, v ∈ ixs own)
    (hs2 : ∀ env x, foldedSetIterable i2 env x = pure x := by intro _ _; rfl)
    (hs : ∀ v, genFold iter X.env v = pure v := by intro _; rfl)
    (hst : starEach [.GeneratorExp elt [⟨tg, iter, [], 0⟩, ⟨t2, i2, [], 0⟩] scope gpos] X.env = (false, eval (.GeneratorExp elt [⟨tg, iter, [], 0⟩, ⟨t2, i2, [], 0⟩] scope gpos) X.env) :: starEach [] X.env := by rfl) :
    PE X (.Call (.Name "any" p) [.GeneratorExp elt [⟨tg, iter, [], 0⟩, ⟨t2, i2, [], 0⟩] scope gpos] [] pos) (tGen2 true T wi g wi2 g2 te (ixs own) vs2) := by
  refine ⟨fun pins s σ H Q I h => ?_⟩
  refine wpAny_Call_Name_kw (ld_blt I hgl hm boot_any ?_)
  refine PyProof.Rows.callWith_builtin1 ?_ hst (by rfl)
  rw [hst]
  show wpAny _ _ (spliced ((false, eval (.GeneratorExp elt [⟨tg, iter, [], 0⟩, ⟨t2, i2, [], 0⟩] scope gpos) X.env) :: backTo pos (starEach [] X.env))) _ _ s
  refine Calls.spliced_cons (gen_made (R := fun J H1 => ∀ H2, Ex T H1 H2 → ∃ (B : Nat) (W : Nat → Nat → Hp → Prop), (∃ m, W 0 m H2) ∧ Turns2 J g wi2 g2 te (ixs own) vs2 (wipe σ (ixs own)) true B W (fun H' => Q (.bl false) H') (fun H' => Q (.bl true) H'))
    hr hc hN TB hcode ok hi hs I hmT hu h fun J H0 H1 it fp tn a gn s0 s1 code go hR hE M => ?_)
  obtain ⟨B, W, ⟨m0, w0⟩, turn⟩ := hR H1 hE
  refine Calls.spliced_nil ?_
  refine call_function_tree F.kind_any F.plain_any F.entry_any (F.args_any1 _) ?_
  unfold Builtin.«any»
  refine wpAny_bind (m := oneArg "any" _) (wpAny_pure ?_)
  refine wpAny_bind (wpAny_pyIter_gen M.gen ?_)
  refine wpAny_pure ⟨plainId_quiet F.plain_any_loop _, ?_⟩
  refine drain_any (Z := zcx X s0 H1 scope code fp a go) (Qe := fun H' => Q (.bl false) H') (Qh := fun H' => Q (.bl true) H') (go := go) hr.hd (by have := hr.dp; omega) (by simp) M.obj
    (fun H' s' I' q => ⟨.bl false, H', M.back I', rfl, q⟩) (fun H' s' I' q => ⟨.bl true, H', M.back I', rfl, q⟩) (m0 * (B + 1) + B + 1) s1 H1 _ M.inv M.gens ⟨rfl, ?_⟩
  have I2 := inv_state (s' := s1.setGen gn .running) M.inv rfl rfl (allBare_setGen M.inv.bare rfl)
  exact seg_start2 (Z := zcx X s0 H1 scope code fp a go) (A := X.A.in1.in1) rfl hc ok.co rfl M.pnok rfl M.turn (hg _ _ _ _ _ _) (hi2 _ _ _ _ _ _ (hr.in1.in1.deeper _)) (hg2 _ _ _ _ _ _) (he _ _ _ _ _ _ (hr.in1.in1.deeper _)) (hs2 _) turn (fun σ2 h2 => wipe_len h2) hsub m0 (m0 * (B + 1) + B + 1) _ _ H1 (Nat.lt_succ_self _) w0 I2 M.at0 fun b hb => (M.fpo b hb).1
theorem pe_all2 (hr : Room (k + 3) X.A) (hgl : Gl X "all") (hm : X.mg "all" = none) (hc : X.calm = true) (hN : X.N.Nodup) (TB : LamX.TabB X.base X.mg c P) (hcode : X.env.code = .ref c) (hmT : (P, X.env.qual ++ "<genexpr>") ∈ T) (hu : ∀ r ∈ T, r.1 = P → r.2 = X.env.qual ++ "<genexpr>") (ok : GSc X.N X.env.scope scope own) (hi : PI X tg iter wi)
    (hg : ∀ (s : Shared) (H : Hp) (code : Value) (fp : List Addr) (a : Addr) (go : Obj), PG (zcx X s H scope code fp a go) tg g)
    (he : ∀ (s : Shared) (H : Hp) (code : Value) (fp : List Addr) (a : Addr) (go : Obj), Room k (zcx X s H scope code fp a go).A → PE (zcx X s H scope code fp a go) elt te)
    (hi2 : ∀ (s : Shared) (H : Hp) (code : Value) (fp : List Addr) (a : Addr) (go : Obj), Room k (zcx X s H scope code fp a go).A → PI (zcx X s H scope code fp a go) t2 i2 wi2)
    (hg2 : ∀ (s : Shared) (H : Hp) (code : Value) (fp : List Addr) (a : Addr) (go : Obj), PG (zcx X s H scope code fp a go) t2 g2) (hsub : ∀ v ∈ vs2, v ∈ ixs own)
    (hs2 : ∀ env x, foldedSetIterable i2 env x = pure x := by intro _ _; rfl)
    (hs : ∀ v, genFold iter X.env v = pure v := by intro _; rfl)
    (hst : starEach [.GeneratorExp elt [⟨tg, iter, [], 0⟩, ⟨t2, i2, [], 0⟩] scope gpos] X.env = (false, eval (.GeneratorExp elt [⟨tg, iter, [], 0⟩, ⟨t2, i2, [], 0⟩] scope gpos) X.env) :: starEach [] X.env := by rfl) (hb : bootBuiltins "all" = some (.builtin "all") := by decide +kernel) :
    PE X (.Call (.Name "all" p) [.GeneratorExp elt [⟨tg, iter, [], 0⟩, ⟨t2, i2, [], 0⟩] scope gpos] [] pos) (tGen2 false T wi g wi2 g2 te (ixs own) vs2) := by
  refine ⟨fun pins s σ H Q I h => ?_⟩
  refine wpAny_Call_Name_kw (ld_blt I hgl hm hb ?_)
  refine PyProof.Rows.callWith_builtin1 ?_ hst (by rfl)
  rw [hst]
  show wpAny _ _ (spliced ((false, eval (.GeneratorExp elt [⟨tg, iter, [], 0⟩, ⟨t2, i2, [], 0⟩] scope gpos) X.env) :: backTo pos (starEach [] X.env))) _ _ s
  refine Calls.spliced_cons (gen_made (R := fun J H1 => ∀ H2, Ex T H1 H2 → ∃ (B : Nat) (W : Nat → Nat → Hp → Prop), (∃ m, W 0 m H2) ∧ Turns2 J g wi2 g2 te (ixs own) vs2 (wipe σ (ixs own)) false B W (fun H' => Q (.bl true) H') (fun H' => Q (.bl false) H'))
    hr hc hN TB hcode ok hi hs I hmT hu h fun J H0 H1 it fp tn a gn s0 s1 code go hR hE M => ?_)
  obtain ⟨B, W, ⟨m0, w0⟩, turn⟩ := hR H1 hE
  refine Calls.spliced_nil ?_
  refine call_function_tree F.kind_all F.plain_all F.entry_all (F.args_all1 _) ?_
  unfold Builtin.«all»
  refine wpAny_bind (m := oneArg "all" _) (wpAny_pure ?_)
  refine wpAny_bind (wpAny_pyIter_gen M.gen ?_)
  refine wpAny_pure ⟨plainId_quiet F.plain_all_loop _, ?_⟩
  refine drain_all (Z := zcx X s0 H1 scope code fp a go) (Qe := fun H' => Q (.bl true) H') (Qh := fun H' => Q (.bl false) H') (go := go) hr.hd (by have := hr.dp; omega) (by simp) M.obj
    (fun H' s' I' q => ⟨.bl true, H', M.back I', rfl, q⟩) (fun H' s' I' q => ⟨.bl false, H', M.back I', rfl, q⟩) (m0 * (B + 1) + B + 1) s1 H1 _ M.inv M.gens ⟨rfl, ?_⟩
  have I2 := inv_state (s' := s1.setGen gn .running) M.inv rfl rfl (allBare_setGen M.inv.bare rfl)
  exact seg_start2 (Z := zcx X s0 H1 scope code fp a go) (A := X.A.in1.in1) rfl hc ok.co rfl M.pnok rfl M.turn (hg _ _ _ _ _ _) (hi2 _ _ _ _ _ _ (hr.in1.in1.deeper _)) (hg2 _ _ _ _ _ _) (he _ _ _ _ _ _ (hr.in1.in1.deeper _)) (hs2 _) turn (fun σ2 h2 => wipe_len h2) hsub m0 (m0 * (B + 1) + B + 1) _ _ H1 (Nat.lt_succ_self _) w0 I2 M.at0 fun b hb => (M.fpo b hb).1
end
end Gx
/-! ## RxA -/
set_option maxHeartbeats 4000000
/-! enumerate over a tuple. -/
namespace Gx
open PySem PySem.Spec PyProof.Rows L2

theorem meets_enum1 {v : Value} {o : Obj} {G : Heap → Prop} (B : Begins v o G) :
    Meets (Builtin.«enumerate.__new__» ⟨[.type "enumerate", v], []⟩) (fun _ R s => G s.heap ∧
      R (.ok (.ret (.ref (s.heap.push o).objs.size))) { s with heap := (s.heap.push o).push { cls := .type "enumerate", data := .fields #[.none, .bool false, .ref s.heap.objs.size, rawInt 0, .none, .none] } }) :=
  .of_wp fun prog w A R s h => by
    obtain ⟨hp, g, d, tk, os⟩ := s
    obtain ⟨h1, h⟩ := h
    have hsub := sub_enumerate
    have q1 : ∀ {A' : Around} {E : Value → Shared → Prop} {Q : Value → Shared → Prop}, Q (.ref hp.objs.size) ⟨hp.push o, g, d, tk, os⟩ → wpAny (model prog w) A' (pyIter v) Q E ⟨hp, g, d, tk, os⟩ :=
      fun q => B.iter prog w _ _ ⟨hp, g, d, tk, os⟩ _ h1 q
    wp_walk using q1
    refine wpAny_stack_any fun st => wpAny_pure ?_
    split
    · rename_i c _ _ _ _ _
      cases (c == Value.type "enumerate") <;> (wp_walk using q1; exact ⟨_, rfl, h⟩)
    · wp_walk using q1
      exact ⟨_, rfl, h⟩
section
variable {prog : Program} {w : World} {A : Around} {E : Value → Shared → Prop} {s : Shared}
theorem call_enum1 {v : Value} {o : Obj} {G : Heap → Prop} {Q : Value → Shared → Prop} (B : Begins v o G) (h1 : G s.heap)
    (h : ∀ h', IsEnum h' (s.heap.objs.size + 1) s.heap.objs.size 0 .none → h'.get? s.heap.objs.size = some o → h'.objs.size = s.heap.objs.size + 2 →
      (∀ b o, s.heap.get? b = some o → h'.get? b = some o) → Q (.ref (s.heap.objs.size + 1)) { s with heap := h' }) :
    wpAny (model prog w) A (call (.type "enumerate") [v]) Q E s := by
  refine callType_new F.called_enumerate (by decide) (F.typeCall_enumerate_1 _) (F.newCall_enumerate_1 _) (fun obj => F.args_object_init_2 obj _) F.entry_enumerate_new (meets_enum1 B) ⟨h1, ?_⟩
  have hz : (s.heap.push o).objs.size = s.heap.objs.size + 1 := Heap.size_push ..
  show _ ∧ _
  rw [hz]
  have he : IsEnum ((s.heap.push o).push { cls := .type "enumerate", data := .fields #[.none, .bool false, .ref s.heap.objs.size, rawInt 0, .none, .none] }) (s.heap.objs.size + 1) s.heap.objs.size 0 .none := by
    have z := Heap.get?_push_size (s.heap.push o) (o := { cls := .type "enumerate", data := .fields #[.none, .bool false, .ref s.heap.objs.size, rawInt 0, .none, .none] }) rfl
    rw [hz] at z
    exact z
  exact ⟨⟨_, he, rfl⟩, h _ he (Heap.get?_push_of_some _ (Heap.get?_push_size _ B.free)) (by rw [Heap.size_push, hz]) fun b o x => Heap.get?_push_of_some _ (Heap.get?_push_of_some _ x)⟩
end

/-- the tuple at a, its items in new pairs with their places -/
def IteT (K : PySem.W.Frag) (a : Addr) : It :=
  ⟨fun i H => ∃ (xs : List V) (x : V), SqT K H a xs ∧ xs[i]? = some x, fun i H v H' => ∃ T x, v = .ref T ∧ H T = none ∧ H' = upd H T (.tup [.int (i : Nat), x]) ∧ ∀ xs, SqT K H a xs → xs[i]? = some x, fun i H => ∃ xs : List V, SqT K H a xs ∧ xs.length ≤ i⟩
theorem turn_enumT {P : Program} {w : World} {K : PySem.W.Frag} {elts : List Expr} {kk : Nat} {tpos : Pos} (a e it : Addr) :
    Turn P w K (.Tuple elts kk tpos) (IteT K a) [e, it] e (fun i h => (∃ old, IsEnum h e it ((i : Nat) : Int) old) ∧ h.IsTupleIter it a i ∧ e ≠ it) where
  mem := by simp
  obj := fun i h st b hb => by
    obtain ⟨⟨old, he⟩, ⟨o, ho, hc, hd⟩, _⟩ := st
    have e' : b = e ∨ b = it := by simpa using hb
    rcases e' with z | z
    · rw [z]; exact ⟨_, he, fun v q => nomatch q⟩
    · rw [z]; exact ⟨o, ho, fun v q => by rw [hd] at q; cases q⟩
  keep := fun i h h' st k => let ⟨⟨old, he⟩, hi, hne⟩ := st; ⟨⟨old, k e (by simp) _ he⟩, hi.at fun o q => k it (by simp) o q, hne⟩
  item := by
    intro X hP hw hK hc i pins s σ H E I hf st hg
    subst hP hw hK
    obtain ⟨⟨old, he⟩, hit, hne⟩ := st
    obtain ⟨xs, x, hq, hx⟩ := hg
    obtain ⟨its, rv, p, hz⟩ := I.tuple hq
    obtain ⟨u, hu, ru⟩ := rv.get hx
    have hel : e < s.heap.objs.size := Heap.lt_size he
    have hil : it < s.heap.objs.size := by obtain ⟨_, q, _⟩ := hit; exact Heap.lt_size q
    obtain ⟨op, hop, hopc, n0, hopd⟩ := id p
    have nai : a ≠ it := fun z => by
      obtain ⟨oi, hi1, hi2, hi3⟩ := hit
      rw [z, hi1] at hop
      have q := hi2.symm.trans ((congrArg Obj.cls (Option.some.inj hop)).trans hopc)
      injection q with q1
      exact absurd q1 (by decide)
    have nae : e ≠ a := fun z => by
      rw [← z, he] at hop
      have q := (congrArg Obj.cls (Option.some.inj hop)).trans hopc
      injection q with q1
      exact absurd q1 (by decide)
    have hlt : i < its.toArray.size := by
      have := (List.getElem?_eq_some_iff.mp hu).1
      simpa using this
    refine wpAny_pyNext_enum_itemD (i := i) (Draws.tuple (A := X.A.in1) (show X.A.in1.handled = none from I.ok.hd hc) it a nai its.toArray) he ⟨hit, p⟩ hlt hne (by simp [hne, nae]) fun y h' tk hy ho hst hT hsz hk => ?_
    have ey : y = u := by
      have z : its[i]? = some y := by simpa using hy
      rw [hu] at z
      exact (Option.some.inj z).symm
    subst ey
    refine ⟨_, rfl, wpAny_letOwnedTupleGo_enum (s := { s with heap := h', toks := tk + 1 }) ho fun h'' he' sb => ?_⟩
    have hT2 : h''.get? s.heap.objs.size = some { cls := .type "tuple", data := .seq #[.int i tk, y] } := (sb.2 _ (Nat.ne_of_gt hel)).trans hT
    have new : ObjOk X.prog X.w (upd H s.heap.objs.size (.tup [.int (i : Nat), x])) h'' s.heap.objs.size (.tup [.int (i : Nat), x]) :=
      ⟨by show 2 ≤ sizeLine; decide, [.int i tk, y], .cons ⟨_, rfl⟩ (.cons ru .nil), ⟨_, hT2, rfl, _, rfl⟩⟩
    have I1 : Inv X pins σ (upd H s.heap.objs.size (.tup [.int (i : Nat), x])) { s with heap := h'', toks := tk + 1 } :=
      I.turnedNew (ch := [e, it]) (fun b ob hb q => (sb.2 b (fun z => hb (by simp [z]))).trans (hk b ob (fun z => hb (by simp [z])) (fun z => hb (by simp [z])) q)) hf (Nat.le_refl _) new
    refine ⟨.ref s.heap.objs.size, _, I1, rfl, ⟨_, x, rfl, I.hok.fresh (Nat.le_refl _), rfl, fun ys hy => by rw [I.tuple_inj hy hq]; exact hx⟩, ⟨⟨y, ?_⟩, hst.1.at fun o q => (sb.2 it (Ne.symm hne)).trans q, hne⟩, fun b hb => ?_⟩
    · have e1 : ((i + 1 : Nat) : Int) = (i : Int) + 1 := by omega
      rw [e1]; exact he'
    · have hb' : b < s.heap.objs.size := by
        have e' : b = e ∨ b = it := by simpa using hb
        rcases e' with z | z
        · rw [z]; exact hel
        · rw [z]; exact hil
      rw [upd_ne (Nat.ne_of_lt hb')]
      exact (hf b hb).1
  done := by
    intro X hP hw hK hc i pins s σ H E I hf st hg
    subst hP hw hK
    obtain ⟨⟨old, he⟩, hit, hne⟩ := st
    obtain ⟨xs, hq, hx⟩ := hg
    obtain ⟨its, rv, p, hz⟩ := I.tuple hq
    obtain ⟨f0, f1, f2, f3, f4, f5⟩ := hf it (by simp)
    have hl := rv.length
    have D0 : Draws X.prog X.w X.A.in1 it [it, a] 0 (fun _ _ => False) (fun _ h => h.IsTupleIter it a i ∧ h.IsTuple a its.toArray) :=
      ⟨fun _ _ st => let ⟨o, ho, _⟩ := st.1; ⟨o, ho⟩, fun _ _ _ st hk => ⟨st.1.at fun o q => hk it (by simp) o q, st.2.at fun o q => hk a (by simp) o q⟩, fun j _ _ _ hj _ _ => absurd hj (Nat.not_lt_zero j),
        fun s' Q' E' st' hE => wpAny_nextOf_tuple_end (A := X.A.in1) (show X.A.in1.handled = none from I.ok.hd hc) st'.1 st'.2 (by simp; omega) hE⟩
    exact wpAny_pyNext_enum_endD (i := (i : Int)) D0 he ⟨hit, p⟩ fun h' eb => ⟨rfl, I.turned (t' := s.toks) (fun b o hb q => eb b o hb q) f0 f1 f3 f4 f5⟩
  self := fun A i s Q E st h => let ⟨⟨_, he⟩, _⟩ := st; wpAny_pyIter_enum he h
def iEnumT (K : PySem.W.Frag) (ta : TA) : TI := fun σ H R => ta σ H fun vs H1 => ∃ a xs, vs = [.ref a] ∧ SqT K H1 a xs ∧ R (IteT K a) H1
/-- for i, x in enumerate(t), t a tuple -/
theorem pi_enumT {X : Cx} {e : Expr} {ta : TA} {p pos tpos : Pos} {elts : List Expr} {kk : Nat} (hg : Gl X "enumerate") (hm : X.mg "enumerate" = none) (ha : PA X [e] ta) (hs : starEach [e] X.env = [(false, eval e X.env)] := by rfl) :
    PI X (.Tuple elts kk tpos) (.Call (.Name "enumerate" p) [e] [] pos) (iEnumT X.K ta) := by
  refine ⟨fun pins s σ H R I h => ?_⟩
  refine Call_ (ld_blt I hg hm boot_enumerate (PyProof.Rows.callWith_type1 (thn (ha.run pos pins s σ H _ I h) fun us s1 ⟨vs, H1, I1, r1, q1⟩ => ?_) hs rfl))
  obtain ⟨a, xs, ex, hq, q⟩ := q1
  subst ex
  cases r1 with
  | cons r rr =>
    cases rr
    cases r
    obtain ⟨its, rv, p', hz⟩ := I1.tuple hq
    refine call_enum1 (begins_tuple a its.toArray) p' fun h' he hit hsz hk => wpAny_pyIter_enum he ?_
    have I2 : Inv X pins σ H1 { s1 with heap := h' } := I1.kept (t' := s1.toks) hk
    refine ⟨s1.heap.objs.size + 1, [s1.heap.objs.size + 1, s1.heap.objs.size], _, _, H1, rfl, I2, turn_enumT a (s1.heap.objs.size + 1) s1.heap.objs.size, ⟨⟨.none, he⟩, ⟨_, hit, rfl, rfl⟩, Nat.succ_ne_self _⟩, fun b hb => ?_, q⟩
    have e' : b = s1.heap.objs.size + 1 ∨ b = s1.heap.objs.size := by simpa using hb
    have hle : s1.heap.objs.size ≤ b := by
      rcases e' with z | z
      · rw [z]; exact Nat.le_add_right _ _
      · rw [z]; exact Nat.le_refl _
    exact I1.fpOk hle (I1.hok.fresh hle)
theorem walk_enumT {K : PySem.W.Frag} {a : Addr} {xs : List V} : Walk (IteT K a) xs.length (fun H => SqT K H a xs) (YPair (fun i => some (.int (i : Nat))) (fun i => xs[i]?)) := by
  refine ⟨fun i _ hi q => ⟨xs, xs[i], q, by simp [hi]⟩, fun _ q => ⟨xs, q, Nat.le_refl _⟩, fun i H v H' _ q y => ?_⟩
  obtain ⟨T, x, h1, h2, h3, h4⟩ := y
  exact ⟨T, .int (i : Nat), x, h1, h2, h3, rfl, h4 xs q⟩
end Gx
/-! ## RxB -/
set_option maxHeartbeats 4000000
/-! min of tuples (int, bool, int); min by a lambda whose answer is such a tuple. -/
namespace Gx
open PySem PySem.Spec PyProof.Rows L2

/-- a key: (priority, not begun, task) -/
abbrev KD := Int × Bool × Int
def kdD (k : KD) : PyData := .tuple [.int k.1, .bool k.2.1, .int k.2.2]
def kdV (k : KD) : List V := [.int k.1, .bl k.2.1, .int k.2.2]
def kLt (x y : KD) : Bool := decide (x.1 < y.1) || (decide (x.1 = y.1) && ((!x.2.1 && y.2.1) || ((x.2.1 == y.2.1) && decide (x.2.2 < y.2.2))))
theorem kLt_eq (x y : KD) : PySem.W.dataLt (kdD x) (kdD y) = kLt x y := by
  obtain ⟨a, b, c⟩ := x
  obtain ⟨a', b', c'⟩ := y
  have al : ∀ (i j : Int), PySem.W.alike (.int i) (.int j) = true := fun _ _ => by simp [PySem.W.alike]
  have ab : ∀ (i j : Bool), PySem.W.alike (.bool i) (.bool j) = true := fun _ _ => by simp [PySem.W.alike]
  unfold kdD kLt
  rw [PySem.W.dataLt_tuple]
  by_cases h1 : a = a'
  · subst h1
    rw [PySem.W.dataLt_all_yes (al a a) (by simp [PyData.eqv])]
    by_cases h2 : b = b'
    · subst h2
      rw [PySem.W.dataLt_all_yes (ab b b) (by simp [PyData.eqv])]
      by_cases h3 : c = c'
      · subst h3
        rw [PySem.W.dataLt_all_yes (al c c) (by simp [PyData.eqv]), ← PySem.W.dataLt_tuple]
        simp
        decide +kernel
      · rw [PySem.W.dataLt_all_no (al c c') (by simp [PyData.eqv, h3]), PySem.W.dataLt_int]
        simp
    · rw [PySem.W.dataLt_all_no (ab b b') (by cases b <;> cases b' <;> simp_all [PyData.eqv]), PySem.W.dataLt_bool]
      clear al ab
      cases b <;> cases b' <;> first | (exact absurd rfl h2) | (simp [PyProof.Rows.b2i])
  · rw [PySem.W.dataLt_all_no (al a a') (by simp [PyData.eqv, h1]), PySem.W.dataLt_int]
    simp [h1]

theorem kLt_irr (x : KD) : kLt x x = false := by
  obtain ⟨a, b, c⟩ := x
  simp [kLt]
theorem paired_get {α β : Type} {F : α → β → Prop} : ∀ {l1 : List α} {l2 : List β}, Paired F l1 l2 → ∀ {i : Nat} {x : α}, l1[i]? = some x → ∃ y, l2[i]? = some y ∧ F x y
  | _, _, .nil, i, x, e => by simp at e
  | _, _, .cons r _, 0, x, e => by simp at e; subst e; exact ⟨_, rfl, r⟩
  | _, _, .cons _ t, i + 1, x, e => by
    obtain ⟨y, h1, h2⟩ := paired_get t (i := i) (x := x) (by simpa using e)
    exact ⟨y, by simpa using h1, h2⟩
/-- v is a tuple of the key k -/
def IsK (H : Hp) (v : V) (k : KD) : Prop := ∃ t, v = .ref t ∧ H t = some (.tup (kdV k))
section
variable {X : Cx} {pins : List (Addr × Obj)} {σ : L2.St} {H : Hp} {s : Shared}
theorem IsK.reads {v : V} {u : Value} {k : KD} (I : Inv X pins σ H s) (h : IsK H v k) (r : RelV v u) : Reads s.heap u (kdD k) [] := by
  obtain ⟨t, rfl, e⟩ := h
  obtain rfl : u = Value.ref t := r
  obtain ⟨_, its, rv, o, ho, hc, n, hd⟩ := I.hok t _ e
  have hall : ReadsAll s.heap its.toArray.toList [.int k.1, .bool k.2.1, .int k.2.2] [] := by
    match its, (show Vals [.int k.1, .bl k.2.1, .int k.2.2] its from rv) with
    | [u1, u2, u3], .cons r1 (.cons r2 (.cons r3 .nil)) =>
      obtain ⟨t1, rfl⟩ := r1
      obtain rfl : u2 = Value.bool k.2.1 := r2
      obtain ⟨t3, rfl⟩ := r3
      exact .cons (as := []) (bs := []) (.int _ _) (.cons (as := []) (bs := []) (.bool _) (.cons (as := []) (bs := []) (.int _ _) .nil))
  exact .tuple ho hc hd hall
/-- the least key of some, the first as it stands -/
def kMin (k : KD) (ks : List KD) : KD := ks.foldl (fun a y => if kLt y a then y else a) k
theorem minD_kMin : ∀ (ks : List KD) (k : KD), PySem.W.minD (kdD k) (ks.map kdD) = kdD (kMin k ks)
  | [], _ => rfl
  | y :: ks, k => by
    have ih := minD_kMin ks (if kLt y k then y else k)
    unfold PySem.W.minD kMin at *
    rw [List.map_cons, List.foldl_cons, List.foldl_cons, kLt_eq]
    cases hb : kLt y k with
    | true => rw [hb] at ih; exact ih
    | false => rw [hb] at ih; exact ih
theorem kdD_inj {x y : KD} (h : kdD x = kdD y) : x = y := by
  obtain ⟨a, b, c⟩ := x
  obtain ⟨a', b', c'⟩ := y
  unfold kdD at h
  injection h with h
  simp at h
  obtain ⟨rfl, rfl, rfl⟩ := h
  rfl
theorem reads_all {xs : List V} {us : List Value} {ks : List KD} (I : Inv X pins σ H s) (r : Vals xs us) (h : Paired (IsK H) xs ks) : ReadsAll s.heap us (ks.map kdD) [] := by
  induction h generalizing us with
  | nil => cases r; exact .nil
  | cons hk _ ih =>
    cases r with
    | cons r1 r2 => exact .cons (as := []) (bs := []) (hk.reads I r1) (ih r2)
def rMinT (K : PySem.W.Frag) : List V → Hp → VK → Prop := fun vs H Q => ∃ (a : Addr) (xs : List V) (k : KD) (ks : List KD), vs = [V.ref a] ∧ SqL K H a xs ∧ Paired (IsK H) xs (k :: ks) ∧ ∀ v, v ∈ xs → IsK H v (kMin k ks) → Q v H
theorem cr_minT {k : Nat} (hr : Room k X.A) : CallR X (.builtin "min") (rMinT X.K) := by
  intro pins s σ H vs us Q I r h
  obtain ⟨a, xs, k1, ks, rfl, hs, hp, q⟩ := h
  obtain ⟨its, rv, hl, _⟩ := I.list hs
  rw [Vals.ref1 r]
  have hR := reads_all I rv hp
  have hal : PySem.W.AlikeAll (kdD k1 :: ks.map kdD) := by
    refine ⟨fun x hx y hy => ?_, fun x hx => ?_⟩
    · obtain ⟨a, _, rfl⟩ := List.mem_map.mp (show x ∈ (k1 :: ks).map kdD from hx)
      obtain ⟨b, _, rfl⟩ := List.mem_map.mp (show y ∈ (k1 :: ks).map kdD from hy)
      simp [kdD, PySem.W.alike, PySem.W.alikeAll]
    · obtain ⟨a, _, rfl⟩ := List.mem_map.mp (show x ∈ (k1 :: ks).map kdD from hx)
      simp [kdD]
  have hdep : ∀ l : List KD, PyData.depthAll (l.map kdD) ≤ 8 := by
    intro l
    induction l with
    | nil => simp [PyData.depthAll]
    | cons x l ih => simp [PyData.depthAll, kdD, PyData.depth] at *; omega
  refine PySem.W.min_list_data hr.hd hl.isList (vs := its.toArray) (by simpa using hR) hal (by have := hr.un; have := hdep (k1 :: ks); simp only [List.map_cons] at this; omega) fun i v h' tk bs hv hrd hk => ?_
  have hv' : its[i]? = some v := by simpa using hv
  have hx : ∃ x, xs[i]? = some x ∧ RelV x v := by
    have hl := rv.length
    have hi : i < xs.length := by
      have := (List.getElem?_eq_some_iff.mp hv').1
      omega
    obtain ⟨u, e1, e2⟩ := rv.get (i := i) (x := xs[i]) (by simp [hi])
    rw [hv'] at e1
    cases e1
    exact ⟨_, by simp [hi], e2⟩
  obtain ⟨x, hx, rx⟩ := hx
  refine ⟨x, H, I.kept (t' := tk) hk, rx, q x (List.mem_of_getElem? hx) ?_⟩
  obtain ⟨y, hy, hkx⟩ := paired_get hp hx
  have hrd2 := (hkx.reads (I.kept (t' := tk) hk) rx)
  rw [minD_kMin] at hrd
  have e := PySem.W.alike_unique _ _ _ _ _ (by simp [kdD, PySem.W.alike, PySem.W.alikeAll]) hrd2 hrd
  rw [← kdD_inj e]
  exact hkx
end
end Gx
/-! ## RxC -/
set_option maxHeartbeats 4000000
namespace Gx
open PySem PySem.Spec PyProof.Rows L2

/-! ### the loop of min(xs, key=f), f's answers keys -/
section
variable {X : Cx} {T : TbL} {pins : List (Addr × Obj)} {σ : L2.St} {l f S It0 : Addr} {xs : List V} {H0 : Hp} {R : Result → Shared → Prop} {kd : Nat → KD}
/-- f called with the j-th item answers a tuple of the j-th key -/
def KeyAt (X : Cx) (T : TbL) (pins : List (Addr × Obj)) (σ : L2.St) (f : Addr) (xs : List V) (H0 : Hp) (kd : Nat → KD) : Prop :=
  ∀ (j : Nat) (x : V) (v : Value) (pins2 : List (Addr × Obj)) (s2 : Shared) (H2 : Hp), xs[j]? = some x → RelV x v → Inv X (pins ++ pins2) σ H2 s2 → Ex T H0 H2 →
    wpAny (model X.prog X.w) X.A.in1 (call (.ref f) [v]) (fun u s3 => ∃ y H3, Inv X (pins ++ pins2) σ H3 s3 ∧ RelV y u ∧ Ex T H2 H3 ∧ IsK H3 y (kd j)) (fun _ _ => False) s2
/-- i is the first of the least keys below n -/
def Least (kd : Nat → KD) (i n : Nat) : Prop := i < n ∧ ∀ j, j < n → kLt (kd j) (kd i) = false ∧ (j < i → kLt (kd i) (kd j) = true)

theorem kLt_tot {x y : KD} (h1 : kLt x y = false) (h2 : kLt y x = false) : x = y := by
  obtain ⟨a, b, c⟩ := x
  obtain ⟨a', b', c'⟩ := y
  simp [kLt] at h1 h2
  have e1 : a = a' := by omega
  subst e1
  have e2 : b = b' := by cases b <;> cases b' <;> simp_all
  subst e2
  simp at h1 h2
  have e3 : c = c' := by omega
  rw [e3]
theorem kLt_trans {x y z : KD} (h1 : kLt x y = true) (h2 : kLt y z = true) : kLt x z = true := by
  obtain ⟨a, b, c⟩ := x
  obtain ⟨a', b', c'⟩ := y
  obtain ⟨a2, b2, c2⟩ := z
  simp [kLt] at *
  cases b <;> cases b' <;> cases b2 <;> simp_all <;> omega
theorem kLt_asym {x y : KD} (h : kLt x y = true) : kLt y x = false := by
  cases e : kLt y x with
  | false => rfl
  | true =>
    have := kLt_trans h e
    rw [kLt_irr] at this
    cases this
theorem kLt_le {x y z : KD} (h1 : kLt x y = true) (h2 : kLt z y = false) : kLt z x = false := by
  cases e : kLt z x with
  | false => rfl
  | true =>
    have := kLt_trans e h1
    rw [this] at h2
    cases h2
theorem Least.better {i n : Nat} (h : Least kd i n) (hb : kLt (kd n) (kd i) = true) : Least kd n (n + 1) := by
  refine ⟨Nat.lt_succ_self _, fun j hj => ?_⟩
  by_cases e : j = n
  · subst e
    exact ⟨kLt_irr _, fun z => absurd z (Nat.lt_irrefl _)⟩
  · have hj' : j < n := by omega
    obtain ⟨h1, h2⟩ := h.2 j hj'
    refine ⟨kLt_le hb h1, fun _ => ?_⟩
    cases e2 : kLt (kd n) (kd j) with
    | true => rfl
    | false =>
      cases e3 : kLt (kd i) (kd j) with
      | true => rw [kLt_trans hb e3] at e2; cases e2
      | false =>
        have e4 := kLt_tot e3 h1
        rw [← e4, hb] at e2
        cases e2
theorem Least.stay {i n : Nat} (h : Least kd i n) (hb : kLt (kd n) (kd i) = false) : Least kd i (n + 1) := by
  refine ⟨Nat.lt_succ_of_lt h.1, fun j hj => ?_⟩
  by_cases e : j = n
  · subst e
    exact ⟨hb, fun z => absurd (Nat.lt_trans z h.1) (Nat.lt_irrefl _)⟩
  · exact h.2 j (by omega)

theorem pin2 {H2 : Hp} {s2 : Shared} {fp : List Addr} {s1 : Shared} (I : Inv X (pins ++ pinsAt fp s1.heap) σ H2 s2) {b : Addr} (hb : b ∈ fp) {o : Obj} (e : s1.heap.get? b = some o) : s2.heap.get? b = some o ∧ H2 b = none := by
  have z := I.pin (b, o) (List.mem_append_right _ (List.mem_append_right _ (mem_pinsAt hb e)))
  exact ⟨z.1, z.2.1⟩

/-- the loop goes on: i the best so far, n items seen -/
theorem min_loopK (hc : X.calm = true) (hu : X.A.units + 20 < cLine) (hSI : S ≠ It0) (hlI : l ≠ It0) (hlS : l ≠ S) (hS : ∀ b ∈ [S, It0], b ≠ X.env.locals ∧ b ∉ X.fs ∧ (b ∈ X.ex ∨ X.s_0.heap.objs.size ≤ b) ∧ (∀ x c, X.env.cells.lookup x = some c → c ≠ b) ∧ ∀ p ∈ X.pn ++ pins, p.1 ≠ b)
    (hl : ∀ H2, Ex T H0 H2 → SqL X.K H2 l xs) (hkey : KeyAt X T pins σ f xs H0 kd)
    (hR : ∀ i x v H' s', xs[i]? = some x → RelV x v → Least kd i xs.length → Inv X pins σ H' s' → Ex T H0 H' → R (.ok (.ret v)) s') :
    ∀ (r n i : Nat) (s : Shared) (H : Hp) (x y : V) (vb kb : Value) (c : Nat), xs.length - n = r → n ≤ xs.length → Inv X pins σ H s → Ex T H0 H → H S = none → H It0 = none → s.heap.get? S = some (seqObj "list" #[vb, kb] c) → s.heap.IsListIter It0 l n →
      xs[i]? = some x → RelV x vb → RelV y kb → IsK H y (kd i) → Least kd i n →
      codeAny (model X.prog X.w) X.A (.builtin "min.loop" ⟨[.ref It0, .ref f, .ref S], []⟩) R s := by
  have hname : (toString "min" ++ toString ".loop" : String) = "min.loop" := by decide
  have hh : X.A.in1.handled = X.A.handled := rfl
  intro r
  induction r with
  | zero =>
    intro n i s H x y vb kb c hr hn I hE hSn hIn oS hit hx rx ry hky hbest
    have hin : n = xs.length := by omega
    subst hin
    obtain ⟨its, rv, hL, _⟩ := I.list (hl H hE)
    have W := Walks.list (prog := X.prog) (w := X.w) (A := X.A.in1) (I.ok.hd hc) It0 l hlI its.toArray
    have hsz : its.toArray.size = xs.length := by rw [List.size_toArray, rv.length]
    refine codeAny_builtin PySem.F.entry_min_loop ?_
    rw [Around.under_plainId PySem.F.plain_min_loop _]
    show wpAny _ X.A.in1 (seqItems? (.ref S) >>= _) _ _ _
    refine wpAny_bind (wpAny_seqItems oS rfl ?_)
    show wpAny _ X.A.in1 (tryCatch (pyNext (.ref It0)) _ >>= _) _ _ _
    refine wpAny_bind (wpAny_tryCatch (W.done _ _ _ ⟨by rw [hsz]; exact hit, hL.isList⟩ fun h' tk' hk' => ?_))
    obtain ⟨f1, f2, f3, f4, f5⟩ := hS It0 (by simp)
    have I1 : Inv X pins σ H { s with heap := h', toks := tk' } := I.turned (t' := tk') (fun b o hb e => hk' b o (by simpa using hb) e) hIn f1 f3 f4 f5
    have oS1 := hk' S _ (by simpa using hSI) oS
    show wpAny _ X.A.in1 (updateSeq S (fun _ => #[]) >>= _) _ _ _
    refine wpAny_bind ?_
    refine wpAny_updateSeq oS1 rfl (wpAny_bind (wpAny_letGo (wpAny_pure ?_)))
    obtain ⟨g1, g2, g3, g4, g5⟩ := hS S (by simp)
    have sb := Heap.SameBut.update h' S (Obj.mapSeq fun _ => (#[] : Array Value))
    exact hR i x vb H _ hx rx hbest (I1.turned (t' := tk') (fun b o hb e => (sb.2 b hb).trans e) hSn g1 g3 g4 g5) hE
  | succ r ih =>
    intro n i s H x y vb kb c hr hn I hE hSn hIn oS hit hx rx ry hky hbest
    have hlt : n < xs.length := by omega
    obtain ⟨its, rv, hL, _⟩ := I.list (hl H hE)
    have W := Walks.list (prog := X.prog) (w := X.w) (A := X.A.in1) (I.ok.hd hc) It0 l hlI its.toArray
    have hsz : its.toArray.size = xs.length := by rw [List.size_toArray, rv.length]
    refine codeAny_builtin PySem.F.entry_min_loop ?_
    rw [Around.under_plainId PySem.F.plain_min_loop _]
    show wpAny _ X.A.in1 (seqItems? (.ref S) >>= _) _ _ _
    refine wpAny_bind (wpAny_seqItems oS rfl ?_)
    show wpAny _ X.A.in1 (tryCatch (pyNext (.ref It0)) _ >>= _) _ _ _
    refine wpAny_bind (wpAny_tryCatch (W.item n _ _ _ (by rw [hsz]; exact hlt) ⟨hit, hL.isList⟩ fun v h' tk' hP hst' hk' => ?_))
    obtain ⟨f1, f2, f3, f4, f5⟩ := hS It0 (by simp)
    have I1 : Inv X pins σ H { s with heap := h', toks := tk' } := I.turned (t' := tk') (fun b o hb e => hk' b o (by simpa using hb) e) hIn f1 f3 f4 f5
    have oS1 := hk' S _ (by simpa using hSI) oS
    have hxn : xs[n]? = some xs[n] := by simp [hlt]
    obtain ⟨u, hu, ru⟩ := rv.get hxn
    have ev : v = u := by
      have z : its[n]? = some v := by simpa using hP
      rw [hu] at z
      exact (Option.some.inj z).symm
    subst ev
    have fpk : ∀ b ∈ [S, It0], FpOk X pins H b := fun b hb => by
      refine ⟨?_, hS b hb⟩
      rcases List.mem_cons.mp hb with rfl | hb
      · exact hSn
      · rw [List.mem_singleton.mp hb]; exact hIn
    obtain ⟨oI', hoI', hoc, hod⟩ := id hst'.1
    have I2 := I1.pinned (fp := [S, It0]) fpk fun b hb => by
      rcases List.mem_cons.mp hb with rfl | hb
      · exact ⟨_, oS1, fun v z => by cases z⟩
      · rw [List.mem_singleton.mp hb]; exact ⟨_, hoI', fun v z => by rw [hod] at z; cases z⟩
    show wpAny _ X.A.in1 (tryCatch (holding [v] (call (.ref f) [v])) _ >>= _) _ _ _
    refine wpAny_bind (wpAny_tryCatch (wpAny_holding (wpAny_mono (hkey n _ v _ _ H hxn ru I2 hE) (fun kn s3 h3 => ?_) fun _ _ z => z.elim)))
    obtain ⟨yn, H3, I3, rn, hE3, hkn⟩ := h3
    have pS := pin2 I3 (b := S) (by simp) oS1
    have pI := pin2 I3 (b := It0) (by simp) hoI'
    have hky3 : IsK H3 y (kd i) := by
      obtain ⟨t, e1, e2⟩ := hky
      exact ⟨t, e1, hE3.ob t _ e2 (fun ps z => by cases z)⟩
    have rd1 := hkn.reads I3 rn
    have rd2 := hky3.reads I3 ry
    have hcmp := PySem.W.rcLt_alike _ _ X.A.in1 s3 _ _ _ _ rd1 rd2 (by simp [kdD, PySem.W.alike, PySem.W.alikeAll]) (by simp [kdD]) (by simp [kdD, PyData.depth, PyData.depthAll]; show X.A.units + 1 + _ < cLine; omega)
    rw [kLt_eq] at hcmp
    show wpAny _ X.A.in1 (tryCatch (holding [v, kn] (richCompare .Lt kn kb >>= _)) _ >>= _) _ _ _
    refine wpAny_bind (wpAny_tryCatch (wpAny_holding (wpAny_bind (hcmp _ _ _ _ ?_))))
    refine wpAny_bind (wpAny_holding (wpAny_truthy_bool ?_))
    refine wpAny_bind (wpAny_letGo (wpAny_pure ?_))
    have I4 : Inv X pins σ H3 s3 := I3.unpinned
    obtain ⟨g1, g2, g3, g4, g5⟩ := hS S (by simp)
    by_cases hb' : kLt (kd n) (kd i) = true
    · have s1 := Heap.SameBut.update s3.heap S (Obj.mapSeq fun _ => #[v, kn])
      obtain ⟨c2, hc2⟩ : ∃ c2, (s3.heap.update S (Obj.mapSeq fun _ => #[v, kn])).get? S = some (seqObj "list" #[v, kn] c2) := ⟨_, get?_update_seq pS.1 fun _ => #[v, kn]⟩
      simp only [hb', if_true]
      refine wpAny_bind ?_
      refine wpAny_updateSeq pS.1 rfl (wpAny_bind (wpAny_letGo ?_))
      rw [hname]
      refine wpAny_pure ⟨plainId_quiet PySem.F.plain_min_loop _, ih (n + 1) n _ H3 _ yn v kn c2 (by omega) hlt (I4.turned (t' := s3.toks) (fun b o hb e => (s1.2 b hb).trans e) pS.2 g1 g3 g4 g5) (hE.trans hE3) pS.2 pI.2 hc2
        ⟨oI', (s1.2 It0 hSI.symm).trans pI.1, hoc, hod⟩ hxn ru rn hkn (hbest.better hb')⟩
    · have hbf : kLt (kd n) (kd i) = false := by simpa using hb'
      simp only [hbf, Bool.false_eq_true, if_false]
      refine wpAny_bind (wpAny_letGo ?_)
      rw [hname]
      exact wpAny_pure ⟨plainId_quiet PySem.F.plain_min_loop _, ih (n + 1) i _ H3 x y vb kb c (by omega) hlt I4 (hE.trans hE3) pS.2 pI.2 pS.1 ⟨oI', pI.1, hoc, hod⟩ hx rx ry hky3 (hbest.stay hbf)⟩
end
end Gx
/-! ## RxD -/
set_option maxHeartbeats 4000000
namespace Gx
open PySem PySem.Spec PyProof.Rows L2

section
variable {X : Cx} {T : TbL} {pins : List (Addr × Obj)} {σ : L2.St} {l f : Addr} {xs : List V} {H0 : Hp} {kd : Nat → KD} {s : Shared} {Q : Value → Shared → Prop} {E : Value → Shared → Prop}
/-- min(xs, key=f) -/
theorem min_callK (hc : X.calm = true) (hu : X.A.units + 20 < cLine) (I : Inv X pins σ H0 s) (hl : ∀ H2, Ex T H0 H2 → SqL X.K H2 l xs) (hne : 0 < xs.length) (hkey : KeyAt X T pins σ f xs H0 kd)
    (hQ : ∀ i x v H' s', xs[i]? = some x → RelV x v → Least kd i xs.length → Inv X pins σ H' s' → Ex T H0 H' → Q v s') :
    wpAny (model X.prog X.w) X.A (call (.builtin "min") [.ref l] [(Str.ofString "key", .ref f)]) Q E s := by
  have hname : (toString "min" ++ toString ".loop" : String) = "min.loop" := by decide
  obtain ⟨its, rv, hL, _⟩ := I.list (hl H0 (Ex.refl H0))
  obtain ⟨ol, hol, _⟩ := id hL.isList
  have hll : l < s.heap.objs.size := Heap.lt_size hol
  refine kmk_tree PySem.F.kind_min PySem.F.plain_min PySem.F.entry_min (kmk_min_key _ _) ?_
  show wpAny _ X.A.in1 (Builtin.Builtins.bindParams "min" ["key", "default"] 0 ⟨[], [(Str.ofString "key", .ref f)]⟩ >>= _) _ _ s
  refine wpAny_bind (wpAny_of_eq (show Builtin.Builtins.bindParams "min" ["key", "default"] 0 ⟨[], [(Str.ofString "key", .ref f)]⟩ = pure [some (.ref f), none] from rfl) ?_)
  refine wpAny_bind (wpAny_pure ?_)
  refine wpAny_bind (wpAny_pyIter_list hL.isList ?_)
  refine wpAny_bind (wpAny_newList ?_ (Nat.zero_le _))
  rw [hname]
  generalize hIt : s.heap.objs.size = It0
  have sz1 : (s.heap.push { cls := .type "list_iterator", data := .fields #[.ref l, .int 0 0] }).objs.size = It0 + 1 := by rw [Heap.size_push, hIt]
  generalize hSd : (s.heap.push { cls := .type "list_iterator", data := .fields #[.ref l, .int 0 0] }).objs.size = S
  have eS : S = It0 + 1 := by rw [← hSd, sz1]
  have gI : ((s.heap.push { cls := .type "list_iterator", data := .fields #[.ref l, .int 0 0] }).push (seqObj "list" #[] 0)).get? It0 = some { cls := .type "list_iterator", data := .fields #[.ref l, .int 0 0] } := by
    rw [← hIt]
    exact Heap.get?_push_of_some _ (Heap.get?_push_size _ rfl)
  have gS : ((s.heap.push { cls := .type "list_iterator", data := .fields #[.ref l, .int 0 0] }).push (seqObj "list" #[] 0)).get? S = some (seqObj "list" #[] 0) := by
    rw [← hSd]
    exact Heap.get?_push_size _ rfl
  have I1 : Inv X pins σ H0 { s with heap := (s.heap.push { cls := .type "list_iterator", data := .fields #[.ref l, .int 0 0] }).push (seqObj "list" #[] 0) } :=
    I.kept (t' := s.toks) fun b o e => Heap.get?_push_of_some _ (Heap.get?_push_of_some _ e)
  have hSI : S ≠ It0 := by rw [eS]; exact Nat.ne_of_gt (Nat.lt_succ_self _)
  have hlI : l ≠ It0 := by rw [← hIt]; exact Nat.ne_of_lt hll
  have hlS : l ≠ S := by rw [eS, ← hIt]; exact Nat.ne_of_lt (Nat.lt_succ_of_lt hll)
  have geI : s.heap.objs.size ≤ It0 := by rw [hIt]; exact Nat.le_refl _
  have geS : s.heap.objs.size ≤ S := by rw [eS, hIt]; exact Nat.le_succ _
  have hIn : H0 It0 = none := I.hok.fresh geI
  have hSn : H0 S = none := I.hok.fresh geS
  have fpk : ∀ b ∈ [S, It0], FpOk X pins H0 b := fun b hb => by
    rcases List.mem_cons.mp hb with rfl | hb
    · exact I.fpOk geS hSn
    · rw [List.mem_singleton.mp hb]; exact I.fpOk geI hIn
  refine wpAny_pure ⟨plainId_quiet PySem.F.plain_min_loop _, ?_⟩
  have W := Walks.list (prog := X.prog) (w := X.w) (A := X.A.in1) (I.ok.hd hc) It0 l hlI its.toArray
  have hsz : its.toArray.size = xs.length := by rw [List.size_toArray, rv.length]
  have hL1 : ((s.heap.push { cls := .type "list_iterator", data := .fields #[.ref l, .int 0 0] }).push (seqObj "list" #[] 0)).IsList l its.toArray := hL.isList.at fun o e => Heap.get?_push_of_some _ (Heap.get?_push_of_some _ e)
  refine codeAny_builtin PySem.F.entry_min_loop ?_
  rw [Around.under_plainId PySem.F.plain_min_loop _]
  show wpAny _ X.A.in1 (seqItems? (.ref S) >>= _) _ _ _
  refine wpAny_bind (wpAny_seqItems gS rfl ?_)
  show wpAny _ X.A.in1 (tryCatch (pyNext (.ref It0)) _ >>= _) _ _ _
  refine wpAny_bind (wpAny_tryCatch (W.item 0 _ _ _ (by rw [hsz]; exact hne) ⟨⟨_, gI, rfl, rfl⟩, hL1⟩ fun v h' tk' hP hst' hk' => ?_))
  obtain ⟨f0, f1, f2, f3, f4, f5⟩ := fpk It0 (by simp)
  have I2 : Inv X pins σ H0 { s with heap := h', toks := tk' } := I1.turned (t' := tk') (fun b o hb e => hk' b o (by simpa using hb) e) f0 f1 f3 f4 f5
  have oS1 := hk' S _ (by simpa using hSI) gS
  have hx0 : xs[0]? = some xs[0] := by simp [hne]
  obtain ⟨u, hu2, ru⟩ := rv.get hx0
  have ev : v = u := by
    have z : its[0]? = some v := by simpa using hP
    rw [hu2] at z
    exact (Option.some.inj z).symm
  subst ev
  obtain ⟨oI', hoI', hoc, hod⟩ := id hst'.1
  have I3 := I2.pinned (fp := [S, It0]) fpk fun b hb => by
    rcases List.mem_cons.mp hb with rfl | hb
    · exact ⟨_, oS1, fun v z => by cases z⟩
    · rw [List.mem_singleton.mp hb]; exact ⟨_, hoI', fun v z => by rw [hod] at z; cases z⟩
  show wpAny _ X.A.in1 (tryCatch (holding [v] (call (.ref f) [v])) _ >>= _) _ _ _
  refine wpAny_bind (wpAny_tryCatch (wpAny_holding (wpAny_mono (hkey 0 _ v _ _ H0 hx0 ru I3 (Ex.refl H0)) (fun kn s3 h3 => ?_) fun _ _ z => z.elim)))
  obtain ⟨yn, H3, I4, rn, hE3, hkn⟩ := h3
  have pS := pin2 I4 (b := S) (by simp) oS1
  have pI := pin2 I4 (b := It0) (by simp) hoI'
  have I5 : Inv X pins σ H3 s3 := I4.unpinned
  obtain ⟨g0, g1, g2, g3, g4, g5⟩ := fpk S (by simp)
  have s1 := Heap.SameBut.update s3.heap S (Obj.mapSeq fun _ => #[v, kn])
  obtain ⟨c2, hc2⟩ : ∃ c2, (s3.heap.update S (Obj.mapSeq fun _ => #[v, kn])).get? S = some (seqObj "list" #[v, kn] c2) := ⟨_, get?_update_seq pS.1 fun _ => #[v, kn]⟩
  show wpAny _ X.A.in1 (updateSeq S (fun _ => #[v, kn]) >>= _) _ _ _
  refine wpAny_bind ?_
  refine wpAny_updateSeq pS.1 rfl ?_
  rw [hname]
  exact wpAny_pure ⟨plainId_quiet PySem.F.plain_min_loop _, min_loopK (R := fun r s' => match r with | .ok (.ret v) => Q v s' | .ok _ => False | .error e => E e s') hc hu hSI hlI hlS (fun b hb => (fpk b hb).2) hl hkey
    (fun i x v H' s' h1 h2 h3 h4 h5 => hQ i x v H' s' h1 h2 h3 h4 h5) _ 1 0 _ H3 _ yn v kn c2 rfl hne (I5.turned (t' := s3.toks) (fun b o hb e => (s1.2 b hb).trans e) pS.2 g1 g3 g4 g5) hE3 pS.2 pI.2 hc2
    ⟨oI', (s1.2 It0 hSI.symm).trans pI.1, hoc, hod⟩ hx0 ru rn hkn ⟨Nat.lt_succ_self _, fun j hj => ⟨by
      have e : j = 0 := by omega
      rw [e]; exact kLt_irr _, fun z => absurd z (Nat.not_lt_zero j)⟩⟩⟩
end

/-! ### a lambda of one parameter -/
abbrev lEnv (X : Cx) (scope : Scope) (L f c' : Addr) : Env := PySem.W.envX (X.env.qual ++ "<lambda>") scope L f (.ref c') (cloFrom X.env.cells scope.names [])
/-- the context of its body -/
abbrev lcx (X : Cx) (s : Shared) (H : Hp) (cenv : Env) (A : Around) : Cx :=
  { X with A := A, s_0 := s, H_0 := H, env := cenv, outer := X.stack, stack := cenv :: X.stack, ex := [], fn := fun _ => false, pn := [], xe := fun _ _ => False }
structure LSc (N : List Str) (sc scope : Scope) (x : Str) (i : Nat) : Prop where
  blk : BlkOk N sc scope [(x, i)]
  co : scope.isCoroutine = false
  gen : scope.isGenerator = false
  cell : ∀ y ∈ scope.names, y.2 ≠ .cell
  loc : scope.names.lookup x = some .local

section
variable {X : Cx} {pins : List (Addr × Obj)} {σ : L2.St} {H : Hp} {s : Shared}
theorem lam_start1 {scope : Scope} {x : Str} {i : Nat} {f c' : Addr} {h' : Heap} {tk : Nat} {A : Around} {v : V} {u : Value}
    (I : Inv X pins σ H s) (ok : LSc X.N X.env.scope scope x i) (hN : X.N.Nodup) (hA1 : A.handled = none) (hA2 : A.frames = some (lEnv X scope s.heap.objs.size f c' :: X.stack)) (r : RelV v u)
    (hn : h'.Ns s.heap.objs.size (fun y => ([(x, u)] : List (Str × Value)).reverse.lookup y)) (hk : ∀ b o, s.heap.get? b = some o → h'.get? b = some o) :
    Inv (lcx X s H (lEnv X scope s.heap.objs.size f c') A) [] ((wipe σ [i]).set i (some v)) H { s with heap := h', toks := tk } := by
  have hfree : ∀ y ∈ scope.names, y.2 = .free → ∃ c, X.env.cells.lookup y.1 = some c := fun y hy e => by
    rcases ok.blk.free y hy e with k | k
    · exact I.ok.has _ (.inl k)
    · exact I.ok.has _ (.inr k)
  have cm : ∀ {y c}, (cloFrom X.env.cells scope.names []).lookup y = some c → X.env.cells.lookup y = some c := fun {y c} e => by
    rcases cloFrom_mem (PySem.mem_of_lookup e) with hm | ⟨h1, h2⟩
    · cases hm
    · obtain ⟨c1, hc1⟩ := hfree _ h1 rfl
      have hc1 : X.env.cells.lookup y = some c1 := hc1
      rw [h2, hc1]
      rfl
  have look : ∀ {y}, scope.names.lookup y = some .free → ∃ c, (cloFrom X.env.cells scope.names []).lookup y = some c := fun {y} hl =>
    mem_lookup (cloFrom_has (cells := X.env.cells) (acc := []) (PySem.mem_of_lookup hl))
  have hiN : X.N[i]? = some x := ok.blk.ix (x, i) (by simp)
  have noA : ∀ b : Addr, b ∉ (lcx X s H (lEnv X scope s.heap.objs.size f c') A).ex := fun b z => absurd (show b ∈ ([] : List Addr) from z) (by simp)
  have okL : (lcx X s H (lEnv X scope s.heap.objs.size f c') A).Ok := by
    refine ⟨I.ok.mod, ok.blk.kind, rfl, rfl, Nat.le_refl _, fun y z c e1 e2 => I.ok.inj y z c (cm e1) (cm e2), fun y hy => ?_, fun y c z _ => Bool.noConfusion z, fun _ => hA1, hA2, .inr ⟨rfl, rfl⟩,
      fun b z => absurd z (noA b), I.bs, Nat.le_trans I.ok.bsz I.sz, fun b _ _ => noA b, fun b z => absurd z (noA b), I.stack, I.stkFree⟩
    have hy : scope.names.lookup y = some .cell ∨ scope.names.lookup y = some .free := hy
    rcases hy with hy | hy
    · exact absurd rfl (ok.cell _ (PySem.mem_of_lookup hy))
    · exact look hy
  refine ⟨okL, rfl, I.bare, Un.kept hk, ⟨_, hn, fun j y w e1 e2 e3 => ?_⟩, fun y c e => ?_, I.hok.fresh (Nat.le_refl _), fun y c e => I.freeC y c (cm e), fun p hp => absurd (show p ∈ ([] : List (Addr × Obj)) ++ [] from hp) (by simp), I.hok.kept hk, by
    rw [List.length_set, wipe_length]; exact I.len⟩
  · by_cases hj : j = i
    · subst hj
      rw [hiN] at e1
      cases e1
      have hlt : j < (wipe σ [j]).length := by
        rw [wipe_length, I.len]
        exact (List.getElem?_eq_some_iff.mp hiN).1
      rw [List.getElem?_set_self hlt] at e2
      cases e2
      exact ⟨u, r, .inl ⟨ok.loc, by simp⟩⟩
    · rw [List.getElem?_set_ne (Ne.symm hj)] at e2
      obtain ⟨e2, hno⟩ := wipe_some e2
      have noOwn : ∀ k, scope.names.lookup y = some k → k = .local ∨ k = .cell → False := fun k hk' hh => by
        rcases ok.blk.own _ (PySem.mem_of_lookup hk') hh with e' | e'
        · have e' : y = x := by simpa using e'
          rw [e'] at e1
          exact hj (nodup_ix hN e1 hiN)
        · exact e' (List.mem_of_getElem? e1)
      have e3 : Vis scope y := e3
      rcases e3 with k | k | k
      · exact (noOwn _ k (.inl rfl)).elim
      · exact (noOwn _ k (.inr rfl)).elim
      · obtain ⟨m0, _, hl⟩ := I.loc
        have hv := ok.blk.free _ (PySem.mem_of_lookup k) rfl
        obtain ⟨u2, r2, q⟩ := hl j y w e1 e2 (hv.elim (fun k => .inr (.inl k)) (fun k => .inr (.inr k)))
        obtain ⟨c2, h2⟩ := look k
        refine ⟨u2, r2, .inr ⟨.inr k, c2, h2, ?_⟩⟩
        rcases q with ⟨k', _⟩ | ⟨_, c3, e', z⟩
        · have k' : X.env.scope.names.lookup y = some .local := k'
          rcases hv with k2 | k2 <;> rw [show X.env.scope.names.lookup y = _ from k2] at k' <;> cases k'
        · rw [cm h2] at e'
          cases e'
          exact z.keeps hk
  · obtain ⟨w, z⟩ := I.cell y c (cm e)
    exact ⟨w, z.keeps hk⟩

/-- it is called -/
theorem lam_call1 {scope : Scope} {x : Str} {i : Nat} {f c' : Addr} {pm ctv : Value} {params : Arguments} {body : Expr} {k : Nat} {tb : TE} {Q : VK} {v : V} {u : Value} {E : Value → Shared → Prop}
    (I : Inv X pins σ H s) (ok : LSc X.N X.env.scope scope x i) (hN : X.N.Nodup) (hr : Room (k + 3) X.A)
    (hf : s.heap.get? f = some (PySem.W.kla_obj "<lambda>" (X.env.qual ++ "<lambda>") params body scope (cloFrom X.env.cells scope.names []) pm c' ctv)) (hcd : H c' = some (LamX.CodeO c' (X.env.qual ++ "<lambda>")))
    (hbind : ∀ w, bindArgs (PySem.W.kla_fn "<lambda>" (X.env.qual ++ "<lambda>") params body scope (cloFrom X.env.cells scope.names []) pm (.ref c') ctv) ⟨[w], []⟩ = pure [(x, w)])
    (hb : ∀ (s : Shared) (H : Hp) (A : Around), Room k A → PE (lcx X s H (lEnv X scope s.heap.objs.size f c') A) body tb) (r : RelV v u) (h : tb ((wipe σ [i]).set i (some v)) H Q) :
    wpAny (model X.prog X.w) X.A.in1 (call (.ref f) [u]) (EP X pins σ Q) E s := by
  obtain ⟨⟨oc, vs, t, hoc, hdc, hvc⟩, _, _⟩ := I.hok c' _ hcd
  have rc : codeAny (model X.prog X.w) X.A.in1 (.call (.ref f) ⟨[u], []⟩) (fun r s' => match r with | .ok (.ret u') => CE X.stack X.prog X.w H s Q u' s' | _ => False) s := by
    refine PySem.W.kla_callFunE (by have := hr.dp; show X.A.depth < _; omega) hf rfl ok.co ok.gen rfl ⟨c', oc, vs, t, rfl, hoc, hdc, hvc⟩ ?_
    rw [hbind]
    refine wpAny_pure (wpAny_newFunctionEnv ok.cell (fun y hy => ?_) (fun h1 hns hsb => ⟨I.nolimit.fresh _ hsb, ?_⟩) ok.blk.kind)
    · rw [List.mem_singleton.mp hy]
      exact ok.loc
    show codeAny _ _ (.expr body (lEnv X scope s.heap.objs.size f c')) _ _
    have kp : ∀ b o, s.heap.get? b = some o → h1.get? b = some o := fun b o e => hsb.extBut b o (Nat.ne_of_lt (Heap.lt_size e)) (Heap.get?_push_of_some _ e)
    have J := lam_start1 (tk := s.toks + ([(x, u)] : List (Str × Value)).length) (A := X.A.in1.deeper (lEnv X scope s.heap.objs.size f c')) (f := f) (c' := c') I ok hN hr.hd (Around.frames_deeper I.ok.frames) r hns kp
    refine PySem.W.kla_codeExpr (wpAny_mono ((hb s H _ (((hr.mono (Nat.le_succ _)).in1).deeper _)).run [] _ _ H Q J h) (fun v' s' hq => ?_) fun e s' hq => hq.elim)
    obtain ⟨w', H', J', rv, q⟩ := hq
    exact ⟨w', H', J'.os, J'.bare, J'.base, J'.hok, rv, q⟩
  refine wpAny_call (codeAny_mono rc fun r s' hq => ?_)
  cases r with
  | error e => exact hq.elim
  | ok fl =>
    cases fl with
    | ret u' => exact I.after hq
    | next => exact hq.elim
    | brk => exact hq.elim
    | cont => exact hq.elim
end

/-- min(e, key=lambda x: body) -/
def tMinK (K : PySem.W.Frag) (T : TbL) (te tb : TE) (i : Nat) : TE := fun σ H Q => te σ H fun y H1 => ∃ (l : Addr) (xs : List V) (kd : Nat → KD), y = .ref l ∧ SqL K H1 l xs ∧ 0 < xs.length ∧ LamX.Tabs T H1 ∧
  (∀ H2, Ex T H1 H2 → SqL K H2 l xs) ∧ (∀ j x H2, xs[j]? = some x → Ex T H1 H2 → tb ((wipe σ [i]).set i (some x)) H2 fun z H3 => Ex T H2 H3 ∧ IsK H3 z (kd j)) ∧ ∀ j x H2, xs[j]? = some x → Least kd j xs.length → Ex T H1 H2 → Q x H2
section
variable {X : Cx} {T : TbL} {c P : Addr} {e body : Expr} {params : Arguments} {scope : Scope} {x : Str} {i : Nat} {p lpos kpos pos : Pos} {te tb : TE} {k : Nat}
theorem pe_minK (hr : Room (k + 3) X.A) (hgl : Gl X "min") (hm : X.mg "min" = none) (hc : X.calm = true) (hN : X.N.Nodup) (TB : LamX.TabB X.base X.mg c P) (hcode : X.env.code = .ref c) (hmT : (P, X.env.qual ++ "<lambda>") ∈ T)
    (hu : ∀ r ∈ T, r.1 = P → r.2 = X.env.qual ++ "<lambda>") (ok : LSc X.N X.env.scope scope x i) (he : PE X e te) (hb : ∀ (s : Shared) (H : Hp) (f c' : Addr) (A : Around), Room k A → PE (lcx X s H (lEnv X scope s.heap.objs.size f c') A) body tb)
    (hbind : ∀ cl pm c' ctv w, bindArgs (PySem.W.kla_fn "<lambda>" (X.env.qual ++ "<lambda>") params body scope cl pm (.ref c') ctv) ⟨[w], []⟩ = pure [(x, w)]) (hdef : defaultsOf params X.env = ([], []))
    (he1 : backTo pos (starEach [e] X.env) = (false, eval e X.env) :: backTo pos (starEach [] X.env) := by rfl) (hpl : (backTo pos (starEach [e] X.env)).any (·.1) = false := by rfl)
    (hk1 : backToKw pos (keywordEach [⟨some (Str.ofString "key"), .Lambda params body scope lpos, kpos⟩] X.env) = [(some (Str.ofString "key"), eval (.Lambda params body scope lpos) X.env >>= fun v => standAt pos >>= fun _ => pure v)] := by rfl) (hv : bootBuiltins "min" = some (.builtin "min") := by decide +kernel) :
    PE X (.Call (.Name "min" p) [e] [⟨some (Str.ofString "key"), .Lambda params body scope lpos, kpos⟩] pos) (tMinK X.K T te tb i) := by
  refine ⟨fun pins s σ H Q I h => ?_⟩
  refine wpAny_Call_Name_kw (ld_blt I hgl hm hv ?_)
  refine PyProof.Rows.callWith_kw ?_ he1 hpl (by rw [hk1]; rfl) (by rw [hk1]; rfl)
  rw [he1, hk1]
  show wpAny _ _ (spliced ((false, eval e X.env) :: backTo pos (starEach [] X.env))) _ _ s
  refine Calls.spliced_cons (thn (he.run pins s σ H _ I h) fun u s1 ⟨y, H1, I1, r1, l, xs, kd, ey, hs, hne, hT, hsE, hbody, hq⟩ => ?_)
  subst ey
  obtain rfl : u = Value.ref l := r1
  refine Calls.spliced_nil ?_
  have hfree : ∀ y ∈ scope.names, y.2 = .free → ∃ c, X.env.cells.lookup y.1 = some c := fun y hy e => by
    rcases ok.blk.free y hy e with k | k
    · exact I1.ok.has _ (.inl k)
    · exact I1.ok.has _ (.inr k)
  show wpAny _ _ (evalAll [eval (.Lambda params body scope lpos) X.env >>= fun v => standAt pos >>= fun _ => pure v]) _ _ s1
  refine wpAny_evalAll_cons (wpAny_bind (LamX.lam_make2 (T := T) I1 TB hcode hmT hu hT hdef hfree fun f c' pm ctv H2 s2 I2 hE2 hT2 of2 fn2 ffr hc2 => wpAny_bind (wpAny_standAt (wpAny_pure ?_))))
  refine wpAny_evalAll_nil ?_
  have E12 : Ex T H1 H2 := ⟨hE2, fun _ => hT2⟩
  have fL : f ≠ X.env.locals := fun z => by
    obtain ⟨m, ⟨o, es, ep, ho, hd, _⟩, _⟩ := I2.loc
    rw [← z, of2] at ho
    cases ho
    cases hd
  have ffs : f ∉ X.fs := fun z => ffr (by
    rcases I2.ok.stk with q | ⟨q, hfm⟩
    · rw [q]; exact z
    · rw [q]
      unfold frs
      rw [List.filterMap_cons, hfm]
      exact List.mem_cons_of_mem _ z)
  have I3 : Inv X (pins ++ [(f, PySem.W.kla_obj "<lambda>" (X.env.qual ++ "<lambda>") params body scope (cloFrom X.env.cells scope.names []) pm c' ctv)]) σ H2 s2 := I2.pins_of fun q hq => by
    rcases List.mem_append.mp hq with hq | hq
    · exact I2.pin q (List.mem_append_right _ hq)
    · rw [List.mem_singleton.mp hq]
      exact ⟨of2, fn2, fL, ffs, fun v z => by cases z⟩
  refine min_callK (T := T) (H0 := H2) (f := f) (kd := kd) hc (by have := hr.un; omega) I3 (fun H3 hE => hsE H3 (E12.trans hE)) hne (fun j x v pins2 s3 H3 hx rx I4 hE => ?_) fun j x v H' s' hx rx hl I' hE => ⟨x, H', I'.unpinned, rx, hq j x H' hx hl (E12.trans hE)⟩
  · have pf := I4.pin (f, PySem.W.kla_obj "<lambda>" (X.env.qual ++ "<lambda>") params body scope (cloFrom X.env.cells scope.names []) pm c' ctv) (by simp)
    have hc3 : H3 c' = some (LamX.CodeO c' (X.env.qual ++ "<lambda>")) := hE.ob c' _ hc2 LamX.codeO_ne
    refine wpAny_mono (lam_call1 (Q := fun z H4 => Ex T H3 H4 ∧ IsK H4 z (kd j)) (E := fun _ _ => False) I4 ok hN hr pf.1 hc3 (hbind _ _ _ _) (fun s H A hA => hb s H f c' A hA) rx (hbody j x H3 hx (E12.trans hE))) (fun u3 s4 h4 => ?_) fun _ _ z => z
    obtain ⟨y3, H4, I5, r5, e5, k5⟩ := h4
    exact ⟨y3, H4, I5, r5, e5, k5⟩
end
end Gx
/-! ## DvA -/
set_option maxHeartbeats 4000000
/-! Plain data, and how the heap holds it. -/
namespace Dv
open PySem PySem.Spec PyProof.Rows L2 Gx

inductive D where
  | no | bl (b : Bool) | int (i : Int) | str (s : Str) | tup (l : List D) | lst (l : List D) | dct (ks : List Int) (l : List D) | obj (C : Addr) (ks : List Str) (l : List D) | rws (l : List (List D)) | ob2 (C : Addr) (ks : List Str) (l : List D) (m : List (List D))

/-- what may change in the hands of its owner -/
def Mu : HO → Prop
  | .lst _ => True
  | .dK _ => True
  | .ins _ _ _ => True
  | _ => False
/-- nothing but a table can stand there -/
def Nw (H : Hp) (p : Addr) : Prop := ∀ o, H p = some o → ∃ ps, o = .tbl ps
theorem Nw.of {H : Hp} {p : Addr} (h : H p = none) : Nw H p := fun o e => by
  rw [h] at e
  cases e
theorem Nw.no {H : Hp} {p : Addr} {o : HO} (h : Nw H p) (e : H p = some o) (n : ∀ ps, o ≠ .tbl ps) : False := by
  obtain ⟨ps, z⟩ := h o e
  exact n ps z
theorem Nw.back {T : TbL} {H H' : Hp} {p : Addr} (e : Ex T H H') (h : Nw H' p) : Nw H p := fun o q => by
  refine Classical.byContradiction fun n => ?_
  exact h.no (e.ob p o q fun ps z => n ⟨ps, z⟩) fun ps z => n ⟨ps, z⟩
/-- all objects stay but tables, and but those of W -/
structure Mx (T : TbL) (W : List Addr) (H H' : Hp) : Prop where
  ob : ∀ a o, H a = some o → (∀ ps, o ≠ .tbl ps) → (a ∈ W → ¬ Mu o) → H' a = some o
  tb : LamX.Tabs T H → LamX.Tabs T H'
section
variable {T : TbL} {W : List Addr} {H H1 H2 : Hp}
theorem Mx.of (e : Ex T H H1) : Mx T W H H1 := ⟨fun a o h n _ => e.ob a o h n, e.tb⟩
theorem Mx.refl : Mx T W H H := Mx.of (Ex.refl H)
theorem Mx.trans (a : Mx T W H H1) (b : Mx T W H1 H2) : Mx T W H H2 := ⟨fun c o h n m => b.ob c o (a.ob c o h n m) n m, fun h => b.tb (a.tb h)⟩
theorem Mx.ex (a : Mx T [] H H1) : Ex T H H1 := ⟨fun c o h n => a.ob c o h n (fun z => by cases z), a.tb⟩
theorem Mx.sub {V : List Addr} (a : Mx T W H H1) (h : ∀ x ∈ W, x ∈ V) : Mx T V H H1 := ⟨fun c o e n m => a.ob c o e n fun z => m (h c z), a.tb⟩
/-- an object of W, or one that was not there, changes -/
theorem Mx.mut {p : Addr} {o u : HO} (hp : H p = some u) (hu : Mu u) (hW : p ∈ W) : Mx T W H (upd H p o) := by
  refine ⟨fun a v ha n m => ?_, fun ht r hr => ?_⟩
  · have ne : a ≠ p := fun z => by
      rw [z, hp] at ha
      cases ha
      exact m (by rw [z]; exact hW) hu
    rw [upd_ne ne]
    exact ha
  · obtain ⟨ps, h1, h2, h3⟩ := ht r hr
    have n1 : r.1 ≠ p := fun z => by
      rw [z, hp] at h1
      cases h1
      exact hu
    refine ⟨ps, by rw [upd_ne n1]; exact h1, h2, fun pos cv hc => ?_⟩
    obtain ⟨c, e1, e2⟩ := h3 pos cv hc
    have n2 : c ≠ p := fun z => by
      rw [z, hp] at e2
      have e3 : u = LamX.CodeO p r.2 := Option.some.inj e2
      rw [e3] at hu
      exact hu
    exact ⟨c, e1, by rw [upd_ne n2]; exact e2⟩
/-- what is new since H may change freely -/
theorem Mx.late {V : List Addr} (a : Mx T V H H1) (b : Mx T W H1 H2) (h : ∀ x ∈ W, x ∈ V ∨ Nw H x) : Mx T V H H2 := by
  refine ⟨fun c o e n m => b.ob c o (a.ob c o e n m) n fun z => ?_, fun t => b.tb (a.tb t)⟩
  rcases h c z with q | q
  · exact m q
  · exact (q.no e n).elim
end

def Kc (K : PySem.W.Frag) (a : Addr) (xs : List V) : Prop :=
  ∃ (o : Obj) (its : Array Value) (n : Nat), K.lookup a = some o ∧ o.cls = .type "list" ∧ o.dict = none ∧ o.data = .seq its n ∧ its.size ≤ sizeLine ∧ Vals xs its.toList
/-- a list that is read, none of W -/
def Lq (K : PySem.W.Frag) (W : List Addr) (H : Hp) (a : Addr) (xs : List V) : Prop := (H a = some (.lst xs) ∧ a ∉ W) ∨ (∃ o, H a = some (.frz o (.lst xs))) ∨ Kc K a xs
theorem Lq.sq {K : PySem.W.Frag} {W : List Addr} {H : Hp} {a : Addr} {xs : List V} (h : Lq K W H a xs) : SqL K H a xs := by
  rcases h with ⟨h, _⟩ | h | h
  · exact .inl (.inl h)
  · exact .inl (.inr h)
  · exact .inr h
theorem Lq.of {K : PySem.W.Frag} {H : Hp} {a : Addr} {xs : List V} (h : SqL K H a xs) : Lq K [] H a xs := by
  rcases h with (h | h) | h
  · exact .inl ⟨h, by simp⟩
  · exact .inr (.inl h)
  · exact .inr (.inr h)

mutual
def Rep (K : PySem.W.Frag) (W : List Addr) (H : Hp) : D → V → Prop
  | .no, v => v = .non
  | .bl b, v => v = .bl b
  | .int i, v => v = .int i
  | .str s, v => v = .str s
  | .tup l, v => ∃ a xs, v = .ref a ∧ SqT K H a xs ∧ Reps K W H l xs
  | .lst l, v => ∃ a xs, v = .ref a ∧ Lq K W H a xs ∧ Reps K W H l xs
  | .dct ks l, v => ∃ a kvs, v = .ref a ∧ a ∉ W ∧ H a = some (.dK kvs) ∧ kvs.map (·.1) = ks.map Sum.inl ∧ Reps K W H l (kvs.map (·.2))
  | .obj C ks l, v => ∃ a dx fs, v = .ref a ∧ a ∉ W ∧ H a = some (.ins C dx fs) ∧ fs.map (·.1) = ks ∧ Reps K W H l (fs.map (·.2))
  | .rws _, _ => False
  | .ob2 _ _ _ _, _ => False
def Reps (K : PySem.W.Frag) (W : List Addr) (H : Hp) : List D → List V → Prop
  | [], xs => xs = []
  | d :: l, xs => ∃ x r, xs = x :: r ∧ Rep K W H d x ∧ Reps K W H l r
end

section
variable {K : PySem.W.Frag} {T : TbL} {W W' : List Addr} {H H' : Hp}
theorem sqt_go {a : Addr} {xs : List V} (m : Mx T W H H') (h : SqT K H a xs) : SqT K H' a xs := by
  rcases h with (h | ⟨o, h⟩) | h
  · exact .inl (.inl (m.ob _ _ h (fun ps z => by cases z) fun _ z => z))
  · exact .inl (.inr ⟨o, m.ob _ _ h (fun ps z => by cases z) fun _ z => z⟩)
  · exact .inr h
theorem Lq.go {a : Addr} {xs : List V} (m : Mx T W H H') (hW : ∀ x ∈ W', x ∈ W ∨ Nw H x) (h : Lq K W H a xs) : Lq K W' H' a xs := by
  rcases h with ⟨h, n⟩ | ⟨o, h⟩ | h
  · refine .inl ⟨m.ob _ _ h (fun ps z => by cases z) fun z => absurd z n, fun z => ?_⟩
    rcases hW a z with q | q
    · exact n q
    · exact q.no h fun ps z => by cases z
  · exact .inr (.inl ⟨o, m.ob _ _ h (fun ps z => by cases z) fun _ z => z⟩)
  · exact .inr (.inr h)
mutual
theorem Rep.go (m : Mx T W H H') (hW : ∀ x ∈ W', x ∈ W ∨ Nw H x) : ∀ {d : D} {v : V}, Rep K W H d v → Rep K W' H' d v
  | .no, _, h => h
  | .bl _, _, h => h
  | .int _, _, h => h
  | .str _, _, h => h
  | .tup l, v, h => by
    obtain ⟨a, xs, e, h1, h2⟩ := h
    exact ⟨a, xs, e, sqt_go m h1, Reps.go m hW h2⟩
  | .lst l, v, h => by
    obtain ⟨a, xs, e, h1, h2⟩ := h
    exact ⟨a, xs, e, h1.go m hW, Reps.go m hW h2⟩
  | .dct ks l, v, h => by
    obtain ⟨a, kvs, e, n, h1, h3, h2⟩ := h
    refine ⟨a, kvs, e, fun z => ?_, m.ob _ _ h1 (fun ps z => by cases z) fun z => absurd z n, h3, Reps.go m hW h2⟩
    rcases hW a z with q | q
    · exact n q
    · exact q.no h1 fun ps z => by cases z
  | .obj C ks l, v, h => by
    obtain ⟨a, dx, fs, e, n, h1, h3, h2⟩ := h
    refine ⟨a, dx, fs, e, fun z => ?_, m.ob _ _ h1 (fun ps z => by cases z) fun z => absurd z n, h3, Reps.go m hW h2⟩
    rcases hW a z with q | q
    · exact n q
    · exact q.no h1 fun ps z => by cases z
  | .rws _, _, h => h.elim
  | .ob2 _ _ _ _, _, h => h.elim
theorem Reps.go (m : Mx T W H H') (hW : ∀ x ∈ W', x ∈ W ∨ Nw H x) : ∀ {l : List D} {xs : List V}, Reps K W H l xs → Reps K W' H' l xs
  | [], _, h => h
  | d :: l, xs, h => by
    obtain ⟨x, r, e, h1, h2⟩ := h
    exact ⟨x, r, e, Rep.go m hW h1, Reps.go m hW h2⟩
end
theorem Rep.ex {d : D} {v : V} (e : Ex T H H') (h : Rep K W H d v) : Rep K W H' d v := h.go (Mx.of e) fun _ z => .inl z
theorem Reps.ex {l : List D} {xs : List V} (e : Ex T H H') (h : Reps K W H l xs) : Reps K W H' l xs := h.go (Mx.of e) fun _ z => .inl z
theorem Rep.mx {d : D} {v : V} (e : Mx T W H H') (h : Rep K W H d v) : Rep K W H' d v := h.go e fun _ z => .inl z
theorem Reps.mx {l : List D} {xs : List V} (e : Mx T W H H') (h : Reps K W H l xs) : Reps K W H' l xs := h.go e fun _ z => .inl z
theorem Rep.less {d : D} {v : V} (h : Rep K W H d v) (hs : ∀ x ∈ W', x ∈ W) : Rep K W' H d v := h.go (T := []) Mx.refl fun x z => .inl (hs x z)
theorem Reps.less {l : List D} {xs : List V} (h : Reps K W H l xs) (hs : ∀ x ∈ W', x ∈ W) : Reps K W' H l xs := h.go (T := []) Mx.refl fun x z => .inl (hs x z)
theorem Reps.nil : Reps K W H [] [] := by rw [Reps]
theorem Reps.cons {d : D} {l : List D} {x : V} {xs : List V} (h : Rep K W H d x) (t : Reps K W H l xs) : Reps K W H (d :: l) (x :: xs) := by
  rw [Reps]
  exact ⟨x, xs, rfl, h, t⟩
theorem Reps.nil_inv {xs : List V} (h : Reps K W H [] xs) : xs = [] := by rw [Reps] at h; exact h
theorem Reps.cons_inv {d : D} {l : List D} {xs : List V} (h : Reps K W H (d :: l) xs) : ∃ x r, xs = x :: r ∧ Rep K W H d x ∧ Reps K W H l r := by rw [Reps] at h; exact h
theorem Reps.length : ∀ {l : List D} {xs : List V}, Reps K W H l xs → xs.length = l.length
  | [], _, h => by rw [h.nil_inv]; rfl
  | d :: l, _, h => by
    obtain ⟨x, r, e, _, h2⟩ := h.cons_inv
    rw [e, List.length_cons, List.length_cons, h2.length]
theorem Reps.get : ∀ {l : List D} {xs : List V} {i : Nat} {d : D}, Reps K W H l xs → l[i]? = some d → ∃ x, xs[i]? = some x ∧ Rep K W H d x
  | [], _, i, _, _, e => by simp at e
  | d :: l, _, 0, _, h, e => by
    obtain ⟨x, r, e1, h1, _⟩ := h.cons_inv
    cases e
    exact ⟨x, by rw [e1]; rfl, h1⟩
  | d :: l, _, i + 1, _, h, e => by
    obtain ⟨x, r, e1, _, h2⟩ := h.cons_inv
    obtain ⟨y, e2, r2⟩ := h2.get (i := i) (by simpa using e)
    exact ⟨y, by rw [e1]; simpa using e2, r2⟩
theorem Reps.append : ∀ {l m : List D} {xs ys : List V}, Reps K W H l xs → Reps K W H m ys → Reps K W H (l ++ m) (xs ++ ys)
  | [], _, _, _, h, g => by rw [h.nil_inv]; exact g
  | d :: l, _, _, _, h, g => by
    obtain ⟨x, r, e, h1, h2⟩ := h.cons_inv
    rw [e]
    exact .cons h1 (h2.append g)
theorem Reps.one {d : D} {x : V} (h : Rep K W H d x) : Reps K W H [d] [x] := .cons h .nil
theorem Reps.set : ∀ {l : List D} {xs : List V} (i : Nat) {d : D} {x : V}, Reps K W H l xs → Rep K W H d x → Reps K W H (l.set i d) (xs.set i x)
  | [], _, _, _, _, h, _ => by rw [h.nil_inv]; exact .nil
  | d :: l, _, 0, _, _, h, r => by
    obtain ⟨x, r1, e, h1, h2⟩ := h.cons_inv
    rw [e]
    exact .cons r h2
  | d :: l, _, i + 1, _, _, h, r => by
    obtain ⟨x, r1, e, h1, h2⟩ := h.cons_inv
    rw [e]
    exact .cons h1 (h2.set i r)
theorem Reps.take : ∀ {l : List D} {xs : List V} (n : Nat), Reps K W H l xs → Reps K W H (l.take n) (xs.take n)
  | [], _, n, h => by rw [h.nil_inv]; simp [Reps.nil]
  | d :: l, _, 0, h => by simp [Reps.nil]
  | d :: l, _, n + 1, h => by
    obtain ⟨x, r, e, h1, h2⟩ := h.cons_inv
    rw [e]
    exact .cons h1 (h2.take n)
theorem Reps.mapp {α : Type} {f : α → D} {g : α → V} : ∀ {l : List α}, (∀ a ∈ l, Rep K W H (f a) (g a)) → Reps K W H (l.map f) (l.map g)
  | [], _ => .nil
  | a :: l, h => .cons (h a (by simp)) (Reps.mapp fun b hb => h b (by simp [hb]))

/-! ### data without lists: nobody may change it -/
mutual
def imm : D → Bool
  | .no => true
  | .bl _ => true
  | .int _ => true
  | .str _ => true
  | .tup l => imms l
  | _ => false
def imms : List D → Bool
  | [] => true
  | d :: l => imm d && imms l
end
mutual
theorem Rep.imm {V0 : List Addr} : ∀ {d : D} {v : V}, Rep K W H d v → Dv.imm d = true → Rep K V0 H d v
  | .no, _, h, _ => h
  | .bl _, _, h, _ => h
  | .int _, _, h, _ => h
  | .str _, _, h, _ => h
  | .tup l, _, h, q => by
    obtain ⟨a, xs, e, h1, h2⟩ := h
    exact ⟨a, xs, e, h1, Reps.imm h2 (by simpa [Dv.imm] using q)⟩
  | .lst l, _, _, q => by simp [Dv.imm] at q
  | .dct ks l, _, _, q => by simp [Dv.imm] at q
  | .obj C ks l, _, _, q => by simp [Dv.imm] at q
  | .rws _, _, _, q => by simp [Dv.imm] at q
  | .ob2 _ _ _ _, _, _, q => by simp [Dv.imm] at q
theorem Reps.imm {V0 : List Addr} : ∀ {l : List D} {xs : List V}, Reps K W H l xs → imms l = true → Reps K V0 H l xs
  | [], _, h, _ => h
  | d :: l, _, h, q => by
    obtain ⟨x, r, e, h1, h2⟩ := h
    simp only [imms, Bool.and_eq_true] at q
    exact ⟨x, r, e, Rep.imm h1 q.1, Reps.imm h2 q.2⟩
end
theorem imms_map {α : Type} {f : α → D} {l : List α} (h : ∀ a ∈ l, imm (f a) = true) : imms (l.map f) = true := by
  induction l with
  | nil => rfl
  | cons a l ih =>
    simp only [List.map_cons, imms, Bool.and_eq_true]
    exact ⟨h a (by simp), ih fun b hb => h b (by simp [hb])⟩
theorem imms_all {l : List D} : imms l = true ↔ ∀ d ∈ l, imm d = true := by
  induction l with
  | nil => simp [imms]
  | cons a l ih => simp [imms, ih]
theorem imms_app {l m : List D} : imms (l ++ m) = (imms l && imms m) := by
  induction l with
  | nil => simp [imms]
  | cons a l ih => simp [imms, ih, Bool.and_assoc]
end

/-! ### slots -/
def Al (W : List Addr) (H : Hp) : Prop := ∀ x ∈ W, ∃ o, H x = some o ∧ ∀ ps, o ≠ .tbl ps
structure Envs (K : PySem.W.Frag) (W : List Addr) (H : Hp) (Γ : List (Option D)) (σ : L2.St) : Prop where
  len : Γ.length ≤ σ.length
  at_ : ∀ (i : Nat) (d : D), Γ[i]? = some (some d) → ∃ v, σ[i]? = some (some v) ∧ Rep K W H d v
structure Pr (K : PySem.W.Frag) (T : TbL) (W : List Addr) (H : Hp) (Γ : List (Option D)) (σ : L2.St) : Prop where
  al : Al W H
  en : Envs K W H Γ σ
  tb : LamX.Tabs T H
section
variable {K : PySem.W.Frag} {T : TbL} {W : List Addr} {H H' : Hp} {Γ : List (Option D)} {σ : L2.St}
theorem Al.ex (h : Al W H) (e : Ex T H H') : Al W H' := fun x hx =>
  let ⟨o, a, b⟩ := h x hx
  ⟨o, e.ob x o a b, b⟩
theorem Al.ne {p x : Addr} (h : Al W H) (hp : Nw H p) (hx : x ∈ W) : x ≠ p := fun e => by
  obtain ⟨o, a, n⟩ := h x hx
  rw [e] at a
  exact hp.no a n
theorem Al.nin {p : Addr} (h : Al W H) (hp : Nw H p) : p ∉ W := fun z => h.ne hp z rfl
theorem Envs.ex (h : Envs K W H Γ σ) (e : Ex T H H') : Envs K W H' Γ σ := ⟨h.len, fun i d x =>
  let ⟨v, a, b⟩ := h.at_ i d x
  ⟨v, a, b.ex e⟩⟩
theorem Pr.ex (h : Pr K T W H Γ σ) (e : Ex T H H') : Pr K T W H' Γ σ := ⟨h.al.ex e, h.en.ex e, e.tb h.tb⟩
theorem Envs.put {i : Nat} {d : D} {v : V} (h : Envs K W H Γ σ) (r : Rep K W H d v) : Envs K W H (Γ.set i (some d)) (σ.set i (some v)) := by
  refine ⟨by simpa using h.len, fun j e hj => ?_⟩
  by_cases q : i = j
  · subst q
    have hl : i < Γ.length := by
      have := (List.getElem?_eq_some_iff.mp hj).1
      simpa using this
    rw [List.getElem?_set_self hl] at hj
    cases hj
    exact ⟨v, List.getElem?_set_self (Nat.lt_of_lt_of_le hl h.len), r⟩
  · rw [List.getElem?_set_ne q] at hj
    obtain ⟨u, a, b⟩ := h.at_ j e hj
    exact ⟨u, by rw [List.getElem?_set_ne q]; exact a, b⟩
theorem Envs.wipe (h : Envs K W H Γ σ) : ∀ vs : List Nat, Envs K W H (vs.foldr (fun v g => g.set v none) Γ) (L2.wipe σ vs)
  | [] => h
  | v :: vs => by
    have ih := Envs.wipe h vs
    refine ⟨by simpa [L2.wipe] using ih.len, fun j d hj => ?_⟩
    simp only [List.foldr_cons] at hj
    by_cases q : v = j
    · subst q
      by_cases hl : v < (vs.foldr (fun v g => g.set v none) Γ).length
      · rw [List.getElem?_set_self hl] at hj
        cases hj
      · rw [List.getElem?_set, if_pos rfl, if_neg hl] at hj
        cases hj
    · rw [List.getElem?_set_ne q] at hj
      obtain ⟨u, a, b⟩ := ih.at_ j d hj
      exact ⟨u, by simp only [L2.wipe]; rw [List.getElem?_set_ne q]; exact a, b⟩
theorem Envs.sub {Δ : List (Option D)} (h : Envs K W H Γ σ) (hl : Δ.length ≤ Γ.length) (hs : ∀ (i : Nat) (d : D), Δ[i]? = some (some d) → Γ[i]? = some (some d)) : Envs K W H Δ σ :=
  ⟨Nat.le_trans hl h.len, fun i d e => h.at_ i d (hs i d e)⟩
end
end Dv
/-! ## DvB -/
set_option maxHeartbeats 4000000
/-! Judgements by data: expressions. -/
namespace Dv
open PySem PySem.Spec PyProof.Rows L2 Gx

/-! ### the widest readings -/
def rE (X : Cx) (e : Expr) : TE := fun σ H Q => ∀ (pins : List (Addr × Obj)) (s : Shared), Inv X pins σ H s → wpAny (model X.prog X.w) X.A (eval e X.env) (EP X pins σ Q) X.xe s
def rT (X : Cx) (e : Expr) : TT := fun σ H Q => ∀ (pins : List (Addr × Obj)) (s : Shared), Inv X pins σ H s → wpAny (model X.prog X.w) X.A (isTrue e X.env (eval e X.env)) (TP X pins σ Q) X.xe s
def rA (X : Cx) (es : List Expr) : TA := fun σ H Q => ∀ (pos : Pos) (pins : List (Addr × Obj)) (s : Shared), Inv X pins σ H s → wpAny (model X.prog X.w) X.A (spliced (backTo pos (starEach es X.env))) (AP X pins σ Q) X.xe s
def rW (X : Cx) (e : Expr) : TT := fun σ H Q => ∀ (whole : Sem Value) (pins : List (Addr × Obj)) (s : Shared), Inv X pins σ H s → wpAny (model X.prog X.w) X.A (isTrue e X.env whole) (TP X pins σ Q) X.xe s
theorem pe_r {X : Cx} {e : Expr} : PE X e (rE X e) := ⟨fun pins s σ H Q I h => h pins s I⟩
theorem pt_r {X : Cx} {e : Expr} : PT X e (rT X e) := ⟨fun pins s σ H Q I h => h pins s I⟩
theorem pa_r {X : Cx} {es : List Expr} : PA X es (rA X es) := ⟨fun pos pins s σ H Q I h => h pos pins s I⟩
theorem pw_r {X : Cx} {e : Expr} : PW X e (rW X e) := ⟨fun whole pins s σ H Q I h => h whole pins s I⟩
theorem of_pe {X : Cx} {e : Expr} {te : TE} {σ : L2.St} {H : Hp} {Q : VK} (p : PE X e te) (h : te σ H Q) : rE X e σ H Q := fun pins s I => p.run pins s σ H Q I h
theorem of_pt {X : Cx} {e : Expr} {te : TT} {σ : L2.St} {H : Hp} {Q : Bool → Hp → Prop} (p : PT X e te) (h : te σ H Q) : rT X e σ H Q := fun pins s I => p.run pins s σ H Q I h
theorem of_pw {X : Cx} {e : Expr} {te : TT} {σ : L2.St} {H : Hp} {Q : Bool → Hp → Prop} (p : PW X e te) (h : te σ H Q) : rW X e σ H Q := fun whole pins s I => p.run whole pins s σ H Q I h
theorem of_pa {X : Cx} {es : List Expr} {te : TA} {σ : L2.St} {H : Hp} {Q : List V → Hp → Prop} (p : PA X es te) (h : te σ H Q) : rA X es σ H Q := fun pos pins s I => p.run pos pins s σ H Q I h

/-! ### the judgements -/
def E (X : Cx) (T : TbL) (Γ : List (Option D)) (e : Expr) (d : D) : Prop := ∀ W σ H, Pr X.K T W H Γ σ → ∀ Q : VK, (∀ v H2, Ex T H H2 → Rep X.K W H2 d v → Q v H2) → rE X e σ H Q
/-- a new list -/
def N (X : Cx) (T : TbL) (Γ : List (Option D)) (e : Expr) (l : List D) : Prop := ∀ W σ H, Pr X.K T W H Γ σ → ∀ Q : VK, (∀ p xs H2, Nw H p → Ex T H H2 → H2 p = some (.lst xs) → Reps X.K (p :: W) H2 l xs → Q (.ref p) H2) → rE X e σ H Q
def B (X : Cx) (T : TbL) (Γ : List (Option D)) (e : Expr) (b : Bool) : Prop := ∀ W σ H, Pr X.K T W H Γ σ → ∀ Q : Bool → Hp → Prop, (∀ H2, Ex T H H2 → Q b H2) → rT X e σ H Q
def Bw (X : Cx) (T : TbL) (Γ : List (Option D)) (e : Expr) (b : Bool) : Prop := ∀ W σ H, Pr X.K T W H Γ σ → ∀ Q : Bool → Hp → Prop, (∀ H2, Ex T H H2 → Q b H2) → rW X e σ H Q
def As (X : Cx) (T : TbL) (Γ : List (Option D)) (es : List Expr) (l : List D) : Prop := ∀ W σ H, Pr X.K T W H Γ σ → ∀ Q : List V → Hp → Prop, (∀ vs H2, Ex T H H2 → Reps X.K W H2 l vs → Q vs H2) → rA X es σ H Q
/-- an operation on data -/
def O2 (X : Cx) (T : TbL) (r : R2) (a b d : D) : Prop := ∀ W H x y, Al W H → LamX.Tabs T H → Rep X.K W H a x → Rep X.K W H b y → ∀ Q : VK, (∀ v H2, Ex T H H2 → Rep X.K W H2 d v → Q v H2) → r x y H Q
def OC (X : Cx) (T : TbL) (r : List V → Hp → VK → Prop) (l : List D) (d : D) : Prop := ∀ W H xs, Al W H → LamX.Tabs T H → Reps X.K W H l xs → ∀ Q : VK, (∀ v H2, Ex T H H2 → Rep X.K W H2 d v → Q v H2) → r xs H Q

section
variable {X : Cx} {T : TbL} {Γ : List (Option D)} {e a b c : Expr} {es : List Expr} {d da db dc : D} {l m : List D} {pos : Pos} {i j k : Int} {p q : Bool}
theorem E.eq {d' : D} (h : E X T Γ e d) (q : d = d') : E X T Γ e d' := q ▸ h
theorem B.eq {p' : Bool} (h : B X T Γ e p) (q : p = p') : B X T Γ e p' := q ▸ h
theorem N.eq {l' : List D} (h : N X T Γ e l) (q : l = l') : N X T Γ e l' := q ▸ h
theorem n_e (h : N X T Γ e l) : E X T Γ e (.lst l) := fun W σ H P Q q => h W σ H P Q fun p xs H2 hp e h2 r => q _ H2 e ⟨p, xs, rfl, .inl ⟨h2, P.al.nin hp⟩, r.less fun x z => List.mem_cons_of_mem _ z⟩
theorem b_bw (h : Bw X T Γ e p) : B X T Γ e p := fun W σ H P Q q => fun pins s I => h W σ H P Q q (eval e X.env) pins s I

theorem e_var {i : Nat} {x : Str} (hi : Γ[i]? = some (some d)) (hN : X.N[i]? = some x) (hv : Vis X.env.scope x) (hd : (x == ("__debug__" : Str)) = false := by decide) (hcd : (x == ("__classdict__" : Str)) = false := by decide) :
    E X T Γ (.Name x pos) d := fun W σ H P Q q => by
  obtain ⟨v, h1, h2⟩ := P.en.at_ i d hi
  exact of_pe (pe_var hN hv hd hcd) ⟨v, h1, q v H (Ex.refl H) h2⟩
theorem e_int {c} : E X T Γ (.Constant (.int i) c pos) (.int i) := fun W σ H P Q q => of_pe pe_int (q _ H (Ex.refl H) rfl)
theorem e_bl {c} : E X T Γ (.Constant (.bool p) c pos) (.bl p) := fun W σ H P Q q => of_pe pe_bl (q _ H (Ex.refl H) rfl)
theorem e_no {c} : E X T Γ (.Constant .none c pos) .no := fun W σ H P Q q => of_pe pe_non (q _ H (Ex.refl H) rfl)
theorem e_str {x c} : E X T Γ (.Constant (.str x) c pos) (.str x) := fun W σ H P Q q => of_pe pe_str (q _ H (Ex.refl H) rfl)
theorem e_gint {x : Str} {u : Value} (hg : Gl X x) (hm : X.mg x = some u) (r : RelV (.int i) u) (hd : (x == ("__debug__" : Str)) = false := by decide) : E X T Γ (.Name x pos) (.int i) := fun W σ H P Q q => of_pe (pe_glob hg hm r hd) (q _ H (Ex.refl H) rfl)

theorem e_op {op : Operator} {r : R2} (ho : OpR X (binaryOp op) r) (hr : O2 X T r da db d) (ha : E X T Γ a da) (hb : E X T Γ b db) : E X T Γ (.BinOp a op b pos) d := fun W σ H P Q q =>
  of_pe (pe_op ho pe_r pe_r) (ha W σ H P _ fun x H1 e1 r1 => hb W σ H1 (P.ex e1) _ fun y H2 e2 r2 => hr W H2 x y (P.al.ex (e1.trans e2)) ((e1.trans e2).tb P.tb) (r1.ex e2) r2 Q fun v H3 e3 r3 => q v H3 ((e1.trans e2).trans e3) r3)
theorem e_cmp {op : CmpOp} {r : R2} (ho : OpR X (compareOp op) r) (hr : O2 X T r da db d) (hm : behindInMarks op b = false) (ha : E X T Γ a da) (hb : E X T Γ b db) : E X T Γ (.Compare a [op] [b] pos) d := fun W σ H P Q q =>
  of_pe (pe_cmpR ho pe_r pe_r hm) (ha W σ H P _ fun x H1 e1 r1 => hb W σ H1 (P.ex e1) _ fun y H2 e2 r2 => hr W H2 x y (P.al.ex (e1.trans e2)) ((e1.trans e2).tb P.tb) (r1.ex e2) r2 Q fun v H3 e3 r3 => q v H3 ((e1.trans e2).trans e3) r3)
theorem b_cmp {op : CmpOp} {r : R2} (ho : OpR X (compareOp op) r) (hr : O2 X T r da db (.bl p)) (hm : behindInMarks op b = false) (ha : E X T Γ a da) (hb : E X T Γ b db) : B X T Γ (.Compare a [op] [b] pos) p := fun W σ H P Q q =>
  of_pt (pt_cmpR ho pe_r pe_r hm) (ha W σ H P _ fun x H1 e1 r1 => hb W σ H1 (P.ex e1) _ fun y H2 e2 r2 => hr W H2 x y (P.al.ex (e1.trans e2)) ((e1.trans e2).tb P.tb) (r1.ex e2) r2 _ fun v H3 e3 r3 => ⟨p, r3, q H3 ((e1.trans e2).trans e3)⟩)
theorem o_I0 {g : Int → Int → Int} : O2 X T (rI0 fun i j => .int (g i j)) (.int i) (.int j) (.int (g i j)) := fun W H x y _ _ rx ry Q q => ⟨i, j, rx, ry, q _ H (Ex.refl H) rfl⟩
theorem o_I0b {g : Int → Int → Bool} : O2 X T (rI0 fun i j => .bl (g i j)) (.int i) (.int j) (.bl (g i j)) := fun W H x y _ _ rx ry Q q => ⟨i, j, rx, ry, q _ H (Ex.refl H) rfl⟩
theorem o_I {C : Int → Int → Prop} {g : Int → Int → Int} (hc : C i j) : O2 X T (rI C fun i j => .int (g i j)) (.int i) (.int j) (.int (g i j)) := fun W H x y _ _ rx ry Q q => ⟨i, j, rx, ry, hc, q _ H (Ex.refl H) rfl⟩
theorem e_add (ha : E X T Γ a (.int i)) (hb : E X T Γ b (.int j)) : E X T Γ (.BinOp a .Add b pos) (.int (i + j)) := e_op op_add o_I0 ha hb
theorem e_sub (ha : E X T Γ a (.int i)) (hb : E X T Γ b (.int j)) : E X T Γ (.BinOp a .Sub b pos) (.int (i - j)) := e_op op_sub o_I0 ha hb
theorem e_mul (ha : E X T Γ a (.int i)) (hb : E X T Γ b (.int j)) (hc : CMul i j) : E X T Γ (.BinOp a .Mult b pos) (.int (i * j)) := e_op op_mul (o_I hc) ha hb
theorem e_fdiv (ha : E X T Γ a (.int i)) (hb : E X T Γ b (.int j)) (hc : CDiv i j) : E X T Γ (.BinOp a .FloorDiv b pos) (.int (i / j)) := e_op op_fdiv (o_I hc) ha hb
theorem e_mod (ha : E X T Γ a (.int i)) (hb : E X T Γ b (.int j)) (hc : 0 < j) : E X T Γ (.BinOp a .Mod b pos) (.int (i % j)) := e_op op_mod (o_I (C := fun _ j => 0 < j) hc) ha hb
theorem e_pow (ha : E X T Γ a (.int i)) (hb : E X T Γ b (.int j)) (hc : CPow i j) : E X T Γ (.BinOp a .Pow b pos) (.int (i ^ j.toNat)) := e_op op_pow (o_I hc) ha hb
/-! comparisons of ints, as a value, as a test -/
theorem e_lt (ha : E X T Γ a (.int i)) (hb : E X T Γ b (.int j)) (hm : behindInMarks .Lt b = false := by first | exact nobehind _ (by decide) (by decide) | rfl) : E X T Γ (.Compare a [.Lt] [b] pos) (.bl (decide (i < j))) := e_cmp op_lt o_I0b hm ha hb
theorem e_le (ha : E X T Γ a (.int i)) (hb : E X T Γ b (.int j)) (hm : behindInMarks .LtE b = false := by first | exact nobehind _ (by decide) (by decide) | rfl) : E X T Γ (.Compare a [.LtE] [b] pos) (.bl (decide (i ≤ j))) := e_cmp op_le o_I0b hm ha hb
theorem e_gt (ha : E X T Γ a (.int i)) (hb : E X T Γ b (.int j)) (hm : behindInMarks .Gt b = false := by first | exact nobehind _ (by decide) (by decide) | rfl) : E X T Γ (.Compare a [.Gt] [b] pos) (.bl (decide (j < i))) := e_cmp op_gt o_I0b hm ha hb
theorem e_ge (ha : E X T Γ a (.int i)) (hb : E X T Γ b (.int j)) (hm : behindInMarks .GtE b = false := by first | exact nobehind _ (by decide) (by decide) | rfl) : E X T Γ (.Compare a [.GtE] [b] pos) (.bl (decide (j ≤ i))) := e_cmp op_ge o_I0b hm ha hb
theorem b_lt (ha : E X T Γ a (.int i)) (hb : E X T Γ b (.int j)) (hm : behindInMarks .Lt b = false := by first | exact nobehind _ (by decide) (by decide) | rfl) : B X T Γ (.Compare a [.Lt] [b] pos) (decide (i < j)) := b_cmp op_lt o_I0b hm ha hb
theorem b_le (ha : E X T Γ a (.int i)) (hb : E X T Γ b (.int j)) (hm : behindInMarks .LtE b = false := by first | exact nobehind _ (by decide) (by decide) | rfl) : B X T Γ (.Compare a [.LtE] [b] pos) (decide (i ≤ j)) := b_cmp op_le o_I0b hm ha hb
theorem b_gt (ha : E X T Γ a (.int i)) (hb : E X T Γ b (.int j)) (hm : behindInMarks .Gt b = false := by first | exact nobehind _ (by decide) (by decide) | rfl) : B X T Γ (.Compare a [.Gt] [b] pos) (decide (j < i)) := b_cmp op_gt o_I0b hm ha hb
theorem b_ge (ha : E X T Γ a (.int i)) (hb : E X T Γ b (.int j)) (hm : behindInMarks .GtE b = false := by first | exact nobehind _ (by decide) (by decide) | rfl) : B X T Γ (.Compare a [.GtE] [b] pos) (decide (j ≤ i)) := b_cmp op_ge o_I0b hm ha hb
/-! == of scalars -/
def atom : D → Option V
  | .no => some .non
  | .bl b => some (.bl b)
  | .int i => some (.int i)
  | .str s => some (.str s)
  | _ => none
theorem rep_atom {K : PySem.W.Frag} {W : List Addr} {H : Hp} {d : D} {v u : V} (h : Rep K W H d v) (ha : atom d = some u) : v = u := by
  cases d <;> first
    | (cases ha; exact h)
    | cases ha
theorem o_eq {x y : V} (hx : atom da = some x) (hy : atom db = some y) (hs : scal x y = true) : O2 X T rEq da db (.bl (decide (x = y))) := fun W H u v _ _ ru rv Q q => by
  rw [rep_atom ru hx, rep_atom rv hy]
  exact ⟨hs, q _ H (Ex.refl H) rfl⟩
theorem o_ne {x y : V} (hx : atom da = some x) (hy : atom db = some y) (hs : scal x y = true) : O2 X T rNe da db (.bl (!decide (x = y))) := fun W H u v _ _ ru rv Q q => by
  rw [rep_atom ru hx, rep_atom rv hy]
  exact ⟨hs, q _ H (Ex.refl H) rfl⟩
theorem e_eq {x y : V} (ha : E X T Γ a da) (hb : E X T Γ b db) (hx : atom da = some x := by rfl) (hy : atom db = some y := by rfl) (hs : scal x y = true := by rfl) (hm : behindInMarks .Eq b = false := by first | exact nobehind _ (by decide) (by decide) | rfl) :
    E X T Γ (.Compare a [.Eq] [b] pos) (.bl (decide (x = y))) := e_cmp op_eq (o_eq hx hy hs) hm ha hb
theorem b_eq {x y : V} (ha : E X T Γ a da) (hb : E X T Γ b db) (hx : atom da = some x := by rfl) (hy : atom db = some y := by rfl) (hs : scal x y = true := by rfl) (hm : behindInMarks .Eq b = false := by first | exact nobehind _ (by decide) (by decide) | rfl) :
    B X T Γ (.Compare a [.Eq] [b] pos) (decide (x = y)) := b_cmp op_eq (o_eq hx hy hs) hm ha hb
theorem e_ne {x y : V} (ha : E X T Γ a da) (hb : E X T Γ b db) (hx : atom da = some x := by rfl) (hy : atom db = some y := by rfl) (hs : scal x y = true := by rfl) (hm : behindInMarks .NotEq b = false := by first | exact nobehind _ (by decide) (by decide) | rfl) :
    E X T Γ (.Compare a [.NotEq] [b] pos) (.bl (!decide (x = y))) := e_cmp op_ne (o_ne hx hy hs) hm ha hb
theorem b_ne {x y : V} (ha : E X T Γ a da) (hb : E X T Γ b db) (hx : atom da = some x := by rfl) (hy : atom db = some y := by rfl) (hs : scal x y = true := by rfl) (hm : behindInMarks .NotEq b = false := by first | exact nobehind _ (by decide) (by decide) | rfl) :
    B X T Γ (.Compare a [.NotEq] [b] pos) (!decide (x = y)) := b_cmp op_ne (o_ne hx hy hs) hm ha hb
/-! is None -/
def isNo : D → Bool
  | .no => true
  | _ => false
theorem rep_isNo {K : PySem.W.Frag} {W : List Addr} {H : Hp} {d : D} {v : V} (h : Rep K W H d v) : decide (v = .non) = isNo d := by
  cases d <;> first
    | (rw [Rep] at h; exact h.elim)
    | (rw [Rep] at h; subst h; rfl)
    | (rw [Rep] at h; obtain ⟨a, r⟩ := h; simp only [isNo, decide_eq_false_iff_not]; intro z; rw [z] at r; first | (obtain ⟨_, r, _⟩ := r; exact nomatch r) | (obtain ⟨_, _, r, _⟩ := r; exact nomatch r))
theorem o_is : O2 X T (fun x y H Q => y = .non ∧ Q (.bl (decide (x = .non))) H) da .no (.bl (isNo da)) := fun W H x y _ _ rx ry Q q => ⟨ry, by rw [rep_isNo rx]; exact q _ H (Ex.refl H) rfl⟩
theorem o_isn : O2 X T (fun x y H Q => y = .non ∧ Q (.bl (!decide (x = .non))) H) da .no (.bl (!isNo da)) := fun W H x y _ _ rx ry Q q => ⟨ry, by rw [rep_isNo rx]; exact q _ H (Ex.refl H) rfl⟩
theorem e_is (ha : E X T Γ a da) (hb : E X T Γ b .no) (hm : behindInMarks .Is b = false := by first | exact nobehind _ (by decide) (by decide) | rfl) : E X T Γ (.Compare a [.Is] [b] pos) (.bl (isNo da)) := e_cmp op_isN o_is hm ha hb
theorem b_is (ha : E X T Γ a da) (hb : E X T Γ b .no) (hm : behindInMarks .Is b = false := by first | exact nobehind _ (by decide) (by decide) | rfl) : B X T Γ (.Compare a [.Is] [b] pos) (isNo da) := b_cmp op_isN o_is hm ha hb
theorem e_isn (ha : E X T Γ a da) (hb : E X T Γ b .no) (hm : behindInMarks .IsNot b = false := by first | exact nobehind _ (by decide) (by decide) | rfl) : E X T Γ (.Compare a [.IsNot] [b] pos) (.bl (!isNo da)) := e_cmp op_notN o_isn hm ha hb
theorem b_isn (ha : E X T Γ a da) (hb : E X T Γ b .no) (hm : behindInMarks .IsNot b = false := by first | exact nobehind _ (by decide) (by decide) | rfl) : B X T Γ (.Compare a [.IsNot] [b] pos) (!isNo da) := b_cmp op_notN o_isn hm ha hb

/-! chains of two comparisons -/
theorem e_chain {op op' : CmpOp} {r r' : R2} (ho : OpR X (compareOp op) r) (ho' : OpR X (compareOp op') r') (hr : O2 X T r da db (.bl p)) (hr' : p = true → O2 X T r' db dc (.bl q)) (ha : E X T Γ a da) (hb : E X T Γ b db) (hc : p = true → E X T Γ c dc)
    (hm : lastMarks [op, op'] [b, c] = false := by with_unfolding_all rfl) : E X T Γ (.Compare a [op, op'] [b, c] pos) (.bl (p && q)) := fun W σ H P Q k => by
  refine of_pe (pe_chain ho ho' pe_r pe_r pe_r hm) (ha W σ H P _ fun x H1 e1 r1 => hb W σ H1 (P.ex e1) _ fun y H2 e2 r2 => hr W H2 x y (P.al.ex (e1.trans e2)) ((e1.trans e2).tb P.tb) (r1.ex e2) r2 _ fun v H3 e3 r3 => ⟨p, r3, ?_⟩)
  have e13 := (e1.trans e2).trans e3
  cases p with
  | false => exact k _ H3 e13 rfl
  | true =>
    refine (hc rfl) W σ H3 (P.ex e13) _ fun z H4 e4 r4 => hr' rfl W H4 y z (P.al.ex (e13.trans e4)) ((e13.trans e4).tb P.tb) ((r2.ex e3).ex e4) r4 _ fun v H5 e5 r5 => ?_
    exact k _ H5 ((e13.trans e4).trans e5) r5
theorem b_chain {op op' : CmpOp} {r r' : R2} (ho : OpR X (compareOp op) r) (ho' : OpR X (compareOp op') r') (hr : O2 X T r da db (.bl p)) (hr' : p = true → O2 X T r' db dc (.bl q)) (ha : E X T Γ a da) (hb : E X T Γ b db) (hc : p = true → E X T Γ c dc)
    (hm : lastMarks [op, op'] [b, c] = false := by with_unfolding_all rfl) : B X T Γ (.Compare a [op, op'] [b, c] pos) (p && q) := fun W σ H P Q k => by
  refine of_pt (pt_chain ho ho' pe_r pe_r pe_r hm) (ha W σ H P _ fun x H1 e1 r1 => hb W σ H1 (P.ex e1) _ fun y H2 e2 r2 => hr W H2 x y (P.al.ex (e1.trans e2)) ((e1.trans e2).tb P.tb) (r1.ex e2) r2 _ fun v H3 e3 r3 => ⟨p, r3, ?_⟩)
  have e13 := (e1.trans e2).trans e3
  cases p with
  | false => exact ⟨_, rfl, k H3 e13⟩
  | true =>
    refine (hc rfl) W σ H3 (P.ex e13) _ fun z H4 e4 r4 => hr' rfl W H4 y z (P.al.ex (e13.trans e4)) ((e13.trans e4).tb P.tb) ((r2.ex e3).ex e4) r4 _ fun v H5 e5 r5 => ?_
    exact ⟨q, r5, k H5 ((e13.trans e4).trans e5)⟩

/-! and, or, not, if -/
theorem e_one {op} (h : E X T Γ a d) : E X T Γ (.BoolOp op [a] pos) d := fun W σ H P Q k => of_pe (pe_one pe_r) (h W σ H P Q k)
theorem e_and {rest : List Expr} (ha : E X T Γ a (.bl p)) (hb : p = true → E X T Γ (.BoolOp .And (b :: rest) pos) (.bl q)) : E X T Γ (.BoolOp .And (a :: b :: rest) pos) (.bl (p && q)) := fun W σ H P Q k => by
  refine of_pe (pe_and pe_r pe_r) (ha W σ H P _ fun x H1 e1 r1 => ⟨p, r1, ?_⟩)
  cases p with
  | false => exact k _ H1 e1 rfl
  | true => exact hb rfl W σ H1 (P.ex e1) _ fun v H2 e2 r2 => k v H2 (e1.trans e2) r2
theorem e_or {rest : List Expr} (ha : E X T Γ a (.bl p)) (hb : p = false → E X T Γ (.BoolOp .Or (b :: rest) pos) (.bl q)) : E X T Γ (.BoolOp .Or (a :: b :: rest) pos) (.bl (p || q)) := fun W σ H P Q k => by
  refine of_pe (pe_or pe_r pe_r) (ha W σ H P _ fun x H1 e1 r1 => ⟨p, r1, ?_⟩)
  cases p with
  | true => exact k _ H1 e1 rfl
  | false => exact hb rfl W σ H1 (P.ex e1) _ fun v H2 e2 r2 => k v H2 (e1.trans e2) r2
theorem e_not (ha : E X T Γ a (.bl p)) : E X T Γ (.UnaryOp .Not a pos) (.bl (!p)) := fun W σ H P Q k => of_pe (pe_not pe_r) (ha W σ H P _ fun x H1 e1 r1 => ⟨p, r1, k _ H1 e1 rfl⟩)
theorem b_val (h : E X T Γ e (.bl p)) (he : ∀ whole, isTrue e X.env whole = (do let v ← whole; standAt e.pos; holding [v] (truthy v)) := by intro _; rfl) : B X T Γ e p := fun W σ H P Q k =>
  of_pt (pt_val pe_r he) (h W σ H P _ fun x H1 e1 r1 => ⟨p, r1, k H1 e1⟩)
theorem b_not (ha : B X T Γ a p) : B X T Γ (.UnaryOp .Not a pos) (!p) := fun W σ H P Q k => of_pt (pt_not pt_r) (ha W σ H P _ fun H1 e1 => k H1 e1)
theorem bw_and1 (ha : B X T Γ a p) : Bw X T Γ (.BoolOp .And [a] pos) p := fun W σ H P Q k => of_pw (pw_and1 pt_r) (ha W σ H P Q k)
theorem bw_or1 (ha : B X T Γ a p) : Bw X T Γ (.BoolOp .Or [a] pos) p := fun W σ H P Q k => of_pw (pw_or1 pt_r) (ha W σ H P Q k)
theorem bw_and {rest : List Expr} (ha : B X T Γ a p) (hb : p = true → Bw X T Γ (.BoolOp .And (b :: rest) pos) q) : Bw X T Γ (.BoolOp .And (a :: b :: rest) pos) (p && q) := fun W σ H P Q k => by
  refine of_pw (pw_and pt_r pw_r) (ha W σ H P _ fun H1 e1 => ?_)
  cases p with
  | false => exact k H1 e1
  | true => exact hb rfl W σ H1 (P.ex e1) _ fun H2 e2 => k H2 (e1.trans e2)
theorem bw_or {rest : List Expr} (ha : B X T Γ a p) (hb : p = false → Bw X T Γ (.BoolOp .Or (b :: rest) pos) q) : Bw X T Γ (.BoolOp .Or (a :: b :: rest) pos) (p || q) := fun W σ H P Q k => by
  refine of_pw (pw_or pt_r pw_r) (ha W σ H P _ fun H1 e1 => ?_)
  cases p with
  | true => exact k H1 e1
  | false => exact hb rfl W σ H1 (P.ex e1) _ fun H2 e2 => k H2 (e1.trans e2)
theorem e_ifx (hc : B X T Γ c p) (ha : p = true → E X T Γ a d) (hb : p = false → E X T Γ b d) : E X T Γ (.IfExp c a b pos) d := fun W σ H P Q k => by
  refine of_pe (pe_ifExp pt_r pe_r pe_r) (hc W σ H P _ fun H1 e1 => ?_)
  cases p with
  | true => exact ha rfl W σ H1 (P.ex e1) _ fun v H2 e2 r2 => k v H2 (e1.trans e2) r2
  | false => exact hb rfl W σ H1 (P.ex e1) _ fun v H2 e2 r2 => k v H2 (e1.trans e2) r2
theorem n_ifx (hc : B X T Γ c p) (ha : p = true → N X T Γ a l) (hb : p = false → N X T Γ b l) : N X T Γ (.IfExp c a b pos) l := fun W σ H P Q k => by
  refine of_pe (pe_ifExp pt_r pe_r pe_r) (hc W σ H P _ fun H1 e1 => ?_)
  cases p with
  | true => exact ha rfl W σ H1 (P.ex e1) _ fun v xs H2 n2 e2 h2 r2 => k v xs H2 (n2.back e1) (e1.trans e2) h2 r2
  | false => exact hb rfl W σ H1 (P.ex e1) _ fun v xs H2 n2 e2 h2 r2 => k v xs H2 (n2.back e1) (e1.trans e2) h2 r2
end
end Dv
/-! ## DvC -/
set_option maxHeartbeats 4000000
/-! Judgements by data: displays, places, built-ins, calls. -/
namespace Dv
open PySem PySem.Spec PyProof.Rows L2 Gx

/-- the built-in names that the program uses are nobody's own -/
structure Fr (mg : Str → Option Value) : Prop where
  isinstance : mg "isinstance" = none
  int : mg "int" = none
  bool : mg "bool" = none
  tuple : mg "tuple" = none
  str : mg "str" = none
  list : mg "list" = none
  set : mg "set" = none
  dict : mg "dict" = none
  enumerate : mg "enumerate" = none
  len : mg "len" = none
  range : mg "range" = none
  any : mg "any" = none
  all : mg "all" = none
  sum : mg "sum" = none
  max : mg "max" = none
  min : mg "min" = none
  sorted : mg "sorted" = none

section
variable {X : Cx} {T : TbL} {Γ : List (Option D)} {e a b c : Expr} {es : List Expr} {d da db dc : D} {l m : List D} {pos p p2 : Pos} {i j k : Int} {q : Bool}
theorem as_nil : As X T Γ [] [] := fun W σ H P Q k => of_pa pa_nil (k [] H (Ex.refl H) .nil)
theorem as_cons (h : E X T Γ e d) (t : As X T Γ es l) (hs : starEach (e :: es) X.env = (false, eval e X.env) :: starEach es X.env := by rfl) : As X T Γ (e :: es) (d :: l) := fun W σ H P Q k =>
  of_pa (pa_cons pe_r pa_r hs) (h W σ H P _ fun x H1 e1 r1 => t W σ H1 (P.ex e1) _ fun xs H2 e2 r2 => k _ H2 (e1.trans e2) (.cons (r1.ex e2) r2))
theorem as_star (h : E X T Γ e (.lst m)) (t : As X T Γ es l) (hs : starEach (.Starred e p :: es) X.env = (true, eval e X.env) :: starEach es X.env := by rfl) : As X T Γ (.Starred e p :: es) (m ++ l) := fun W σ H P Q k =>
  of_pa (StX.pa_star pe_r pa_r hs) (h W σ H P _ fun x H1 e1 r1 => by
    obtain ⟨a, xs, ex, hq, hr⟩ := r1
    exact ⟨a, xs, ex, .inr hq.sq, t W σ H1 (P.ex e1) _ fun ys H2 e2 r2 => k _ H2 (e1.trans e2) ((hr.ex e2).append r2)⟩)
theorem sz_ok {n : Nat} (h : n ≤ 100000) : n ≤ sizeLine := Nat.le_trans h (by decide)
theorem e_tup {x1} (h : As X T Γ es l) (hz : l.length ≤ 100000 := by exact Nat.le_of_ble_eq_true rfl) : E X T Γ (.Tuple es x1 pos) (.tup l) := fun W σ H P Q k =>
  of_pe (pe_tup pa_r) (h W σ H P _ fun xs H1 e1 r1 => ⟨by rw [r1.length]; exact sz_ok hz, fun p hp => k _ _ (e1.trans (Ex.new hp)) ⟨p, xs, rfl, .inl (.inl upd_same), r1.ex (T := T) (Ex.new hp)⟩⟩)
theorem n_lst (h : As X T Γ es l) (hz : l.length ≤ 100000 := by exact Nat.le_of_ble_eq_true rfl) : N X T Γ (.List es pos) l := fun W σ H P Q k =>
  of_pe (pe_lst pa_r) (h W σ H P _ fun xs H1 e1 r1 => ⟨by rw [r1.length]; exact sz_ok hz, fun p hp => k p xs _ ((Nw.of hp).back e1) (e1.trans (Ex.new hp)) upd_same (r1.go (T := T) (Mx.of (Ex.new hp)) fun x z => by
    rcases List.mem_cons.mp z with z | z
    · exact .inr (z ▸ Nw.of hp)
    · exact .inl z)⟩)

/-! places -/
theorem Reps.atI {K : PySem.W.Frag} {W : List Addr} {H : Hp} {xs : List V} (r : Reps K W H l xs) (h : L2.atI l i = some d) : ∃ x, L2.atI xs i = some x ∧ Rep K W H d x := by
  unfold L2.atI at h ⊢
  rw [r.length]
  cases e : ixN l.length i with
  | none => rw [e] at h; cases h
  | some j =>
    rw [e] at h
    exact r.get h
theorem e_ixT (ha : E X T Γ a (.tup l)) (hb : E X T Γ b (.int i)) (h : atI l i = some d) (hs : PlainIx b := by intro _ _; rfl) : E X T Γ (.Subscript a b pos) d := fun W σ H P Q k =>
  of_pe (pe_ix ix_tup pe_r pe_r hs) (ha W σ H P _ fun x H1 e1 r1 => hb W σ H1 (P.ex e1) _ fun y H2 e2 r2 => by
    obtain ⟨p, xs, ex, hq, hr⟩ := r1
    obtain ⟨v, hv, rv⟩ := hr.atI h
    exact ⟨p, xs, i, v, ex, r2, sqt_go (T := T) (W := []) (Mx.of e2) hq, hv, k v H2 (e1.trans e2) (rv.ex e2)⟩)
theorem e_ixL (ha : E X T Γ a (.lst l)) (hb : E X T Γ b (.int i)) (h : atI l i = some d) (hs : PlainIx b := by intro _ _; rfl) : E X T Γ (.Subscript a b pos) d := fun W σ H P Q k =>
  of_pe (pe_ix ix_list pe_r pe_r hs) (ha W σ H P _ fun x H1 e1 r1 => hb W σ H1 (P.ex e1) _ fun y H2 e2 r2 => by
    obtain ⟨p, xs, ex, hq, hr⟩ := r1
    obtain ⟨v, hv, rv⟩ := hr.atI h
    exact ⟨p, xs, i, v, ex, r2, (hq.go (T := T) (Mx.of e2) fun x z => .inl z).sq, hv, k v H2 (e1.trans e2) (rv.ex e2)⟩)
/-- a dict of ints: what stands at a key -/
def dAt : List Int → List D → Int → Option D
  | k :: ks, d :: l, i => if k = i then some d else dAt ks l i
  | _, _, _ => none
theorem dAt_rep {K : PySem.W.Frag} {W : List Addr} {H : Hp} {i : Int} : ∀ {ks : List Int} {l : List D} {kvs : List (Key × V)}, kvs.map (·.1) = ks.map Sum.inl → Reps K W H l (kvs.map (·.2)) → (∀ {d : D}, dAt ks l i = some d → ∃ v, valV kvs (.inl i) = some v ∧ Rep K W H d v) ∧ (dAt ks l i = none → valV kvs (.inl i) = none)
  | [], l, [], _, _ => ⟨fun h => absurd h (by simp [dAt]), fun _ => rfl⟩
  | [], _, _ :: _, e, _ => by simp at e
  | _ :: _, _, [], e, _ => by simp at e
  | k :: ks, [], (k', v) :: kvs, _, r => by simp at r; have := r.nil_inv; simp at this
  | k :: ks, d0 :: l, (k', v) :: kvs, e, r => by
    simp only [List.map_cons, List.cons.injEq] at e
    obtain ⟨x, rr, e2, rx, rt⟩ := (show Reps K W H (d0 :: l) (v :: kvs.map (·.2)) from r).cons_inv
    cases e2
    have ih := dAt_rep (i := i) e.2 rt
    by_cases z : k = i
    · refine ⟨fun {d} h => ⟨v, valV_pos (by rw [e.1, z]), ?_⟩, fun h => ?_⟩
      · unfold dAt at h
        rw [if_pos z] at h
        cases h
        exact rx
      · unfold dAt at h
        rw [if_pos z] at h
        cases h
    · have hv : valV ((k', v) :: kvs) (Sum.inl i) = valV kvs (.inl i) := by
        have n : ¬ ((k' : Key) = Sum.inl i) := fun y => z (Sum.inl.inj (e.1.symm.trans y))
        simp [valV, List.find?_cons, n]
      rw [hv]
      unfold dAt
      rw [if_neg z]
      exact ih
theorem e_ixD {ks : List Int} (hu : X.A.units + 1 < cLine) (ha : E X T Γ a (.dct ks l)) (hb : E X T Γ b (.int i)) (h : dAt ks l i = some d) (hs : NoSl b) : E X T Γ (.Subscript a b pos) d := fun W σ H P Q k =>
  of_pe (pe_dget hu pe_r pe_r hs) (ha W σ H P _ fun x H1 e1 r1 => hb W σ H1 (P.ex e1) _ fun y H2 e2 r2 => by
    obtain ⟨p, kvs, ex, hn, hq, hk, hr⟩ := r1
    obtain ⟨v, hv, rv⟩ := (dAt_rep hk hr).1 h
    exact ⟨p, v, ex, .inl ⟨kvs, .inl i, .inl (e2.ob _ _ hq fun ps z => by cases z), r2, hv.symm⟩, k v H2 (e1.trans e2) (rv.ex e2)⟩)

/-! built-ins by values -/
theorem e_callB {id : String} {r : List V → Hp → VK → Prop} {x : Str} (hc : CallR X (.builtin id) r) (hr : OC X T r l d) (hg : Gl X x) (hm : X.mg x = none) (hv : bootBuiltins x = some (.builtin id)) (ha : As X T Γ (e :: es) l) (hn : x ≠ "__name__" := by decide) (hdb : (x == ("__debug__" : Str)) = false := by decide)
    (he : starEach (e :: es) X.env = (false, eval e X.env) :: starEach es X.env := by rfl) (hpl : (backTo pos (starEach es X.env)).any (·.1) = false := by rfl) : E X T Γ (.Call (.Name x p) (e :: es) [] pos) d := fun W σ H P Q k =>
  of_pe (pe_callB hc hg hm hv pa_r hn hdb he hpl) (ha W σ H P _ fun vs H1 e1 r1 => hr W H1 vs (P.al.ex e1) (e1.tb P.tb) r1 Q fun v H2 e2 r2 => k v H2 (e1.trans e2) r2)
theorem e_callTy {ty : String} {r : List V → Hp → VK → Prop} {x : Str} (hc : CallR X (.type ty) r) (hr : OC X T r l d) (hg : Gl X x) (hm : X.mg x = none) (hv : bootBuiltins x = some (.type ty)) (ha : As X T Γ (e :: es) l) (hn : x ≠ "__name__" := by decide) (hdb : (x == ("__debug__" : Str)) = false := by decide)
    (he : starEach (e :: es) X.env = (false, eval e X.env) :: starEach es X.env := by rfl) (hpl : (backTo pos (starEach es X.env)).any (·.1) = false := by rfl) : E X T Γ (.Call (.Name x p) (e :: es) [] pos) d := fun W σ H P Q k =>
  of_pe (pe_callTy hc hg hm hv pa_r hn hdb he hpl) (ha W σ H P _ fun vs H1 e1 r1 => hr W H1 vs (P.al.ex e1) (e1.tb P.tb) r1 Q fun v H2 e2 r2 => k v H2 (e1.trans e2) r2)
theorem Reps.one_inv {K : PySem.W.Frag} {W : List Addr} {H : Hp} {xs : List V} (r : Reps K W H [d] xs) : ∃ x, xs = [x] ∧ Rep K W H d x := by
  obtain ⟨x, t, e, h, n⟩ := r.cons_inv
  rw [n.nil_inv] at e
  exact ⟨x, e, h⟩
theorem Reps.two_inv {K : PySem.W.Frag} {W : List Addr} {H : Hp} {xs : List V} (r : Reps K W H [da, db] xs) : ∃ x y, xs = [x, y] ∧ Rep K W H da x ∧ Rep K W H db y := by
  obtain ⟨x, t, e, h, n⟩ := r.cons_inv
  obtain ⟨y, e2, h2⟩ := n.one_inv
  rw [e2] at e
  exact ⟨x, y, e, h, h2⟩
/-- len of a list, a tuple -/
def seqOf : D → Option (List D)
  | .tup l => some l
  | .lst l => some l
  | _ => none
theorem seq_len {K : PySem.W.Frag} {W : List Addr} {H : Hp} {x : V} (h : Rep K W H d x) (hs : seqOf d = some l) : LenV K x H l.length := by
  cases d <;> first
    | (cases hs; done)
    | (cases hs
       rw [Rep] at h
       obtain ⟨a, xs, rfl, hq, hr⟩ := h
       first
         | exact .inr ⟨xs, hq, hr.length.symm⟩
         | exact .inl ⟨xs, hq.sq, hr.length.symm⟩)
theorem e_len (fr : Fr X.mg) (ha : E X T Γ a d) (hs : seqOf d = some l := by rfl) (hg : Gl X "len" := by rfl) (h1 : starEach [a] X.env = (false, eval a X.env) :: starEach [] X.env := by rfl) (hpl : (backTo pos (starEach [] X.env)).any (·.1) = false := by rfl) :
    E X T Γ (.Call (.Name "len" p) [a] [] pos) (.int l.length) :=
  e_callB call_len (fun W H xs _ _ r Q k => by
    obtain ⟨x, e, h⟩ := r.one_inv
    exact ⟨x, l.length, e, seq_len h hs, k _ H (Ex.refl H) rfl⟩) hg fr.len boot_len (as_cons ha as_nil h1) (by decide) (by decide) h1 hpl
/-- isinstance(x, c) -/
def tyD : D → Option String
  | .no => some "NoneType"
  | .bl _ => some "bool"
  | .int _ => some "int"
  | .str _ => some "str"
  | .tup _ => some "tuple"
  | .lst _ => some "list"
  | .dct _ _ => some "dict"
  | _ => none
theorem ty_rep {K : PySem.W.Frag} {W : List Addr} {H : Hp} {x : V} {t : String} (h : Rep K W H d x) (ht : tyD d = some t) : TyX K H x (.type t) := by
  cases d with
  | no => cases ht; rw [Rep] at h; subst h; exact .base .non
  | bl z => cases ht; rw [Rep] at h; subst h; exact .base (.bl _)
  | int z => cases ht; rw [Rep] at h; subst h; exact .base (.int _)
  | str z => cases ht; rw [Rep] at h; subst h; exact .base (.str _)
  | tup l =>
    cases ht
    rw [Rep] at h
    obtain ⟨a, xs, rfl, hq, _⟩ := h
    rcases hq with (hq | ⟨o, hq⟩) | ⟨o, its, n, h1, h2, _⟩
    · exact .base (.tup hq)
    · exact .fTuple hq
    · exact .kTuple h1 h2
  | lst l =>
    cases ht
    rw [Rep] at h
    obtain ⟨a, xs, rfl, hq, _⟩ := h
    rcases hq with ⟨hq, _⟩ | ⟨o, hq⟩ | ⟨o, its, n, h1, h2, _⟩
    · exact .base (.lst hq)
    · exact .base (.frz hq)
    · exact .kList h1 h2
  | dct ks l =>
    cases ht
    rw [Rep] at h
    obtain ⟨a, kvs, rfl, _, hq, _⟩ := h
    exact .base (.dK hq)
  | obj C ks l => cases ht
  | rws l => cases ht
  | ob2 C ks l m => cases ht
theorem e_isi {t u : String} {n : Str} (fr : Fr X.mg) (ha : E X T Γ a d) (hc : X.mg n = none) (ht : tyD d = some t) (hk : PySem.W.kitOne X.K (.type t) (.type u) = some q) (hgn : Gl X n := by rfl) (hv : bootBuiltins n = some (.type u) := by decide +kernel) (hg : Gl X "isinstance" := by rfl)
    (hn : n ≠ "__name__" := by decide) (hdb : (n == ("__debug__" : Str)) = false := by decide)
    (h1 : starEach [a, .Name n p2] X.env = (false, eval a X.env) :: starEach [.Name n p2] X.env := by rfl) (h2 : starEach [.Name n p2] X.env = (false, eval (.Name n p2) X.env) :: starEach [] X.env := by rfl) (hpl : (backTo pos (starEach [.Name n p2] X.env)).any (·.1) = false := by rfl) :
    E X T Γ (.Call (.Name "isinstance" p) [a, .Name n p2] [] pos) (.bl q) := fun W σ H P Q k =>
  of_pe (pe_callB (t := tCons (rE X a) (tCons (tC (.ty u)) tNil)) call_isi hg fr.isinstance boot_isinstance (pa_cons pe_r (pa_cons (pe_bltn hgn hc hv rfl hn hdb) pa_nil h2) h1) (by decide) (by decide) h1 hpl)
    (ha W σ H P _ fun x H1 e1 r1 => ⟨x, .ty u, .type t, .type u, q, rfl, .ty u, ty_rep r1 ht, hk, k _ H1 e1 rfl⟩)
/-- int(x) of an int, a bool -/
theorem e_intI (fr : Fr X.mg) (ha : E X T Γ a (.int i)) (hg : Gl X "int" := by rfl) (h1 : starEach [a] X.env = (false, eval a X.env) :: starEach [] X.env := by rfl) (hpl : (backTo pos (starEach [] X.env)).any (·.1) = false := by rfl) (hv : bootBuiltins "int" = some (.type "int") := by decide +kernel) :
    E X T Γ (.Call (.Name "int" p) [a] [] pos) (.int i) :=
  e_callTy call_int1 (fun W H xs _ _ r Q k => by
    obtain ⟨x, e, h⟩ := r.one_inv
    rw [Rep] at h
    subst h
    exact .inl ⟨i, e, k _ H (Ex.refl H) rfl⟩) hg fr.int hv (as_cons ha as_nil h1) (by decide) (by decide) h1 hpl
theorem e_intB (fr : Fr X.mg) (ha : E X T Γ a (.bl q)) (hg : Gl X "int" := by rfl) (h1 : starEach [a] X.env = (false, eval a X.env) :: starEach [] X.env := by rfl) (hpl : (backTo pos (starEach [] X.env)).any (·.1) = false := by rfl) (hv : bootBuiltins "int" = some (.type "int") := by decide +kernel) :
    E X T Γ (.Call (.Name "int" p) [a] [] pos) (.int (if q then 1 else 0)) :=
  e_callTy call_int1 (fun W H xs _ _ r Q k => by
    obtain ⟨x, e, h⟩ := r.one_inv
    rw [Rep] at h
    subst h
    exact .inr ⟨q, e, k _ H (Ex.refl H) rfl⟩) hg fr.int hv (as_cons ha as_nil h1) (by decide) (by decide) h1 hpl
/-- min, max of two ints -/
theorem e_max2 (fr : Fr X.mg) (hc : X.calm = true) (ha : As X T Γ [a, b] [.int i, .int j]) (hg : Gl X "max" := by rfl) (h1 : starEach [a, b] X.env = (false, eval a X.env) :: starEach [b] X.env := by rfl) (hpl : (backTo pos (starEach [b] X.env)).any (·.1) = false := by rfl) (hv : bootBuiltins "max" = some (.builtin "max") := by decide +kernel) :
    E X T Γ (.Call (.Name "max" p) [a, b] [] pos) (.int (max i j)) :=
  e_callB (call_max2 hc) (fun W H xs _ _ r Q k => by
    obtain ⟨x, y, e, hx, hy⟩ := r.two_inv
    rw [Rep] at hx hy
    subst hx hy
    refine ⟨i, j, e, k _ H (Ex.refl H) ?_⟩
    have : (if j > i then j else i) = max i j := by
      rw [Int.max_def]
      split <;> split <;> omega
    rw [this]
    rfl) hg fr.max hv ha (by decide) (by decide) h1 hpl
theorem e_min2 (fr : Fr X.mg) (hc : X.calm = true) (ha : As X T Γ [a, b] [.int i, .int j]) (hg : Gl X "min" := by rfl) (h1 : starEach [a, b] X.env = (false, eval a X.env) :: starEach [b] X.env := by rfl) (hpl : (backTo pos (starEach [b] X.env)).any (·.1) = false := by rfl) (hv : bootBuiltins "min" = some (.builtin "min") := by decide +kernel) :
    E X T Γ (.Call (.Name "min" p) [a, b] [] pos) (.int (min i j)) :=
  e_callB (call_min2 hc) (fun W H xs _ _ r Q k => by
    obtain ⟨x, y, e, hx, hy⟩ := r.two_inv
    rw [Rep] at hx hy
    subst hx hy
    refine ⟨i, j, e, k _ H (Ex.refl H) ?_⟩
    have : (if j < i then j else i) = min i j := by
      rw [Int.min_def]
      split <;> split <;> omega
    rw [this]
    rfl) hg fr.min hv ha (by decide) (by decide) h1 hpl
/-- min, max of a list of ints -/
theorem ints_rep {K : PySem.W.Frag} {W : List Addr} {H : Hp} : ∀ {ns : List Int} {xs : List V}, Reps K W H (ns.map D.int) xs → xs = ns.map V.int
  | [], _, h => h.nil_inv
  | n :: ns, _, h => by
    obtain ⟨x, r, e, hx, hr⟩ := (show Reps K W H (D.int n :: ns.map D.int) _ from h).cons_inv
    rw [Rep] at hx
    subst hx
    rw [e, ints_rep hr]
    rfl
theorem rep_ints {K : PySem.W.Frag} {W : List Addr} {H : Hp} : ∀ {ns : List Int}, Reps K W H (ns.map D.int) (ns.map V.int)
  | [] => .nil
  | n :: ns => .cons (d := .int n) (by rw [Rep]) rep_ints
def IsMin (ns : List Int) (m : Int) : Prop := m ∈ ns ∧ ∀ y ∈ ns, m ≤ y
def IsMax (ns : List Int) (m : Int) : Prop := m ∈ ns ∧ ∀ y ∈ ns, y ≤ m
theorem e_minL {ns : List Int} (fr : Fr X.mg) (hc : X.calm = true) (ha : E X T Γ a (.lst (ns.map D.int))) (hm : IsMin ns i) (hg : Gl X "min" := by rfl) (h1 : starEach [a] X.env = (false, eval a X.env) :: starEach [] X.env := by rfl) (hpl : (backTo pos (starEach [] X.env)).any (·.1) = false := by rfl) (hv : bootBuiltins "min" = some (.builtin "min") := by decide +kernel) :
    E X T Γ (.Call (.Name "min" p) [a] [] pos) (.int i) :=
  e_callB (cr_min hc) (fun W H xs _ _ r Q k => by
    obtain ⟨x, e, h⟩ := r.one_inv
    rw [Rep] at h
    obtain ⟨l, ys, rfl, hq, hr⟩ := h
    rw [ints_rep hr] at hq
    refine ⟨l, ns, e, hq.sq, List.length_pos_of_mem hm.1, fun m h1 h2 => k _ H (Ex.refl H) ?_⟩
    have e3 : m = i := Int.le_antisymm (h2 i hm.1) (hm.2 m h1)
    rw [e3]
    rfl) hg fr.min hv (as_cons ha as_nil h1) (by decide) (by decide) h1 hpl
theorem e_maxL {ns : List Int} (fr : Fr X.mg) (hc : X.calm = true) (ha : E X T Γ a (.lst (ns.map D.int))) (hm : IsMax ns i) (hg : Gl X "max" := by rfl) (h1 : starEach [a] X.env = (false, eval a X.env) :: starEach [] X.env := by rfl) (hpl : (backTo pos (starEach [] X.env)).any (·.1) = false := by rfl) (hv : bootBuiltins "max" = some (.builtin "max") := by decide +kernel) :
    E X T Γ (.Call (.Name "max" p) [a] [] pos) (.int i) :=
  e_callB (cr_max hc) (fun W H xs _ _ r Q k => by
    obtain ⟨x, e, h⟩ := r.one_inv
    rw [Rep] at h
    obtain ⟨l, ys, rfl, hq, hr⟩ := h
    rw [ints_rep hr] at hq
    refine ⟨l, ns, e, hq.sq, List.length_pos_of_mem hm.1, fun m h1 h2 => k _ H (Ex.refl H) ?_⟩
    have e3 : m = i := Int.le_antisymm (hm.2 m h1) (h2 i hm.1)
    rw [e3]
    rfl) hg fr.max hv (as_cons ha as_nil h1) (by decide) (by decide) h1 hpl
/-- tuple(list) -/
theorem e_tupL (fr : Fr X.mg) (ha : E X T Γ a (.lst l)) (hg : Gl X "tuple" := by rfl) (h1 : starEach [a] X.env = (false, eval a X.env) :: starEach [] X.env := by rfl) (hpl : (backTo pos (starEach [] X.env)).any (·.1) = false := by rfl) (hv : bootBuiltins "tuple" = some (.type "tuple") := by decide +kernel) :
    E X T Γ (.Call (.Name "tuple" p) [a] [] pos) (.tup l) :=
  e_callTy call_tuple_of (fun W H xs _ _ r Q k => by
    obtain ⟨x, e, h⟩ := r.one_inv
    rw [Rep] at h
    obtain ⟨t, ys, rfl, hq, hr⟩ := h
    exact ⟨t, ys, e, .inl ⟨hq.sq, fun p hp => k _ _ (Ex.new hp) ⟨p, ys, rfl, .inl (.inl upd_same), hr.ex (T := T) (Ex.new hp)⟩⟩⟩) hg fr.tuple hv (as_cons ha as_nil h1) (by decide) (by decide) h1 hpl

/-! in -/
theorem reps_atoms {K : PySem.W.Frag} {W : List Addr} {H : Hp} : ∀ {l : List D} {xs us : List V}, Reps K W H l xs → l.map atom = us.map some → xs = us
  | [], _, us, h, e => by
    cases us with
    | nil => exact h.nil_inv
    | cons _ _ => cases e
  | d :: l, _, us, h, e => by
    obtain ⟨x, r, ex, hx, hr⟩ := h.cons_inv
    cases us with
    | nil => cases e
    | cons u us =>
      simp only [List.map_cons, List.cons.injEq] at e
      rw [ex, rep_atom hx e.1, reps_atoms hr e.2]
theorem o_in {x : V} {xs : List V} (hs : seqOf db = some l) (hx : atom da = some x) (hl : l.map atom = xs.map some) (hfx : flatV x = true) (hfl : xs.all flatV = true) : O2 X T (rIn X.K false) da db (.bl (inV x xs)) := fun W H u v _ _ ru rv Q k => by
  rw [rep_atom ru hx]
  cases db <;> first
    | (cases hs; done)
    | (cases hs
       rw [Rep] at rv
       obtain ⟨a, ys, rfl, hq, hr⟩ := rv
       rw [reps_atoms hr hl] at hq
       first
         | exact ⟨a, xs, rfl, .inr hq, hfx, hfl, k _ H (Ex.refl H) rfl⟩
         | exact ⟨a, xs, rfl, .inl hq.sq, hfx, hfl, k _ H (Ex.refl H) rfl⟩)
theorem o_nin {x : V} {xs : List V} (hs : seqOf db = some l) (hx : atom da = some x) (hl : l.map atom = xs.map some) (hfx : flatV x = true) (hfl : xs.all flatV = true) : O2 X T (rIn X.K true) da db (.bl (!inV x xs)) := fun W H u v _ _ ru rv Q k => by
  rw [rep_atom ru hx]
  cases db <;> first
    | (cases hs; done)
    | (cases hs
       rw [Rep] at rv
       obtain ⟨a, ys, rfl, hq, hr⟩ := rv
       rw [reps_atoms hr hl] at hq
       first
         | exact ⟨a, xs, rfl, .inr hq, hfx, hfl, k _ H (Ex.refl H) rfl⟩
         | exact ⟨a, xs, rfl, .inl hq.sq, hfx, hfl, k _ H (Ex.refl H) rfl⟩)
end
end Dv
/-! ## DvD -/
set_option maxHeartbeats 4000000
/-! Judgements by data: promises, fields, what is walked, targets. -/
namespace Dv
open PySem PySem.Spec PyProof.Rows L2 Gx

/-! ### promises -/
def spP (K : PySem.W.Frag) (T : TbL) (R : List D → D → Prop) : Sp := fun vs H Q _ => ∃ W ds d, R ds d ∧ Al W H ∧ LamX.Tabs T H ∧ Reps K W H ds vs ∧ ∀ v H', Ex T H H' → Rep K W H' d v → Q v H'
def FnC (P : Program) (w : World) (K : PySem.W.Frag) (mg : Str → Option Value) (base : Heap) (T : TbL) (x : Str) (lv : Nat) (R : List D → D → Prop) : Prop :=
  ∃ f fd ps, mg x = some (.ref f) ∧ PySem.W.keepIn K (.ref f) = true ∧ Binds K fd ps [] ∧ FnOk P w K mg base CX0 lv f fd ps (spP K T R)
def MtC (P : Program) (w : World) (K : PySem.W.Frag) (mg : Str → Option Value) (base : Heap) (T : TbL) (C : Addr) (x : Str) (lv : Nat) (R : List D → D → Prop) : Prop :=
  ∃ f fd ps, Cls K C ∧ Meth K C x f ∧ Binds K fd ps [] ∧ FnOk P w K mg base CX0 lv f fd ps (spP K T R)
/-- what stands at a field -/
def fAt (f : Str) : List Str → List D → Option D
  | k :: ks, d :: l => if (f == k) = true then some d else fAt f ks l
  | _, _ => none
theorem fAt_rep {K : PySem.W.Frag} {W : List Addr} {H : Hp} {f : Str} {d : D} : ∀ {ks : List Str} {l : List D} {fs : List (Str × V)}, fs.map (·.1) = ks → Reps K W H l (fs.map (·.2)) → fAt f ks l = some d → ∃ v, fs.lookup f = some v ∧ Rep K W H d v
  | [], l, _, _, _, h => by cases l <;> cases h
  | k :: ks, [], _, _, _, h => by cases h
  | k :: ks, d0 :: l, [], e, _, _ => by simp at e
  | k :: ks, d0 :: l, (k', v) :: fs, e, r, h => by
    simp only [List.map_cons, List.cons.injEq] at e
    obtain ⟨x, rr, e2, rx, rt⟩ := (show Reps K W H (d0 :: l) (v :: fs.map (·.2)) from r).cons_inv
    cases e2
    rw [← e.1] at h
    unfold fAt at h
    rw [List.lookup_cons]
    by_cases z : (f == k') = true
    · rw [if_pos z] at h
      cases h
      rw [z]
      exact ⟨v, rfl, rx⟩
    · rw [if_neg z] at h
      rw [Bool.eq_false_iff.mpr z]
      exact fAt_rep e.2 rt h
theorem fNo_rep {f : Str} : ∀ {ks : List Str} {fs : List (Str × V)}, fs.map (·.1) = ks → (ks.any fun k => f == k) = false → fs.lookup f = none
  | [], fs, e, _ => by
    cases fs with
    | nil => rfl
    | cons _ _ => simp at e
  | k :: ks, [], e, _ => by simp at e
  | k :: ks, (k', v) :: fs, e, h => by
    simp only [List.map_cons, List.cons.injEq] at e
    simp only [List.any_cons, Bool.or_eq_false_iff] at h
    rw [List.lookup_cons, e.1, h.1]
    exact fNo_rep e.2 h.2

section
variable {X : Cx} {T : TbL} {Γ : List (Option D)} {e a b c o : Expr} {es : List Expr} {d da db dc : D} {l m ds : List D} {pos p p2 apos : Pos} {i j k : Int} {q : Bool}
theorem e_call {x : Str} {lv : Nat} {R : List D → D → Prop} (F : FnC X.prog X.w X.K X.mg X.base T x lv R) (hr : Room lv X.A) (ha : As X T Γ (e :: es) ds) (h : R ds d) (hg : Gl X x := by rfl) (hdb : (x == ("__debug__" : Str)) = false := by decide)
    (he : starEach (e :: es) X.env = (false, eval e X.env) :: starEach es X.env := by rfl) (hpl : (backTo pos (starEach es X.env)).any (·.1) = false := by rfl) : E X T Γ (.Call (.Name x p) (e :: es) [] pos) d := fun W σ H P Q k => by
  obtain ⟨f, fd, ps, hm, hk, hb, ok⟩ := F
  refine of_pe (pe_call ok hr hg hm hk hb .nil pass0 pa_r (E := E0) hdb he hpl) (ha W σ H P _ fun vs H1 e1 r1 => ?_)
  refine ⟨W, ds, d, h, P.al.ex e1, e1.tb P.tb, ?_, fun v H' e2 r2 => k v H' (e1.trans e2) r2⟩
  rw [List.append_nil]
  exact r1
theorem e_meth {C : Addr} {ks : List Str} {x : Str} {lv : Nat} {R : List D → D → Prop} {pl : Sem Bool} (F : MtC X.prog X.w X.K X.mg X.base T C x lv R) (hr : Room lv X.A) (ho : E X T Γ o (.obj C ks l)) (ha : As X T Γ (e :: es) ds) (h : R (.obj C ks l :: ds) d) (hn : (ks.any fun k => x == k) = false := by decide)
    (hst : starEach (e :: es) X.env = (false, eval e X.env) :: starEach es X.env := by rfl) (hpl : (backTo pos (starEach es X.env)).any (·.1) = false := by rfl)
    (ht : eval (.Call (.Attribute o x apos) (e :: es) [] pos) X.env = (eval o X.env >>= fun ov => standAt apos.atName >>= fun _ => holding [ov] (getMethod ov x pl) >>= fun z => callWith pos z.1 z.2 (backTo pos (starEach (e :: es) X.env)) (backToKw pos (keywordEach [] X.env))) := by rfl) :
    E X T Γ (.Call (.Attribute o x apos) (e :: es) [] pos) d := fun W σ H P Q k => by
  obtain ⟨f, fd, ps, c, hm, hb, ok⟩ := F
  refine of_pe (pe_meth (pl := pl) pe_r c hm ok hr hb .nil pass0 pa_r (E := E0) hst hpl ht) (ho W σ H P _ fun y H1 e1 r1 => ?_)
  have r1' := r1
  obtain ⟨t, dx, fs, ey, hW, h1, h2, h3⟩ := r1
  refine ⟨t, dx, fs, ey, h1, fNo_rep h2 hn, ha W σ H1 (P.ex e1) _ fun vs H2 e2 r2 => ?_⟩
  refine ⟨W, .obj C ks l :: ds, d, h, P.al.ex (e1.trans e2), (e1.trans e2).tb P.tb, ?_, fun v H' e3 r3 => k v H' ((e1.trans e2).trans e3) r3⟩
  rw [List.append_nil]
  exact .cons (r1'.ex e2) r2
theorem e_meth0 {C : Addr} {ks : List Str} {x : Str} {lv : Nat} {R : List D → D → Prop} {pl : Sem Bool} (F : MtC X.prog X.w X.K X.mg X.base T C x lv R) (hr : Room lv X.A) (ho : E X T Γ o (.obj C ks l)) (h : R [.obj C ks l] d) (hn : (ks.any fun k => x == k) = false := by decide)
    (ht : eval (.Call (.Attribute o x apos) [] [] pos) X.env = (eval o X.env >>= fun ov => standAt apos.atName >>= fun _ => holding [ov] (getMethod ov x pl) >>= fun z => callWith pos z.1 z.2 (backTo pos (starEach [] X.env)) (backToKw pos (keywordEach [] X.env))) := by rfl) :
    E X T Γ (.Call (.Attribute o x apos) [] [] pos) d := fun W σ H P Q k => by
  obtain ⟨f, fd, ps, c, hm, hb, ok⟩ := F
  refine of_pe (pe_meth0 (pl := pl) pe_r c hm ok hr hb .nil pass0 (E := E0) ht) (ho W σ H P _ fun y H1 e1 r1 => ?_)
  have r1' := r1
  obtain ⟨t, dx, fs, ey, hW, h1, h2, h3⟩ := r1
  refine ⟨t, dx, fs, ey, h1, fNo_rep h2 hn, ?_⟩
  exact ⟨W, [.obj C ks l], d, h, P.al.ex e1, e1.tb P.tb, .one r1', fun v H' e3 r3 => k v H' (e1.trans e3) r3⟩
theorem e_fld {C : Addr} {ks : List Str} {f : Str} (c : Cls X.K C) (n : NoAttr X.K C f) (ho : E X T Γ o (.obj C ks l)) (h : fAt f ks l = some d) (hb : attributeBase o f X.env (eval o X.env) = eval o X.env := by rfl) : E X T Γ (.Attribute o f pos) d := fun W σ H P Q k =>
  of_pe (pe_fld pe_r hb) (ho W σ H P _ fun y H1 e1 r1 => by
    obtain ⟨t, dx, fs, ey, hW, h1, h2, h3⟩ := r1
    obtain ⟨v, hv, rv⟩ := fAt_rep h2 h3 h
    exact ⟨t, C, dx, fs, v, ey, h1, c, n, hv, k v H1 e1 rv⟩)
end

/-! ### what is walked -/
def rI (X : Cx) (tg iter : Expr) : TI := fun σ H R => ∀ (pins : List (Addr × Obj)) (s : Shared), Inv X pins σ H s → wpAny (model X.prog X.w) X.A (eval iter X.env) (fun v s1 => wpAny (model X.prog X.w) X.A (pyIter v) (PIE X pins σ tg R) X.xe s1) X.xe s
theorem pi_r {X : Cx} {tg iter : Expr} : PI X tg iter (rI X tg iter) := ⟨fun pins s σ H R I h => h pins s I⟩
theorem of_pi {X : Cx} {tg iter : Expr} {wi : TI} {σ : L2.St} {H : Hp} {R : It → Hp → Prop} (p : PI X tg iter wi) (h : wi σ H R) : rI X tg iter σ H R := fun pins s I => p.run pins s σ H R I h
structure Its (K : PySem.W.Frag) (T : TbL) (W : List Addr) (J : It) (H : Hp) (ds : List D) : Prop where
  go : ∀ i H2, Mx T W H H2 → i < ds.length → J.go i H2
  stop : ∀ H2, Mx T W H H2 → J.stop ds.length H2
  yld : ∀ (V0 : List Addr) (i : Nat) (d : D) H2 v H3, (∀ x ∈ V0, x ∈ W ∨ Nw H x) → Mx T W H H2 → ds[i]? = some d → J.yld i H2 v H3 → Ex T H2 H3 ∧ Rep K V0 H3 d v
def I (X : Cx) (T : TbL) (Γ : List (Option D)) (tg iter : Expr) (ds : List D) : Prop := ∀ W σ H, Pr X.K T W H Γ σ → ∀ R : It → Hp → Prop, (∀ J H1, Ex T H H1 → Its X.K T W J H1 ds → R J H1) → rI X tg iter σ H R
section
variable {X : Cx} {T : TbL} {Γ : List (Option D)} {e a b tg : Expr} {l : List D} {pos p tpos : Pos} {n lo hi : Int} {elts : List Expr} {kk : Nat}
theorem i_tup (h : E X T Γ e (.tup l)) : I X T Γ tg e l := fun W σ H P R k => of_pi (pi_tup pe_r) (h W σ H P _ fun v H1 e1 r1 => by
  obtain ⟨t, xs, ev, hq, hr⟩ := r1
  refine ⟨t, ev, ⟨xs, hq⟩, k _ H1 e1 ⟨fun i H2 m hi => ?_, fun H2 m => ⟨xs, sqt_go m hq, by rw [hr.length]; exact Nat.le_refl _⟩, fun V0 i d H2 v H3 hV m hd hy => ?_⟩⟩
  · have hx : i < xs.length := by rw [hr.length]; exact hi
    exact ⟨xs, xs[i], sqt_go m hq, List.getElem?_eq_getElem hx⟩
  · obtain ⟨x, hx, rx⟩ := hr.get hd
    obtain ⟨e2, h2⟩ := hy
    rw [e2]
    have := h2 xs (sqt_go m hq)
    rw [hx] at this
    cases this
    exact ⟨Ex.refl H2, rx.go m hV⟩)
theorem i_lst (h : E X T Γ e (.lst l)) : I X T Γ tg e l := fun W σ H P R k => of_pi (pi_list pe_r) (h W σ H P _ fun v H1 e1 r1 => by
  obtain ⟨t, xs, ev, hq, hr⟩ := r1
  have st : ∀ {H2 : Hp}, Mx T W H1 H2 → SqL X.K H2 t xs := fun m => (hq.go m fun x z => .inl z).sq
  refine ⟨t, ev, ⟨xs, hq.sq⟩, k _ H1 e1 ⟨fun i H2 m hi => ?_, fun H2 m => ⟨xs, st m, by rw [hr.length]; exact Nat.le_refl _⟩, fun V0 i d H2 v H3 hV m hd hy => ?_⟩⟩
  · have hx : i < xs.length := by rw [hr.length]; exact hi
    exact ⟨xs, xs[i], st m, List.getElem?_eq_getElem hx⟩
  · obtain ⟨x, hx, rx⟩ := hr.get hd
    obtain ⟨e2, h2⟩ := hy
    rw [e2]
    have := h2 xs (st m)
    rw [hx] at this
    cases this
    exact ⟨Ex.refl H2, rx.go m hV⟩)
/-- pairs with places -/
def enumD : Nat → List D → List D
  | _, [] => []
  | i, d :: l => .tup [.int i, d] :: enumD (i + 1) l
theorem enumD_len : ∀ (l : List D) (i : Nat), (enumD i l).length = l.length
  | [], _ => rfl
  | d :: l, i => by simp [enumD, enumD_len l]
theorem enumD_get : ∀ (l : List D) (i j : Nat) (d : D), (enumD i l)[j]? = some d → ∃ x, l[j]? = some x ∧ d = .tup [.int ((i + j : Nat) : Int), x]
  | [], _, _, _, h => by simp [enumD] at h
  | x :: l, i, 0, d, h => by
    simp [enumD] at h
    exact ⟨x, rfl, by rw [← h]; rfl⟩
  | x :: l, i, j + 1, d, h => by
    simp only [enumD, List.getElem?_cons_succ] at h
    obtain ⟨y, h1, h2⟩ := enumD_get l (i + 1) j d h
    refine ⟨y, by simpa using h1, ?_⟩
    rw [h2]
    have : i + 1 + j = i + (j + 1) := by omega
    rw [this]
theorem i_enumT (fr : Fr X.mg) (h : E X T Γ e (.tup l)) (hg : Gl X "enumerate" := by rfl) (hs : starEach [e] X.env = [(false, eval e X.env)] := by rfl) : I X T Γ (.Tuple elts kk tpos) (.Call (.Name "enumerate" p) [e] [] pos) (enumD 0 l) := fun W σ H P R k =>
  of_pi (pi_enumT (ta := tCons (rE X e) tNil) hg fr.enumerate (pa_cons pe_r pa_nil hs) hs) (h W σ H P _ fun v H1 e1 r1 => by
  obtain ⟨t, xs, ev, hq, hr⟩ := r1
  have st : ∀ {H2 : Hp}, Mx T W H1 H2 → SqT X.K H2 t xs := fun m => sqt_go m hq
  refine ⟨t, xs, by rw [ev], hq, k _ H1 e1 ⟨fun i H2 m hi => ?_, fun H2 m => ⟨xs, st m, by rw [hr.length, enumD_len]; exact Nat.le_refl _⟩, fun V0 i d H2 v H3 hV m hd hy => ?_⟩⟩
  · rw [enumD_len] at hi
    have hx : i < xs.length := by rw [hr.length]; exact hi
    exact ⟨xs, xs[i], st m, List.getElem?_eq_getElem hx⟩
  · obtain ⟨d0, hd0, ed⟩ := enumD_get l 0 i d hd
    obtain ⟨x, hx, rx⟩ := hr.get hd0
    obtain ⟨t2, y, ev2, hn, eH, hy⟩ := hy
    have := hy xs (st m)
    rw [hx] at this
    cases this
    have e2 : Ex T H2 H3 := by rw [eH]; exact Ex.new hn
    refine ⟨e2, ?_⟩
    rw [ed, ev2]
    have ei : (0 + i : Nat) = i := Nat.zero_add i
    rw [ei]
    exact ⟨t2, [.int (i : Nat), x], rfl, .inl (.inl (by rw [eH]; exact upd_same)), .cons (d := .int _) (by rw [Rep]) (.one ((rx.go m hV).ex e2))⟩)
theorem i_enumL (fr : Fr X.mg) (h : E X T Γ e (.lst l)) (hg : Gl X "enumerate" := by rfl) (hs : starEach [e] X.env = [(false, eval e X.env)] := by rfl) : I X T Γ (.Tuple elts kk tpos) (.Call (.Name "enumerate" p) [e] [] pos) (enumD 0 l) := fun W σ H P R k =>
  of_pi (pi_enum (ta := tCons (rE X e) tNil) hg fr.enumerate (pa_cons pe_r pa_nil hs) hs) (h W σ H P _ fun v H1 e1 r1 => by
  obtain ⟨t, xs, ev, hq, hr⟩ := r1
  have st : ∀ {H2 : Hp}, Mx T W H1 H2 → SqL X.K H2 t xs := fun m => (hq.go m fun x z => .inl z).sq
  refine ⟨t, xs, by rw [ev], hq.sq, k _ H1 e1 ⟨fun i H2 m hi => ?_, fun H2 m => ⟨xs, st m, by rw [hr.length, enumD_len]; exact Nat.le_refl _⟩, fun V0 i d H2 v H3 hV m hd hy => ?_⟩⟩
  · rw [enumD_len] at hi
    have hx : i < xs.length := by rw [hr.length]; exact hi
    exact ⟨xs, xs[i], st m, List.getElem?_eq_getElem hx⟩
  · obtain ⟨d0, hd0, ed⟩ := enumD_get l 0 i d hd
    obtain ⟨x, hx, rx⟩ := hr.get hd0
    obtain ⟨t2, y, ev2, hn, eH, hy⟩ := hy
    have := hy xs (st m)
    rw [hx] at this
    cases this
    have e2 : Ex T H2 H3 := by rw [eH]; exact Ex.new hn
    refine ⟨e2, ?_⟩
    rw [ed, ev2]
    have ei : (0 + i : Nat) = i := Nat.zero_add i
    rw [ei]
    exact ⟨t2, [.int (i : Nat), x], rfl, .inl (.inl (by rw [eH]; exact upd_same)), .cons (d := .int _) (by rw [Rep]) (.one ((rx.go m hV).ex e2))⟩)
def rngD (lo : Int) (n : Nat) : List D := (List.range n).map fun (i : Nat) => D.int (lo + i)
theorem its_rng {K : PySem.W.Frag} {W : List Addr} {H : Hp} {lo : Int} {n : Nat} : Its K T W (Itr lo n) H (rngD lo n) := by
  refine ⟨fun i H2 m hi => ?_, fun H2 m => ?_, fun V0 i d H2 v H3 hV m hd hy => ?_⟩
  · show i < n
    simpa [rngD] using hi
  · show n ≤ (rngD lo n).length
    simp [rngD]
  · obtain ⟨e1, e2⟩ := hy
    rw [e1, e2]
    refine ⟨Ex.refl H2, ?_⟩
    unfold rngD at hd
    rw [List.getElem?_map] at hd
    cases q : (List.range n)[i]? with
    | none => rw [q] at hd; cases hd
    | some j =>
      rw [q] at hd
      have hj : i = j := by
        obtain ⟨h1, h2⟩ := List.getElem?_eq_some_iff.mp q
        simpa using h2
      cases hd
      rw [hj, Rep]
theorem i_rng1 (fr : Fr X.mg) (h : E X T Γ a (.int n)) (hn : n ≤ 100000 := by omega) (hn2 : -100000 ≤ n := by omega) (hg : Gl X "range" := by rfl) (hs : starEach [a] X.env = [(false, eval a X.env)] := by rfl) : I X T Γ tg (.Call (.Name "range" p) [a] [] pos) (rngD 0 n.toNat) := fun W σ H P R k =>
  of_pi (pi_range1 (ta := tCons (rE X a) tNil) hg fr.range (pa_cons pe_r pa_nil hs) hs) (h W σ H P _ fun v H1 e1 r1 => ⟨n, by rw [Rep] at r1; rw [r1], by omega, by omega, k _ H1 e1 its_rng⟩)
theorem i_rng2 (fr : Fr X.mg) (h : E X T Γ a (.int lo)) (h' : E X T Γ b (.int hi)) (hn : -100000 ≤ lo ∧ lo ≤ 100000 ∧ -100000 ≤ hi ∧ hi ≤ 100000 := by omega) (hg : Gl X "range" := by rfl) (hs : starEach [a, b] X.env = [(false, eval a X.env), (false, eval b X.env)] := by rfl) (hs2 : starEach [b] X.env = [(false, eval b X.env)] := by rfl) :
    I X T Γ tg (.Call (.Name "range" p) [a, b] [] pos) (rngD lo (hi - lo).toNat) := fun W σ H P R k =>
  of_pi (pi_range2 (ta := tCons (rE X a) (tCons (rE X b) tNil)) hg fr.range (pa_cons pe_r (pa_cons pe_r pa_nil hs2) (by rw [hs, hs2])) hs hs2) (h W σ H P _ fun v H1 e1 r1 => h' W σ H1 (P.ex e1) _ fun u H2 e2 r2 =>
    ⟨lo, hi, by rw [Rep] at r1 r2; rw [r1, r2], ⟨by omega, by omega, by omega, by omega⟩, k _ H2 (e1.trans e2) its_rng⟩)
end

/-! ### targets -/
def rG (X : Cx) (tg : Expr) : TG := fun v σ H Q => ∀ (pins : List (Addr × Obj)) (s : Shared) (u : Value), Inv X pins σ H s → RelV v u → wpAny (model X.prog X.w) X.A (assign tg X.env u) (fun _ s' => ∃ σ' H', Inv X pins σ' H' s' ∧ Q σ' H') X.xe s
theorem pg_r {X : Cx} {tg : Expr} : PG X tg (rG X tg) := ⟨fun pins s σ H v u Q I r h => h pins s u I r⟩
theorem of_pg {X : Cx} {tg : Expr} {g : TG} {v : V} {σ : L2.St} {H : Hp} {Q : L2.St → Hp → Prop} (p : PG X tg g) (h : g v σ H Q) : rG X tg v σ H Q := fun pins s u I r => p.run pins s σ H v u Q I r h
/-- equal but at js -/
def Sim (js : List Nat) (σ σ' : L2.St) : Prop := σ'.length = σ.length ∧ ∀ k, k ∉ js → σ'[k]? = σ[k]?
theorem Sim.refl {js : List Nat} {σ : L2.St} : Sim js σ σ := ⟨rfl, fun _ _ => rfl⟩
theorem Sim.set {js : List Nat} {σ σ' : L2.St} {i : Nat} {v : Option V} (h : Sim js σ σ') (hi : i ∈ js) : Sim js σ (σ'.set i v) := ⟨by rw [List.length_set]; exact h.1, fun k hk => by
  have : i ≠ k := fun z => hk (z ▸ hi)
  rw [List.getElem?_set_ne this]
  exact h.2 k hk⟩
theorem wipe_get : ∀ (vs : List Nat) (σ : L2.St) (k : Nat), (L2.wipe σ vs)[k]? = if k ∈ vs then (if k < σ.length then some none else none) else σ[k]?
  | [], σ, k => by simp [L2.wipe]
  | v :: vs, σ, k => by
    have ih := wipe_get vs σ k
    simp only [L2.wipe]
    by_cases e : v = k
    · subst e
      rw [List.getElem?_set]
      simp [L2.wipe_length]
    · rw [List.getElem?_set_ne e, ih]
      have : (k ∈ v :: vs) = (k ∈ vs) := by simp [Ne.symm e]
      simp only [this]
theorem Sim.wipe {js vs : List Nat} {σ σ' : L2.St} (h : Sim js (L2.wipe σ vs) σ') (hs : ∀ j ∈ js, j ∈ vs) : L2.wipe σ' vs = L2.wipe σ vs := by
  apply List.ext_getElem?
  intro k
  have hl : σ'.length = σ.length := by rw [h.1, L2.wipe_length]
  rw [wipe_get, wipe_get, hl]
  by_cases hk : k ∈ vs
  · rw [if_pos hk, if_pos hk]
  · rw [if_neg hk, if_neg hk, h.2 k fun z => hk (hs k z), wipe_get, if_neg hk]
def G (X : Cx) (T : TbL) (Γ : List (Option D)) (tg : Expr) (d : D) (js : List Nat) (Δ : List (Option D)) : Prop := ∀ W σ H v, Pr X.K T W H Γ σ → Rep X.K W H d v → ∀ Q : L2.St → Hp → Prop, (∀ σ', Sim js σ σ' → Pr X.K T W H Δ σ' → Q σ' H) → rG X tg v σ H Q
section
variable {X : Cx} {T : TbL} {Γ : List (Option D)} {d d1 d2 d3 : D} {pos p1 p2 p3 : Pos} {i j k : Nat} {x y z : Str} {kk : Nat}
theorem g_name (hN : X.N.Nodup) (hi : X.N[i]? = some x) (hx : Loc X.env.scope x) (hf : X.fn x = true ∨ X.env.scope.names.lookup x = some .local) : G X T Γ (.Name x pos) d [i] (Γ.set i (some d)) := fun W σ H v P r Q k =>
  of_pg (pg_name hN hi hx hf) (k _ (Sim.refl.set (by simp)) ⟨P.al, P.en.put r, P.tb⟩)
theorem g_two (hc : X.calm = true) (hN : X.N.Nodup) (hi : X.N[i]? = some x) (hx : Loc X.env.scope x) (hf : X.fn x = true ∨ X.env.scope.names.lookup x = some .local) (hj : X.N[j]? = some y) (hy : Loc X.env.scope y) (hg : X.fn y = true ∨ X.env.scope.names.lookup y = some .local)
    (hn : (assignEach [.Name x p1, .Name y p2] X.env).length = 2 := by rfl) (hst : (assignEach [.Name x p1, .Name y p2] X.env).findIdx? (·.1) = none := by rfl)
    (hs : (assignEach [.Name x p1, .Name y p2] X.env).map (·.2) = assign (.Name x p1) X.env :: (assignEach [.Name y p2] X.env).map (·.2) := by rfl) (hs2 : (assignEach [.Name y p2] X.env).map (·.2) = assign (.Name y p2) X.env :: (assignEach [] X.env).map (·.2) := by rfl) :
    G X T Γ (.Tuple [.Name x p1, .Name y p2] kk pos) (.tup [d1, d2]) [i, j] ((Γ.set i (some d1)).set j (some d2)) := fun W σ H v P r Q k => by
  obtain ⟨t, xs, ev, hq, hr⟩ := r
  obtain ⟨u1, u2, exs, r1, r2⟩ := hr.two_inv
  subst exs
  refine of_pg (pg_tup (n := 2) hc (pgs_cons (pg_name hN hi hx hf) (pgs_cons (pg_name hN hj hy hg) pgs_nil hs2) hs) hn hst) ⟨t, [u1, u2], ev, hq, rfl, u1, [u2], rfl, u2, [], rfl, rfl, ?_⟩
  exact k _ ((Sim.refl.set (by simp)).set (by simp)) ⟨P.al, (P.en.put r1).put r2, P.tb⟩
theorem Reps.three_inv {K : PySem.W.Frag} {W : List Addr} {H : Hp} {xs : List V} (r : Reps K W H [d1, d2, d3] xs) : ∃ x y z, xs = [x, y, z] ∧ Rep K W H d1 x ∧ Rep K W H d2 y ∧ Rep K W H d3 z := by
  obtain ⟨x, t, e, h, n⟩ := r.cons_inv
  obtain ⟨y, z, e2, h2, h3⟩ := n.two_inv
  rw [e2] at e
  exact ⟨x, y, z, e, h, h2, h3⟩
theorem g_three (hc : X.calm = true) (hN : X.N.Nodup) (hi : X.N[i]? = some x) (hx : Loc X.env.scope x) (hf : X.fn x = true ∨ X.env.scope.names.lookup x = some .local) (hj : X.N[j]? = some y) (hy : Loc X.env.scope y) (hg : X.fn y = true ∨ X.env.scope.names.lookup y = some .local)
    (hk : X.N[k]? = some z) (hz : Loc X.env.scope z) (hh : X.fn z = true ∨ X.env.scope.names.lookup z = some .local)
    (hn : (assignEach [.Name x p1, .Name y p2, .Name z p3] X.env).length = 3 := by rfl) (hst : (assignEach [.Name x p1, .Name y p2, .Name z p3] X.env).findIdx? (·.1) = none := by rfl)
    (hs : (assignEach [.Name x p1, .Name y p2, .Name z p3] X.env).map (·.2) = assign (.Name x p1) X.env :: (assignEach [.Name y p2, .Name z p3] X.env).map (·.2) := by rfl)
    (hs2 : (assignEach [.Name y p2, .Name z p3] X.env).map (·.2) = assign (.Name y p2) X.env :: (assignEach [.Name z p3] X.env).map (·.2) := by rfl) (hs3 : (assignEach [.Name z p3] X.env).map (·.2) = assign (.Name z p3) X.env :: (assignEach [] X.env).map (·.2) := by rfl) :
    G X T Γ (.Tuple [.Name x p1, .Name y p2, .Name z p3] kk pos) (.tup [d1, d2, d3]) [i, j, k] (((Γ.set i (some d1)).set j (some d2)).set k (some d3)) := fun W σ H v P r Q kq => by
  obtain ⟨t, xs, ev, hq, hr⟩ := r
  obtain ⟨u1, u2, u3, exs, r1, r2, r3⟩ := hr.three_inv
  subst exs
  refine of_pg (pg_tup (n := 3) hc (pgs_cons (pg_name hN hi hx hf) (pgs_cons (pg_name hN hj hy hg) (pgs_cons (pg_name hN hk hz hh) pgs_nil hs3) hs2) hs) hn hst) ⟨t, [u1, u2, u3], ev, hq, rfl, u1, [u2, u3], rfl, u2, [u3], rfl, u3, [], rfl, rfl, ?_⟩
  exact kq _ (((Sim.refl.set (by simp)).set (by simp)).set (by simp)) ⟨P.al, ((P.en.put r1).put r2).put r3, P.tb⟩
end
end Dv
/-! ## DvE -/
set_option maxHeartbeats 4000000
/-! Judgements by data: list comprehensions, any and all of generator expressions. -/
namespace Dv
open PySem PySem.Spec PyProof.Rows L2 Gx

/-- the slots without the block's own -/
def wiped (Γ : List (Option D)) (vs : List Nat) : List (Option D) := vs.foldr (fun v g => g.set v none) Γ
theorem Pr.wipe {K : PySem.W.Frag} {T : TbL} {W : List Addr} {H : Hp} {Γ : List (Option D)} {σ : L2.St} (P : Pr K T W H Γ σ) (vs : List Nat) : Pr K T W H (wiped Γ vs) (L2.wipe σ vs) := ⟨P.al, P.en.wipe vs, P.tb⟩
/-- from a heap to a later one, some more being owned -/
theorem Pr.late {K : PySem.W.Frag} {T : TbL} {W W' : List Addr} {H H' : Hp} {Γ : List (Option D)} {σ : L2.St} (P : Pr K T W H Γ σ) (m : Mx T W H H') (hW : ∀ x ∈ W', x ∈ W ∨ Nw H x) (al : Al W' H') : Pr K T W' H' Γ σ :=
  ⟨al, ⟨P.en.len, fun i d e => let ⟨v, a, r⟩ := P.en.at_ i d e; ⟨v, a, r.go m hW⟩⟩, m.tb P.tb⟩

/-! ### the tests of a comprehension -/
def rP (X : Cx) (ifs : List Expr) : TT := fun σ H Q => ∀ (pins : List (Addr × Obj)) (s : Shared), Inv X pins σ H s →
    wpAny (model X.prog X.w) X.A (forIn ifs true fun c r => if r = true then do let ok ← isTrue c X.env (eval c X.env); pure (ForInStep.yield ok) else pure (ForInStep.yield r)) (TP X pins σ Q) X.xe s
theorem pts_r {X : Cx} {ifs : List Expr} : PTs X ifs (rP X ifs) := ⟨fun pins s σ H Q I h => h pins s I⟩
def Bs (X : Cx) (T : TbL) (Γ : List (Option D)) (ifs : List Expr) (b : Bool) : Prop := ∀ W σ H, Pr X.K T W H Γ σ → ∀ Q : Bool → Hp → Prop, (∀ H2, Ex T H H2 → Q b H2) → rP X ifs σ H Q
theorem bs_nil {X : Cx} {T : TbL} {Γ : List (Option D)} : Bs X T Γ [] true := fun W σ H P Q k pins s I => pts_nil.run pins s σ H Q I (k H (Ex.refl H))
theorem bs_one {X : Cx} {T : TbL} {Γ : List (Option D)} {c : Expr} {b : Bool} (h : B X T Γ c b) : Bs X T Γ [c] b := fun W σ H P Q k pins s I => (pts_one pt_r).run pins s σ H Q I (h W σ H P Q k)

section
variable {X : Cx} {T : TbL} {Γ : List (Option D)} {α : Type} {as : List α} {ed : α → D} {Δ : α → List (Option D)} {b : α → Bool} {f : α → D} {elt tg iter : Expr} {ifs : List Expr} {scope : Scope} {own : List (Str × Nat)} {js : List Nat} {pos : Pos}
theorem take_snoc {i : Nat} {a : α} (h : as[i]? = some a) : as.take (i + 1) = as.take i ++ [a] := by
  rw [List.take_add_one, h]
  rfl
abbrev gB (X : Cx) (scope : Scope) (tg : Expr) : TG := fun v σ H Q => ∀ (s : Shared) (H0 : Hp) (C : Addr) (cl : List (Str × Addr)) (fp : List Addr), rG (X.blk s H0 scope (compEnvC scope cl C X.env) fp) tg v σ H Q
abbrev tB_ (X : Cx) (scope : Scope) (ifs : List Expr) : TT := fun σ H Q => ∀ (s : Shared) (H0 : Hp) (C : Addr) (cl : List (Str × Addr)) (fp : List Addr), rP (X.blk s H0 scope (compEnvC scope cl C X.env) fp) ifs σ H Q
abbrev eB (X : Cx) (scope : Scope) (elt : Expr) : TE := fun σ H Q => ∀ (s : Shared) (H0 : Hp) (C : Addr) (cl : List (Str × Addr)) (fp : List Addr), rE (X.blk s H0 scope (compEnvC scope cl C X.env) fp) elt σ H Q
/-- the context of a comprehension's inside -/
abbrev Ball (X : Cx) (scope : Scope) (φ : Cx → Prop) : Prop := ∀ (s : Shared) (H : Hp) (C : Addr) (cl : List (Str × Addr)) (fp : List Addr), φ (X.blk s H scope (compEnvC scope cl C X.env) fp)
theorem lc_ok (hz : as.length ≤ 100000) (hi : I X T Γ tg iter (as.map ed)) (hg : ∀ a ∈ as, Ball X scope fun Z => G Z T (wiped Γ (own.map (·.2))) tg (ed a) js (Δ a)) (ht : ∀ a ∈ as, Ball X scope fun Z => Bs Z T (Δ a) ifs (b a)) (he : ∀ a ∈ as, b a = true → Ball X scope fun Z => E Z T (Δ a) elt (f a))
    (hj : ∀ j ∈ js, j ∈ own.map (·.2)) {W : List Addr} {σ : L2.St} {H : Hp} {Q : VK} (P : Pr X.K T W H Γ σ) (k : ∀ p xs H2, Nw H p → Ex T H H2 → H2 p = some (.lst xs) → Reps X.K (p :: W) H2 ((as.filter b).map f) xs → Q (.ref p) H2) :
    tLc (rI X tg iter) (gB X scope tg) (tB_ X scope ifs) (eB X scope elt) (own.map (·.2)) σ H Q := by
  refine hi W σ H P _ fun J H1 e1 it Dl hD => ?_
  have P1 : Pr X.K T W H1 Γ σ := P.ex e1
  have nD : Dl ∉ W := P1.al.nin (Nw.of hD)
  have hWD : ∀ x ∈ Dl :: W, x ∈ W ∨ Nw H1 x := fun x hx => by
    rcases List.mem_cons.mp hx with z | z
    · exact .inr (z ▸ Nw.of hD)
    · exact .inl z
  -- the state of a turn
  let Iv : Nat → Hp → Prop := fun i H2 => ∃ acc, H2 Dl = some (.lst acc) ∧ Reps X.K (Dl :: W) H2 (((as.take i).filter b).map f) acc ∧ Mx T [] H1 H2
  have hJ : (as.map ed).length = as.length := List.length_map ..
  have al2 : ∀ {H2 : Hp} {acc : List V}, Mx T [] H1 H2 → H2 Dl = some (.lst acc) → Al (Dl :: W) H2 := fun {H2 acc} m h x hx => by
    rcases List.mem_cons.mp hx with z | z
    · exact ⟨_, by rw [z]; exact h, fun ps y => by cases y⟩
    · exact (P1.al.ex m.ex) x z
  have acL : ∀ {H2 : Hp} {i : Nat} {acc : List V}, Reps X.K (Dl :: W) H2 (((as.take i).filter b).map f) acc → acc.length < sizeLine := fun {H2 i acc} r => by
    rw [r.length, List.length_map]
    have h1 := List.length_filter_le b (as.take i)
    have h2 : (as.take i).length ≤ as.length := by rw [List.length_take]; omega
    have h3 : (100000 : Nat) < sizeLine := by decide
    omega
  refine ⟨fun i m H2 => m = as.length - i ∧ i ≤ as.length ∧ Iv i H2, ⟨as.length, by simp, Nat.zero_le _, [], upd_same, by simpa using Reps.nil, Mx.of (Ex.new hD)⟩, ?_⟩
  rintro i m H2 ⟨rfl, hle, acc, hacc, racc, mx⟩
  have mW : Mx T W H1 H2 := mx.sub fun x hx => by cases hx
  by_cases hlt : i < as.length
  · refine .inr ⟨it.go i H2 mW (by rw [hJ]; exact hlt), Iv (i + 1), fun H' p => ⟨as.length - (i + 1), by omega, rfl, hlt, p⟩, fun v H3 hy => ?_⟩
    have ha : as[i]? = some as[i] := List.getElem?_eq_getElem hlt
    have hm : as[i] ∈ as := List.getElem_mem hlt
    obtain ⟨e3, r3⟩ := it.yld (Dl :: W) i (ed as[i]) H2 v H3 hWD mW (by rw [List.getElem?_map, ha]; rfl) hy
    have keepD : ∀ {Ha Hb : Hp} {acc : List V}, Ex T Ha Hb → Ha Dl = some (.lst acc) → Hb Dl = some (.lst acc) := fun e h => e.ob _ _ h fun ps y => by cases y
    have mx3 : Mx T [] H1 H3 := mx.trans (Mx.of e3)
    have P3 : Pr X.K T (Dl :: W) H3 (wiped Γ (own.map (·.2))) (L2.wipe σ (own.map (·.2))) := (P1.wipe _).late (mx3.sub fun x hx => by cases hx) hWD (al2 mx3 (keepD e3 hacc))
    intro s0 H0 C cl fp
    refine hg _ hm s0 H0 C cl fp (Dl :: W) _ H3 v P3 r3 _ fun σ4 sm P4 => ⟨sm.wipe hj, fun s1 H01 C1 cl1 fp1 => ?_⟩
    refine ht _ hm s1 H01 C1 cl1 fp1 (Dl :: W) σ4 H3 P4 _ fun H5 e5 => ?_
    cases hb : b as[i] with
    | false =>
      show Iv (i + 1) H5
      refine ⟨acc, keepD e5 (keepD e3 hacc), ?_, mx3.trans (Mx.of e5)⟩
      rw [take_snoc ha, List.filter_append, List.filter_cons_of_neg (by rw [hb]; exact Bool.false_ne_true), List.filter_nil, List.append_nil]
      exact (racc.ex e3).ex e5
    | true =>
      show ∀ (s : Shared) (H0 : Hp) (C : Addr) (cl : List (Str × Addr)) (fp : List Addr), rE (X.blk s H0 scope (compEnvC scope cl C X.env) fp) elt σ4 H5 _
      intro s2 H02 C2 cl2 fp2
      refine he _ hm hb s2 H02 C2 cl2 fp2 (Dl :: W) σ4 H5 (P4.ex e5) _ fun y H6 e6 r6 => ?_
      have h6 : H6 Dl = some (.lst acc) := keepD e6 (keepD e5 (keepD e3 hacc))
      have mm : Mx T [Dl] H6 (upd H6 Dl (.lst (acc ++ [y]))) := Mx.mut h6 trivial (by simp)
      have mm2 : Mx T (Dl :: W) H6 (upd H6 Dl (.lst (acc ++ [y]))) := mm.sub fun x hx => by rw [List.mem_singleton.mp hx]; exact List.mem_cons_self
      refine ⟨acc, h6, acL racc, acc ++ [y], upd_same, ?_, ((mx3.trans (Mx.of e5)).trans (Mx.of e6)).late mm fun x hx => .inr (by rw [List.mem_singleton.mp hx]; exact Nw.of hD)⟩
      rw [take_snoc ha, List.filter_append, List.filter_cons_of_pos hb, List.filter_nil, List.map_append]
      exact ((((racc.ex e3).ex e5).ex e6).append (.one r6)).mx mm2
  · have hi : i = as.length := by omega
    subst hi
    refine .inl ⟨by rw [← hJ]; exact it.stop H2 mW, ?_⟩
    rw [List.take_length] at racc
    exact k Dl acc H2 ((Nw.of hD).back e1) (e1.trans mx.ex) hacc racc
theorem n_lc (hc : X.calm = true) (hN : X.N.Nodup) (ok : BlkOk X.N X.env.scope scope own) (hz : as.length ≤ 100000) (hi : I X T Γ tg iter (as.map ed)) (hg : ∀ a ∈ as, Ball X scope fun Z => G Z T (wiped Γ (own.map (·.2))) tg (ed a) js (Δ a)) (ht : ∀ a ∈ as, Ball X scope fun Z => Bs Z T (Δ a) ifs (b a))
    (he : ∀ a ∈ as, b a = true → Ball X scope fun Z => E Z T (Δ a) elt (f a)) (hj : ∀ j ∈ js, j ∈ own.map (·.2) := by decide) (hs : ∀ x, foldedSetIterable iter X.env x = pure x := by intro _; rfl) : N X T Γ (.ListComp elt [⟨tg, iter, ifs, 0⟩] scope pos) ((as.filter b).map f) := fun W σ H P Q k =>
  of_pe (pe_lc (wi := rI X tg iter) (g := gB X scope tg) (tt := tB_ X scope ifs) (te := eB X scope elt) hc hN pi_r ok (fun s H0 C cl fp => ⟨fun pins s1 σ1 H1 v u Q1 I1 r1 q1 => q1 s H0 C cl fp pins s1 u I1 r1⟩) (fun s H0 C cl fp => ⟨fun pins s1 σ1 H1 Q1 I1 q1 => q1 s H0 C cl fp pins s1 I1⟩)
    (fun s H0 C cl fp => ⟨fun pins s1 σ1 H1 Q1 I1 q1 => q1 s H0 C cl fp pins s1 I1⟩) hs) (lc_ok hz hi hg ht he hj P k)
/-- the same as a statement: name = [..] -/
theorem ps_lc {i : Nat} {y : Str} {py spos : Pos} (hc : X.calm = true) (hN : X.N.Nodup) (hy : X.N[i]? = some y) (hyl : X.env.scope.names.lookup y = some .local) (hsw : swapsWith (.ListComp elt [⟨tg, iter, ifs, 0⟩] scope pos) (some (.Name y py)) spos.line X.env = pure true) (ok : BlkOk X.N X.env.scope scope own)
    (hs : ∀ x, foldedSetIterable iter X.env x = pure x := by intro _; rfl) : PS X (.Assign [.Name y py] (.ListComp elt [⟨tg, iter, ifs, 0⟩] scope pos) spos) (tAsg (tLc (rI X tg iter) (gB X scope tg) (tB_ X scope ifs) (eB X scope elt) (own.map (·.2))) (gName i)) :=
  ps_setLc (wi := rI X tg iter) (g := gB X scope tg) (tt := tB_ X scope ifs) (te := eB X scope elt) hc hN hy hyl hsw pi_r ok (fun s H0 C cl fp => ⟨fun pins s1 σ1 H1 v u Q1 I1 r1 q1 => q1 s H0 C cl fp pins s1 u I1 r1⟩) (fun s H0 C cl fp => ⟨fun pins s1 σ1 H1 Q1 I1 q1 => q1 s H0 C cl fp pins s1 I1⟩)
    (fun s H0 C cl fp => ⟨fun pins s1 σ1 H1 Q1 I1 q1 => q1 s H0 C cl fp pins s1 I1⟩) hs
end

/-! ### any(..), all(..) of a generator expression -/
section
variable {X : Cx} {T : TbL} {Γ : List (Option D)} {α β : Type} {as : List α} {ed : α → D} {Δ : α → List (Option D)} {b : α → Bool} {elt tg iter : Expr} {scope : Scope} {own : List (Str × Nat)} {js : List Nat} {c P : Addr} {gpos p pos : Pos} {k : Nat}
/-- the context of the generator's code -/
structure GG (X : Cx) (T : TbL) (c P : Addr) (k : Nat) : Prop where
  room : Room (k + 3) X.A
  calm : X.calm = true
  nodup : X.N.Nodup
  tab : LamX.TabB X.base X.mg c P
  code : X.env.code = .ref c
  mem : (P, X.env.qual ++ "<genexpr>") ∈ T
  uniq : ∀ r ∈ T, r.1 = P → r.2 = X.env.qual ++ "<genexpr>"
abbrev Zall (X : Cx) (scope : Scope) (k : Nat) (φ : Cx → Prop) : Prop := ∀ (s : Shared) (H : Hp) (code : Value) (fp : List Addr) (a : Addr) (go : Obj), Room k (zcx X s H scope code fp a go).A → φ (zcx X s H scope code fp a go)
theorem gen_ok (b0 : Bool) (hz : as.length ≤ 100000) {W : List Addr} {σ : L2.St} {H : Hp} {Q : VK} (hP : Pr X.K T W H Γ σ) (hi : I X T Γ tg iter (as.map ed))
    (hg : ∀ a ∈ as, ∀ (s : Shared) (H : Hp) (code : Value) (fp : List Addr) (q : Addr) (go : Obj), G (zcx X s H scope code fp q go) T (wiped Γ (ixs own)) tg (ed a) js (Δ a))
    (he : ∀ a ∈ as, Zall X scope k fun Z => E Z T (Δ a) elt (.bl (b a))) (hj : ∀ j ∈ js, j ∈ ixs own) (r0 : Bool) (hr : r0 = if (∃ a ∈ as, b a = b0) then b0 else !b0) (kq : ∀ v H2, Ex T H H2 → Rep X.K W H2 (.bl r0) v → Q v H2) :
    tGen b0 T (rI X tg iter) (fun v σ H Q => ∀ (s : Shared) (H0 : Hp) (code : Value) (fp : List Addr) (q : Addr) (go : Obj), rG (zcx X s H0 scope code fp q go) tg v σ H Q)
      (fun σ H Q => ∀ (s : Shared) (H0 : Hp) (code : Value) (fp : List Addr) (q : Addr) (go : Obj), Room k (zcx X s H0 scope code fp q go).A → rE (zcx X s H0 scope code fp q go) elt σ H Q) (ixs own) σ H Q := by
  refine hi W σ H hP _ fun J H1 e1 it => ⟨e1.tb hP.tb, fun H2 e2 => ?_⟩
  have P2 : Pr X.K T W H2 Γ σ := (hP.ex e1).ex e2
  have hJ : (as.map ed).length = as.length := List.length_map ..
  refine ⟨fun i m H3 => m = as.length - i ∧ i ≤ as.length ∧ Ex T H2 H3 ∧ ∀ j (a : α), j < i → as[j]? = some a → b a ≠ b0, ⟨as.length, by simp, Nat.zero_le _, Ex.refl H2, fun j a h => absurd h (Nat.not_lt_zero j)⟩, ?_⟩
  rintro i m H3 ⟨rfl, hle, e3, hno⟩
  have mW : Mx T W H1 H3 := Mx.of (e2.trans e3)
  by_cases hlt : i < as.length
  · refine .inr ⟨it.go i H3 mW (by rw [hJ]; exact hlt), fun H' => Ex T H2 H' ∧ ∀ j (a : α), j < i + 1 → as[j]? = some a → b a ≠ b0, fun H' q => ⟨as.length - (i + 1), by omega, rfl, hlt, q⟩, fun v H4 hy => ?_⟩
    have ha : as[i]? = some as[i] := List.getElem?_eq_getElem hlt
    have hm : as[i] ∈ as := List.getElem_mem hlt
    obtain ⟨e4, r4⟩ := it.yld W i (ed as[i]) H3 v H4 (fun x hx => .inl hx) mW (by rw [List.getElem?_map, ha]; rfl) hy
    have P4 : Pr X.K T W H4 (wiped Γ (ixs own)) (L2.wipe σ (ixs own)) := ((P2.ex e3).ex e4).wipe _
    intro s0 H0 code fp q go
    refine hg _ hm s0 H0 code fp q go W _ H4 v P4 r4 _ fun σ5 sm P5 => ⟨sm.wipe hj, fun s1 H01 code1 fp1 q1 go1 hroom => ?_⟩
    refine he _ hm s1 H01 code1 fp1 q1 go1 hroom W σ5 H4 P5 _ fun y H6 e6 r6 => ⟨b as[i], r6, fun hb => ?_, fun hb => ⟨(e3.trans e4).trans e6, fun j a hj2 hja => ?_⟩⟩
    · refine kq _ H6 (((e1.trans e2).trans (e3.trans e4)).trans e6) ?_
      rw [hr, if_pos ⟨_, hm, hb⟩, Rep]
    · by_cases hji : j < i
      · exact hno j a hji hja
      · have : j = i := by omega
        subst this
        rw [ha] at hja
        cases hja
        exact hb
  · have hie : i = as.length := by omega
    subst hie
    refine .inl ⟨by rw [← hJ]; exact it.stop H3 mW, kq _ H3 ((e1.trans e2).trans e3) ?_⟩
    rw [hr, if_neg ?_, Rep]
    rintro ⟨a, hma, hab⟩
    obtain ⟨j, hj1, hj2⟩ := List.mem_iff_getElem.mp hma
    exact hno j a hj1 (by rw [List.getElem?_eq_getElem hj1, hj2]) hab
theorem e_any (fr : Fr X.mg) (g : GG X T c P k) (ok : GSc X.N X.env.scope scope own) (hz : as.length ≤ 100000) (hi : I X T Γ tg iter (as.map ed))
    (hg : ∀ a ∈ as, ∀ (s : Shared) (H : Hp) (code : Value) (fp : List Addr) (q : Addr) (go : Obj), G (zcx X s H scope code fp q go) T (wiped Γ (ixs own)) tg (ed a) js (Δ a))
    (he : ∀ a ∈ as, Zall X scope k fun Z => E Z T (Δ a) elt (.bl (b a))) (hj : ∀ j ∈ js, j ∈ ixs own := by decide) (hgl : Gl X "any" := by rfl) (hs : ∀ v, genFold iter X.env v = pure v := by intro _; rfl)
    (hst : starEach [.GeneratorExp elt [⟨tg, iter, [], 0⟩] scope gpos] X.env = (false, eval (.GeneratorExp elt [⟨tg, iter, [], 0⟩] scope gpos) X.env) :: starEach [] X.env := by rfl) :
    E X T Γ (.Call (.Name "any" p) [.GeneratorExp elt [⟨tg, iter, [], 0⟩] scope gpos] [] pos) (.bl (as.any b)) := fun W σ H hP Q kq => by
  refine of_pe (pe_any1 g.room hgl fr.any g.calm g.nodup g.tab g.code g.mem g.uniq ok pi_r (fun s H0 code fp q go => ⟨fun pins s1 σ1 H1 v u Q1 I1 r1 q1 => q1 s H0 code fp q go pins s1 u I1 r1⟩)
    (fun s H0 code fp q go hroom => ⟨fun pins s1 σ1 H1 Q1 I1 q1 => q1 s H0 code fp q go hroom pins s1 I1⟩) hs hst) (gen_ok true hz hP hi hg he hj (as.any b) ?_ kq)
  by_cases h : ∃ a ∈ as, b a = true
  · rw [if_pos h, List.any_eq_true]
    exact h
  · rw [if_neg h]
    exact Bool.eq_false_iff.mpr fun z => h (List.any_eq_true.mp z)
theorem e_all (fr : Fr X.mg) (g : GG X T c P k) (ok : GSc X.N X.env.scope scope own) (hz : as.length ≤ 100000) (hi : I X T Γ tg iter (as.map ed))
    (hg : ∀ a ∈ as, ∀ (s : Shared) (H : Hp) (code : Value) (fp : List Addr) (q : Addr) (go : Obj), G (zcx X s H scope code fp q go) T (wiped Γ (ixs own)) tg (ed a) js (Δ a))
    (he : ∀ a ∈ as, Zall X scope k fun Z => E Z T (Δ a) elt (.bl (b a))) (hj : ∀ j ∈ js, j ∈ ixs own := by decide) (hgl : Gl X "all" := by rfl) (hs : ∀ v, genFold iter X.env v = pure v := by intro _; rfl)
    (hst : starEach [.GeneratorExp elt [⟨tg, iter, [], 0⟩] scope gpos] X.env = (false, eval (.GeneratorExp elt [⟨tg, iter, [], 0⟩] scope gpos) X.env) :: starEach [] X.env := by rfl) :
    E X T Γ (.Call (.Name "all" p) [.GeneratorExp elt [⟨tg, iter, [], 0⟩] scope gpos] [] pos) (.bl (as.all b)) := fun W σ H hP Q kq => by
  refine of_pe (pe_all1 g.room hgl fr.all g.calm g.nodup g.tab g.code g.mem g.uniq ok pi_r (fun s H0 code fp q go => ⟨fun pins s1 σ1 H1 v u Q1 I1 r1 q1 => q1 s H0 code fp q go pins s1 u I1 r1⟩)
    (fun s H0 code fp q go hroom => ⟨fun pins s1 σ1 H1 Q1 I1 q1 => q1 s H0 code fp q go hroom pins s1 I1⟩) hs hst) (gen_ok false hz hP hi hg he hj (as.all b) ?_ kq)
  by_cases h : ∃ a ∈ as, b a = false
  · rw [if_pos h]
    obtain ⟨a, h1, h2⟩ := h
    exact Bool.eq_false_iff.mpr fun z => by
      have := List.all_eq_true.mp z a h1
      rw [h2] at this
      cases this
  · rw [if_neg h]
    exact List.all_eq_true.mpr fun a ha => by
      cases q : b a with
      | true => rfl
      | false => exact (h ⟨a, ha, q⟩).elim
end
end Dv
/-! ## DvF -/
set_option maxHeartbeats 4000000
/-! Judgements by data: slots that own what they hold. -/
namespace Dv
open PySem PySem.Spec PyProof.Rows L2 Gx

/-- a slot: nothing known, shared data, a list or dict of its own (new since all but the m last bases) -/
inductive Sl where
  | un | d (x : D) | own (m : Nat) (x : D)
/-- a list of owned lists, seen as data -/
def vw : D → D
  | .rws l => .lst (l.map .lst)
  | .ob2 C ks l m => .obj C ks (l ++ m.map .lst)
  | x => x
def Sl.sh : Sl → Option D
  | .d x => some x
  | _ => none
def Sl.al : Sl → Option D
  | .d x => some x
  | .own _ x => some (vw x)
  | .un => none
abbrev sh (Γ : List Sl) : List (Option D) := Γ.map Sl.sh
abbrev al (Γ : List Sl) : List (Option D) := Γ.map Sl.al
/-- a heap of before: since then all stays but B; W was owned then -/
structure Bas where
  B : List Addr
  H : Hp
  W : List Addr
  pin : Option Addr
/-- the lists at the addresses qs -/
def RowsAt (K : PySem.W.Frag) (W : List Addr) (H : Hp) : List Addr → List (List D) → Prop
  | [], l => l = []
  | q :: qs, l => ∃ d r xs, l = d :: r ∧ H q = some (.lst xs) ∧ Reps K W H d xs ∧ RowsAt K W H qs r
/-- what a slot owns, in the objects ft -/
def OwnAt (K : PySem.W.Frag) (W : List Addr) (H : Hp) (p : Addr) (ft : List Addr) : D → Prop
  | .lst l => ft = [p] ∧ ∃ xs, H p = some (.lst xs) ∧ Reps K W H l xs
  | .dct ks l => ft = [p] ∧ ∃ kvs, H p = some (.dK kvs) ∧ kvs.map (·.1) = ks.map Sum.inl ∧ Reps K W H l (kvs.map (·.2))
  | .rws l => ∃ qs, ft = p :: qs ∧ ft.Nodup ∧ H p = some (.lst (qs.map V.ref)) ∧ RowsAt K W H qs l
  | .ob2 C ks l1 l2 => ∃ dx fs qs vs, ft = p :: qs ∧ ft.Nodup ∧ H p = some (.ins C dx fs) ∧ fs.map (·.1) = ks ∧ fs.map (·.2) = vs ++ qs.map V.ref ∧ Reps K W H l1 vs ∧ RowsAt K W H qs l2
  | _ => False
structure BasOk (T : TbL) (W : List Addr) (H : Hp) (b : Bas) : Prop where
  mx : Mx T b.B b.H H
  new : ∀ x ∈ W, x ∈ b.W ∨ Nw b.H x
  sub : ∀ x ∈ b.W, x ∈ W
  al : Al b.W b.H
  bw : ∀ x ∈ b.B, x ∈ b.W
structure AtV (K : PySem.W.Frag) (T : TbL) (bs : List Bas) (Γ : List Sl) (W : List Addr) (ft : Nat → List Addr) (σ : L2.St) (H : Hp) : Prop where
  al : Al W H
  tb : LamX.Tabs T H
  ba : ∀ b ∈ bs, BasOk T W H b
  len : Γ.length ≤ σ.length
  sl : ∀ (i : Nat) (x : D), Γ[i]? = some (.d x) → ∃ v, σ[i]? = some (some v) ∧ Rep K W H x v
  ow : ∀ (i m : Nat) (x : D), Γ[i]? = some (.own m x) → ∃ p, σ[i]? = some (some (.ref p)) ∧ (∀ q ∈ ft i, q ∈ W) ∧ (∀ b ∈ bs.take m, ∀ q ∈ ft i, q ∈ b.B ∨ Nw b.H q) ∧ (∀ b ∈ bs.drop m, ∀ q ∈ ft i, Nw b.H q) ∧ OwnAt K W H p (ft i) x
  ne : ∀ (i j m n : Nat) (x y : D), i ≠ j → Γ[i]? = some (.own m x) → Γ[j]? = some (.own n y) → ∀ q ∈ ft i, q ∉ ft j
  pn : ∀ (m : Nat) (x : D) (b : Bas) (p : Addr), Γ[0]? = some (.own m x) → b ∈ bs.take m → b.pin = some p → σ[0]? = some (some (.ref p))
def AtW (K : PySem.W.Frag) (T : TbL) (bs : List Bas) (Γ : List Sl) (W : List Addr) (σ : L2.St) (H : Hp) : Prop := ∃ ft, AtV K T bs Γ W ft σ H
def At (K : PySem.W.Frag) (T : TbL) (bs : List Bas) (Γ : List Sl) (σ : L2.St) (H : Hp) : Prop := ∃ W, AtW K T bs Γ W σ H

section
variable {K : PySem.W.Frag} {T : TbL} {bs : List Bas} {Γ : List Sl} {W W' : List Addr} {σ : L2.St} {H H' : Hp} {x d : D} {l : List D} {i m : Nat} {p : Addr} {v : V}
theorem RowsAt.go (mx : Mx T W H H') (hW : ∀ x ∈ W', x ∈ W ∨ Nw H x) : ∀ {qs : List Addr} {l : List (List D)}, (∀ q ∈ qs, ∀ o, H q = some o → Mu o → H' q = some o) → RowsAt K W H qs l → RowsAt K W' H' qs l
  | [], _, _, h => h
  | q :: qs, l, hp, h => by
    obtain ⟨d, r, xs, e, h1, h2, h3⟩ := h
    exact ⟨d, r, xs, e, hp q List.mem_cons_self _ h1 trivial, h2.go mx hW, RowsAt.go mx hW (fun q' hq => hp q' (List.mem_cons_of_mem _ hq)) h3⟩
theorem OwnAt.go {ft : List Addr} (mx : Mx T W H H') (hW : ∀ x ∈ W', x ∈ W ∨ Nw H x) (hp : ∀ q ∈ ft, ∀ o, H q = some o → Mu o → H' q = some o) (h : OwnAt K W H p ft x) : OwnAt K W' H' p ft x := by
  cases x with
  | lst l =>
    obtain ⟨e, xs, h1, h2⟩ := h
    exact ⟨e, xs, hp p (by rw [e]; simp) _ h1 trivial, h2.go mx hW⟩
  | dct ks l =>
    obtain ⟨e, kvs, h1, h2, h3⟩ := h
    exact ⟨e, kvs, hp p (by rw [e]; simp) _ h1 trivial, h2, h3.go mx hW⟩
  | rws l =>
    obtain ⟨qs, e, nd, h1, h2⟩ := h
    exact ⟨qs, e, nd, hp p (by rw [e]; simp) _ h1 trivial, h2.go mx hW fun q hq => hp q (by rw [e]; simp [hq])⟩
  | ob2 C ks l1 l2 =>
    obtain ⟨dx, fs, qs, vs, e, nd, h1, h2, h4, h5, h6⟩ := h
    exact ⟨dx, fs, qs, vs, e, nd, hp p (by rw [e]; simp) _ h1 trivial, h2, h4, h5.go mx hW, h6.go mx hW fun q hq => hp q (by rw [e]; simp [hq])⟩
  | _ => exact h
theorem RowsAt.mu : ∀ {qs : List Addr} {l : List (List D)}, RowsAt K W H qs l → ∀ q ∈ qs, ∃ o, H q = some o ∧ Mu o
  | [], _, _, q, hq => by cases hq
  | a :: qs, l, h, q, hq => by
    obtain ⟨d, r, xs, e, h1, h2, h3⟩ := h
    rcases List.mem_cons.mp hq with z | z
    · rw [z]
      exact ⟨_, h1, trivial⟩
    · exact h3.mu q z
theorem OwnAt.mu {ft : List Addr} (h : OwnAt K W H p ft x) : (∀ q ∈ ft, ∃ o, H q = some o ∧ Mu o) ∧ p ∈ ft := by
  cases x with
  | lst l =>
    obtain ⟨e, xs, h1, _⟩ := h
    rw [e]
    exact ⟨fun q hq => by rw [List.mem_singleton.mp hq]; exact ⟨_, h1, trivial⟩, by simp⟩
  | dct ks l =>
    obtain ⟨e, kvs, h1, _⟩ := h
    rw [e]
    exact ⟨fun q hq => by rw [List.mem_singleton.mp hq]; exact ⟨_, h1, trivial⟩, by simp⟩
  | rws l =>
    obtain ⟨qs, e, nd, h1, h2⟩ := h
    rw [e]
    refine ⟨fun q hq => ?_, by simp⟩
    rcases List.mem_cons.mp hq with z | z
    · rw [z]
      exact ⟨_, h1, trivial⟩
    · exact h2.mu q z
  | ob2 C ks l1 l2 =>
    obtain ⟨dx, fs, qs, vs, e, nd, h1, h2, h4, h5, h6⟩ := h
    rw [e]
    refine ⟨fun q hq => ?_, by simp⟩
    rcases List.mem_cons.mp hq with z | z
    · rw [z]
      exact ⟨_, h1, trivial⟩
    · exact h6.mu q z
  | _ => exact h.elim
/-- owned lists, seen as shared by those who own none of them -/
theorem RowsAt.reps (hV : ∀ x ∈ W', x ∈ W) : ∀ {qs : List Addr} {l : List (List D)}, (∀ q ∈ qs, q ∉ W') → RowsAt K W H qs l → Reps K W' H (l.map .lst) (qs.map V.ref)
  | [], _, _, h => by
    have h : _ = [] := h
    rw [h]
    exact .nil
  | q :: qs, l, hq, h => by
    obtain ⟨d, r, xs, e, h1, h2, h3⟩ := h
    rw [e]
    exact .cons ⟨q, xs, rfl, .inl ⟨h1, hq q List.mem_cons_self⟩, h2.less hV⟩ (h3.reps hV fun a ha => hq a (List.mem_cons_of_mem _ ha))
theorem own_rep' {ft : List Addr} (hV : ∀ x ∈ W', x ∈ W) (hq : ∀ q ∈ ft, q ∉ W') (h : OwnAt K W H p ft x) : Rep K W' H (vw x) (.ref p) := by
  cases x with
  | lst l =>
    obtain ⟨e, xs, h1, h2⟩ := h
    exact ⟨p, xs, rfl, .inl ⟨h1, hq p (by rw [e]; simp)⟩, h2.less hV⟩
  | dct ks l =>
    obtain ⟨e, kvs, h1, h2, h3⟩ := h
    exact ⟨p, kvs, rfl, hq p (by rw [e]; simp), h1, h2, h3.less hV⟩
  | rws l =>
    obtain ⟨qs, e, nd, h1, h2⟩ := h
    exact ⟨p, _, rfl, .inl ⟨h1, hq p (by rw [e]; simp)⟩, h2.reps hV fun q hqs => hq q (by rw [e]; simp [hqs])⟩
  | ob2 C ks l1 l2 =>
    obtain ⟨dx, fs, qs, vs, e, nd, h1, h2, h4, h5, h6⟩ := h
    refine ⟨p, dx, fs, rfl, hq p (by rw [e]; simp), h1, h2, ?_⟩
    rw [h4]
    exact (h5.less hV).append (h6.reps hV fun q hqs => hq q (by rw [e]; simp [hqs]))
  | _ => exact h.elim
theorem sh_get (h : (sh Γ)[i]? = some (some d)) : Γ[i]? = some (.d d) := by
  rw [List.getElem?_map] at h
  cases q : Γ[i]? with
  | none => rw [q] at h; cases h
  | some s =>
    rw [q] at h
    cases s <;> cases h
    rfl
theorem al_get (h : (al Γ)[i]? = some (some d)) : Γ[i]? = some (.d d) ∨ ∃ m y, Γ[i]? = some (.own m y) ∧ d = vw y := by
  rw [List.getElem?_map] at h
  cases q : Γ[i]? with
  | none => rw [q] at h; cases h
  | some s =>
    rw [q] at h
    cases s with
    | un => cases h
    | d x => cases h; exact .inl rfl
    | own m x => cases h; exact .inr ⟨m, x, rfl, rfl⟩
theorem AtV.pr {ft : Nat → List Addr} (h : AtV K T bs Γ W ft σ H) : Pr K T W H (sh Γ) σ := ⟨h.al, ⟨by simpa using h.len, fun i d e => h.sl i d (sh_get e)⟩, h.tb⟩
theorem AtW.pr (h : AtW K T bs Γ W σ H) : Pr K T W H (sh Γ) σ := let ⟨_, a⟩ := h; a.pr
theorem AtW.al (h : AtW K T bs Γ W σ H) : Al W H := let ⟨_, a⟩ := h; a.al
theorem AtW.ba (h : AtW K T bs Γ W σ H) : ∀ b ∈ bs, BasOk T W H b := let ⟨_, a⟩ := h; a.ba
theorem AtW.prA (h : AtW K T bs Γ W σ H) : Pr K T [] H (Dv.al Γ) σ := by
  obtain ⟨ft, h⟩ := h
  refine ⟨fun x hx => absurd hx (by simp), ⟨by simpa using h.len, fun i d e => ?_⟩, h.tb⟩
  rcases al_get e with q | ⟨m, y, q, rfl⟩
  · obtain ⟨v, h1, h2⟩ := h.sl i d q
    exact ⟨v, h1, h2.less fun x hx => by cases hx⟩
  · obtain ⟨p, h1, _, _, _, h2⟩ := h.ow i m y q
    exact ⟨.ref p, h1, own_rep' (fun x hx => by cases hx) (fun q _ z => by cases z) h2⟩
theorem BasOk.ex {b : Bas} (h : BasOk T W H b) (e : Ex T H H') : BasOk T W H' b := ⟨h.mx.trans (Mx.of e), h.new, h.sub, h.al, h.bw⟩
theorem ex_mu {o : HO} {q : Addr} (e : Ex T H H') (ho : H q = some o) (hm : Mu o) : H' q = some o := e.ob _ _ ho fun ps z => by
  rw [z] at hm
  exact hm
theorem AtV.ex {ft : Nat → List Addr} (h : AtV K T bs Γ W ft σ H) (e : Ex T H H') : AtV K T bs Γ W ft σ H' := by
  refine ⟨h.al.ex e, e.tb h.tb, fun b hb => (h.ba b hb).ex e, h.len, fun i x hx => ?_, fun i m x hx => ?_, h.ne, h.pn⟩
  · obtain ⟨v, h1, h2⟩ := h.sl i x hx
    exact ⟨v, h1, h2.ex e⟩
  · obtain ⟨p, h1, h2, h3, h4, h5⟩ := h.ow i m x hx
    exact ⟨p, h1, h2, h3, h4, h5.go (Mx.of e) (fun x hx => .inl hx) fun q _ o ho hm => ex_mu e ho hm⟩
theorem AtW.ex (h : AtW K T bs Γ W σ H) (e : Ex T H H') : AtW K T bs Γ W σ H' := let ⟨ft, a⟩ := h; ⟨ft, a.ex e⟩
theorem BasOk.nw {b : Bas} (h : BasOk T W H b) (ha : Al W H) (hp : Nw H p) : Nw b.H p := fun o q => by
  refine Classical.byContradiction fun n => ?_
  have nt : ∀ ps, o ≠ .tbl ps := fun ps z => n ⟨ps, z⟩
  by_cases hB : p ∈ b.B
  · exact ha.nin hp (h.sub p (h.bw p hB))
  · exact hp.no (h.mx.ob p o q nt fun z => absurd z hB) nt
theorem set_own {s : Sl} (hs : ∀ m x, s ≠ .own m x) {j n : Nat} {y : D} (h : (Γ.set i s)[j]? = some (.own n y)) : i ≠ j ∧ Γ[j]? = some (.own n y) := by
  by_cases q : i = j
  · subst q
    have hl : i < Γ.length := by
      have := (List.getElem?_eq_some_iff.mp h).1
      simpa using this
    rw [List.getElem?_set_self hl] at h
    exact (hs n y (Option.some.inj h)).elim
  · rw [List.getElem?_set_ne q] at h
    exact ⟨q, h⟩
theorem set_d {s : Sl} (hs : ∀ x, s ≠ .d x) {j : Nat} {y : D} (h : (Γ.set i s)[j]? = some (.d y)) : i ≠ j ∧ Γ[j]? = some (.d y) := by
  by_cases q : i = j
  · subst q
    have hl : i < Γ.length := by
      have := (List.getElem?_eq_some_iff.mp h).1
      simpa using this
    rw [List.getElem?_set_self hl] at h
    exact (hs y (Option.some.inj h)).elim
  · rw [List.getElem?_set_ne q] at h
    exact ⟨q, h⟩
theorem AtV.put {ft : Nat → List Addr} (h : AtV K T bs Γ W ft σ H) (r : Rep K W H d v) : AtV K T bs (Γ.set i (.d d)) W ft (σ.set i (some v)) H := by
  have nown : ∀ m x, Sl.d d ≠ .own m x := fun m x z => by cases z
  refine ⟨h.al, h.tb, h.ba, by simpa using h.len, fun j x hx => ?_, fun j m x hx => ?_, fun j k m n x y hjk h1 h2 => ?_, fun m x b r e1 e2 e3 => ?_⟩
  · by_cases q : i = j
    · subst q
      have hl : i < Γ.length := by
        have := (List.getElem?_eq_some_iff.mp hx).1
        simpa using this
      rw [List.getElem?_set_self hl] at hx
      cases hx
      exact ⟨v, List.getElem?_set_self (Nat.lt_of_lt_of_le hl h.len), r⟩
    · rw [List.getElem?_set_ne q] at hx ⊢
      exact h.sl j x hx
  · obtain ⟨q, hx⟩ := set_own nown hx
    rw [List.getElem?_set_ne q]
    exact h.ow j m x hx
  · exact h.ne j k m n x y hjk (set_own nown h1).2 (set_own nown h2).2
  · obtain ⟨q, e1⟩ := set_own nown e1
    rw [List.getElem?_set_ne q]
    exact h.pn m x b r e1 e2 e3
theorem AtW.put (h : AtW K T bs Γ W σ H) (r : Rep K W H d v) : AtW K T bs (Γ.set i (.d d)) W (σ.set i (some v)) H := let ⟨ft, a⟩ := h; ⟨ft, a.put r⟩
theorem cons_new (hp : Nw H p) : ∀ x ∈ p :: W, x ∈ W ∨ Nw H x := fun x hx => by
  rcases List.mem_cons.mp hx with z | z
  · exact .inr (z ▸ hp)
  · exact .inl z
/-- new objects, owned by the slot -/
theorem AtV.putOwn {ft : Nat → List Addr} {fp : List Addr} (h : AtV K T bs Γ W ft σ H) (hp : ∀ q ∈ fp, Nw H q) (e : Ex T H H') (ho : OwnAt K (fp ++ W) H' p fp d) : AtV K T bs (Γ.set i (.own 0 d)) (fp ++ W) (fun j => if i = j then fp else ft j) (σ.set i (some (.ref p))) H' := by
  have np : ∀ q ∈ fp, q ∉ W := fun q hq => h.al.nin (hp q hq)
  have nd : ∀ x, Sl.own 0 d ≠ .d x := fun x z => by cases z
  have hnew : ∀ x ∈ fp ++ W, x ∈ W ∨ Nw H x := fun x hx => by
    rcases List.mem_append.mp hx with z | z
    · exact .inr (hp x z)
    · exact .inl z
  have oldW : ∀ {j m : Nat} {x : D}, Γ[j]? = some (.own m x) → ∀ q ∈ ft j, q ∈ W := fun {j m x} hx => by
    obtain ⟨_, _, h2, _⟩ := h.ow j m x hx
    exact h2
  refine ⟨fun x hx => ?_, e.tb h.tb, fun b hb => ⟨(h.ba b hb).mx.trans (Mx.of e), fun x hx => ?_, fun x hx => List.mem_append_right _ ((h.ba b hb).sub x hx), (h.ba b hb).al, (h.ba b hb).bw⟩, by simpa using h.len, fun j x hx => ?_, fun j m x hx => ?_, fun j k m n x y hjk h1 h2 => ?_, fun m x b r e1 e2 e3 => ?_⟩
  · rcases List.mem_append.mp hx with z | z
    · obtain ⟨o, h1, h2⟩ := ho.mu.1 x z
      exact ⟨o, h1, fun ps z => by rw [z] at h2; exact h2⟩
    · exact (h.al.ex e) x z
  · rcases List.mem_append.mp hx with z | z
    · exact .inr ((h.ba b hb).nw h.al (hp x z))
    · exact (h.ba b hb).new x z
  · obtain ⟨q, hx⟩ := set_d nd hx
    rw [List.getElem?_set_ne q]
    obtain ⟨v, h1, h2⟩ := h.sl j x hx
    exact ⟨v, h1, h2.go (Mx.of e) hnew⟩
  · by_cases q : i = j
    · subst q
      have hl : i < Γ.length := by
        have := (List.getElem?_eq_some_iff.mp hx).1
        simpa using this
      rw [List.getElem?_set_self hl] at hx
      cases hx
      simp only [if_true]
      exact ⟨p, List.getElem?_set_self (Nat.lt_of_lt_of_le hl h.len), fun q hq => List.mem_append_left _ hq, by simp, fun b hb q hq => (h.ba b (by simpa using hb)).nw h.al (hp q hq), ho⟩
    · rw [List.getElem?_set_ne q] at hx ⊢
      obtain ⟨r, h1, h2, h3, h4, h5⟩ := h.ow j m x hx
      simp only [if_neg q]
      exact ⟨r, h1, fun q hq => List.mem_append_right _ (h2 q hq), h3, h4, h5.go (Mx.of e) hnew fun q _ o ho hm => ex_mu e ho hm⟩
  · by_cases n1 : i = j
    · have n2 : i ≠ k := fun z => hjk (n1.symm.trans z)
      rw [List.getElem?_set_ne n2] at h2
      simp only [if_pos n1, if_neg n2]
      exact fun q hq z => np q hq (oldW h2 q z)
    · rw [List.getElem?_set_ne n1] at h1
      by_cases n2 : i = k
      · simp only [if_neg n1, if_pos n2]
        exact fun q hq z => np q z (oldW h1 q hq)
      · rw [List.getElem?_set_ne n2] at h2
        simp only [if_neg n1, if_neg n2]
        exact h.ne j k m n x y hjk h1 h2
  · by_cases q : i = 0
    · subst q
      have z : m = 0 := by
        have hl : 0 < Γ.length := by
          have := (List.getElem?_eq_some_iff.mp e1).1
          simpa using this
        rw [List.getElem?_set_self hl] at e1
        cases e1
        rfl
      rw [z] at e2
      simp at e2
    · rw [List.getElem?_set_ne q] at e1 ⊢
      exact h.pn m x b r e1 e2 e3
theorem AtW.putOwn {l : List D} (h : AtW K T bs Γ W σ H) (hp : Nw H p) (e : Ex T H H') {xs : List V} (h1 : H' p = some (.lst xs)) (h2 : Reps K (p :: W) H' l xs) : AtW K T bs (Γ.set i (.own 0 (.lst l))) (p :: W) (σ.set i (some (.ref p))) H' := by
  obtain ⟨ft, a⟩ := h
  exact ⟨_, a.putOwn (fp := [p]) (fun q hq => by rw [List.mem_singleton.mp hq]; exact hp) e ⟨rfl, xs, h1, h2⟩⟩
theorem AtW.putOwnD {ks : List Int} {l : List D} (h : AtW K T bs Γ W σ H) (hp : Nw H p) (e : Ex T H H') {kvs : List (Key × V)} (h1 : H' p = some (.dK kvs)) (hk : kvs.map (·.1) = ks.map Sum.inl) (h2 : Reps K (p :: W) H' l (kvs.map (·.2))) : AtW K T bs (Γ.set i (.own 0 (.dct ks l))) (p :: W) (σ.set i (some (.ref p))) H' := by
  obtain ⟨ft, a⟩ := h
  exact ⟨_, a.putOwn (fp := [p]) (fun q hq => by rw [List.mem_singleton.mp hq]; exact hp) e ⟨rfl, kvs, h1, hk, h2⟩⟩
/-- one of the objects that a slot owns changes -/
theorem AtV.mut {ft : Nat → List Addr} {q : Addr} {y : D} {o : HO} (h : AtV K T bs Γ W ft σ H) (hi : Γ[i]? = some (.own m x)) (hs : σ[i]? = some (some (.ref p))) (hq : q ∈ ft i) (hu : Mu o) (ho : Mx T W H (upd H q o) → OwnAt K W (upd H q o) p (ft i) y) : AtV K T bs (Γ.set i (.own m y)) W ft σ (upd H q o) := by
  obtain ⟨p', h1, hpW, h3, h4, h5⟩ := h.ow i m x hi
  rw [hs] at h1
  cases h1
  obtain ⟨u, hu1, mu⟩ := h5.mu.1 q hq
  have mm : Mx T [q] H (upd H q o) := Mx.mut hu1 mu (by simp)
  have mW : Mx T W H (upd H q o) := mm.sub fun x hx => by rw [List.mem_singleton.mp hx]; exact hpW q hq
  have own2 := ho mW
  have hl : i < Γ.length := (List.getElem?_eq_some_iff.mp hi).1
  have nd : ∀ x, Sl.own m y ≠ .d x := fun x z => by cases z
  refine ⟨fun x hx => ?_, mm.tb h.tb, fun b hb => ⟨(h.ba b hb).mx.late mm fun x hx => ?_, (h.ba b hb).new, (h.ba b hb).sub, (h.ba b hb).al, (h.ba b hb).bw⟩, by simpa using h.len, fun j z hz => ?_, fun j n z hz => ?_, fun j k a b z1 z2 hjk e1 e2 => ?_, fun m2 x2 b r e1 e2 e3 => ?_⟩
  · by_cases z : x = q
    · exact ⟨o, by rw [z, upd_same], fun ps z => by rw [z] at hu; exact hu⟩
    · obtain ⟨u2, a, b⟩ := h.al x hx
      exact ⟨u2, by rw [upd_ne z]; exact a, b⟩
  · rw [List.mem_singleton.mp hx]
    have hb' : b ∈ bs.take m ∨ b ∈ bs.drop m := List.mem_append.mp (by rw [List.take_append_drop]; exact hb)
    exact hb'.elim (fun z => h3 b z q hq) fun z => .inr (h4 b z q hq)
  · obtain ⟨_, hz⟩ := set_d nd hz
    obtain ⟨v, e1, e2⟩ := h.sl j z hz
    exact ⟨v, e1, e2.mx mW⟩
  · by_cases c : i = j
    · subst c
      rw [List.getElem?_set_self hl] at hz
      cases hz
      exact ⟨p, hs, hpW, h3, h4, own2⟩
    · rw [List.getElem?_set_ne c] at hz
      obtain ⟨q', e1, e2, e3, e4, e5⟩ := h.ow j n z hz
      refine ⟨q', e1, e2, e3, e4, e5.go mW (fun x hx => .inl hx) fun r hr o' ho' _ => ?_⟩
      have : r ≠ q := fun zz => h.ne i j m n x z c hi hz q hq (zz ▸ hr)
      rw [upd_ne this]
      exact ho'
  · have g : ∀ {j n : Nat} {z : D}, (Γ.set i (.own m y))[j]? = some (.own n z) → ∃ n' z', Γ[j]? = some (.own n' z') := fun {j n z} hz => by
      by_cases c : i = j
      · exact ⟨m, x, c ▸ hi⟩
      · rw [List.getElem?_set_ne c] at hz
        exact ⟨n, z, hz⟩
    obtain ⟨n1, z1', g1⟩ := g e1
    obtain ⟨n2, z2', g2⟩ := g e2
    exact h.ne j k n1 n2 z1' z2' hjk g1 g2
  · by_cases c : i = 0
    · subst c
      rw [List.getElem?_set_self hl] at e1
      cases e1
      exact h.pn _ x b r hi e2 e3
    · rw [List.getElem?_set_ne c] at e1
      exact h.pn m2 x2 b r e1 e2 e3
theorem AtW.own {l : List D} (h : AtW K T bs Γ W σ H) (hi : Γ[i]? = some (.own m (.lst l))) : ∃ q xs, σ[i]? = some (some (.ref q)) ∧ H q = some (.lst xs) ∧ Reps K W H l xs := by
  obtain ⟨ft, a⟩ := h
  obtain ⟨q, h1, _, _, _, e, xs, h2, h3⟩ := a.ow i m _ hi
  exact ⟨q, xs, h1, h2, h3⟩
theorem AtW.ownD {ks : List Int} {l : List D} (h : AtW K T bs Γ W σ H) (hi : Γ[i]? = some (.own m (.dct ks l))) : ∃ q kvs, σ[i]? = some (some (.ref q)) ∧ H q = some (.dK kvs) ∧ kvs.map (·.1) = ks.map Sum.inl ∧ Reps K W H l (kvs.map (·.2)) := by
  obtain ⟨ft, a⟩ := h
  obtain ⟨q, h1, _, _, _, e, kvs, h2, h3, h4⟩ := a.ow i m _ hi
  exact ⟨q, kvs, h1, h2, h3, h4⟩
theorem AtW.mutL {q : Addr} {l l' : List D} {xs : List V} (h : AtW K T bs Γ W σ H) (hi : Γ[i]? = some (.own m (.lst l))) (hs : σ[i]? = some (some (.ref q))) (hr : Reps K W H l' xs) : AtW K T bs (Γ.set i (.own m (.lst l'))) W σ (upd H q (.lst xs)) := by
  obtain ⟨ft, a⟩ := h
  obtain ⟨q', h1, _, _, _, e, _⟩ := a.ow i m _ hi
  rw [hs] at h1
  cases h1
  exact ⟨ft, a.mut hi hs (by rw [e]; simp) trivial fun mx => ⟨e, xs, upd_same, hr.mx mx⟩⟩
theorem AtW.mutD {q : Addr} {ks ks' : List Int} {l l' : List D} {kvs : List (Key × V)} (h : AtW K T bs Γ W σ H) (hi : Γ[i]? = some (.own m (.dct ks l))) (hs : σ[i]? = some (some (.ref q))) (hk : kvs.map (·.1) = ks'.map Sum.inl) (hr : Reps K W H l' (kvs.map (·.2))) : AtW K T bs (Γ.set i (.own m (.dct ks' l'))) W σ (upd H q (.dK kvs)) := by
  obtain ⟨ft, a⟩ := h
  obtain ⟨q', h1, _, _, _, e, _⟩ := a.ow i m _ hi
  rw [hs] at h1
  cases h1
  exact ⟨ft, a.mut hi hs (by rw [e]; simp) trivial fun mx => ⟨e, kvs, upd_same, hk, hr.mx mx⟩⟩
/-- what a slot owned is shared from now on -/
theorem AtW.frz (h : AtW K T bs Γ W σ H) (hi : Γ[i]? = some (.own 0 x)) : ∃ W', AtW K T bs (Γ.set i (.d (vw x))) W' σ H := by
  obtain ⟨ft, h⟩ := h
  obtain ⟨p, h1, hpW, h3, h4, h5⟩ := h.ow i 0 x hi
  have hl : i < Γ.length := (List.getElem?_eq_some_iff.mp hi).1
  have sub : ∀ y ∈ W.filter (fun y => decide (y ∉ ft i)), y ∈ W := fun y hy => (List.mem_filter.mp hy).1
  have mem : ∀ {y}, y ∈ W → y ∉ ft i → y ∈ W.filter (fun y => decide (y ∉ ft i)) := fun a b => List.mem_filter.mpr ⟨a, by simpa using b⟩
  have nin : ∀ q ∈ ft i, q ∉ W.filter (fun y => decide (y ∉ ft i)) := fun q hq z => by
    have := (List.mem_filter.mp z).2
    simp at this
    exact this hq
  have nown : ∀ m y, Sl.d (vw x) ≠ .own m y := fun m y z => by cases z
  refine ⟨W.filter (fun y => decide (y ∉ ft i)), ft, fun x hx => h.al x (sub x hx), h.tb, fun b hb => ⟨(h.ba b hb).mx, fun x hx => (h.ba b hb).new x (sub x hx), fun x hx => mem ((h.ba b hb).sub x hx) fun z => ?_, (h.ba b hb).al, (h.ba b hb).bw⟩, by simpa using h.len, fun j z hz => ?_, fun j n z hz => ?_, fun j k a b z1 z2 hjk e1 e2 => ?_, fun m2 x2 b r e1 e2 e3 => ?_⟩
  · exact (h.ba b hb).al.nin (h4 b (by simpa using hb) x z) hx
  · by_cases q : i = j
    · subst q
      rw [List.getElem?_set_self hl] at hz
      cases hz
      exact ⟨.ref p, h1, own_rep' sub nin h5⟩
    · rw [List.getElem?_set_ne q] at hz
      obtain ⟨v, e1, e2⟩ := h.sl j z hz
      exact ⟨v, e1, e2.less sub⟩
  · obtain ⟨q, hz⟩ := set_own nown hz
    obtain ⟨q', e1, e2, e3, e4, e5⟩ := h.ow j n z hz
    exact ⟨q', e1, fun r hr => mem (e2 r hr) fun zz => h.ne i j 0 n x z q hi hz r zz hr, e3, e4, e5.go (T := T) (H := H) Mx.refl (fun y hy => .inl (sub y hy)) fun _ _ o ho _ => ho⟩
  · exact h.ne j k a b z1 z2 hjk (set_own nown e1).2 (set_own nown e2).2
  · exact h.pn m2 x2 b r (set_own nown e1).2 e2 e3
/-- less known of the slots -/
def Wk : List Sl → List Sl → Prop
  | [], _ => True
  | .un :: a, _ :: b => Wk a b
  | x :: a, y :: b => x = y ∧ Wk a b
  | _ :: _, [] => False
theorem Wk.len : ∀ {a b : List Sl}, Wk a b → a.length ≤ b.length
  | [], _, _ => Nat.zero_le _
  | .un :: a, _ :: b, h => by have := Wk.len (a := a) (b := b) h; simpa using this
  | .d x :: a, _ :: b, h => by have := Wk.len (a := a) (b := b) h.2; simpa using this
  | .own m x :: a, _ :: b, h => by have := Wk.len (a := a) (b := b) h.2; simpa using this
  | .un :: _, [], h => h.elim
  | .d _ :: _, [], h => h.elim
  | .own _ _ :: _, [], h => h.elim
theorem Wk.get : ∀ {a b : List Sl} {i : Nat} {x : Sl}, Wk a b → a[i]? = some x → x ≠ .un → b[i]? = some x
  | [], _, _, _, _, e, _ => by simp at e
  | .un :: a, _ :: b, 0, _, _, e, n => by cases e; exact absurd rfl n
  | .un :: a, _ :: b, i + 1, _, h, e, n => by simpa using Wk.get (a := a) (b := b) (i := i) h (by simpa using e) n
  | .d x :: a, _ :: b, 0, _, h, e, _ => by cases e; rw [← h.1]; rfl
  | .d x :: a, _ :: b, i + 1, _, h, e, n => by simpa using Wk.get (a := a) (b := b) (i := i) h.2 (by simpa using e) n
  | .own m x :: a, _ :: b, 0, _, h, e, _ => by cases e; rw [← h.1]; rfl
  | .own m x :: a, _ :: b, i + 1, _, h, e, n => by simpa using Wk.get (a := a) (b := b) (i := i) h.2 (by simpa using e) n
  | .un :: _, [], _, _, h, _, _ => h.elim
  | .d _ :: _, [], _, _, h, _, _ => h.elim
  | .own _ _ :: _, [], _, _, h, _, _ => h.elim
theorem AtW.wk {Δ : List Sl} (h : AtW K T bs Γ W σ H) (k : Wk Δ Γ) : AtW K T bs Δ W σ H :=
  let ⟨ft, h⟩ := h
  ⟨ft, h.al, h.tb, h.ba, Nat.le_trans k.len h.len, fun i x e => h.sl i x (k.get e (fun z => by cases z)), fun i m x e => h.ow i m x (k.get e (fun z => by cases z)), fun i j a b x y n e1 e2 => h.ne i j a b x y n (k.get e1 (fun z => by cases z)) (k.get e2 (fun z => by cases z)), fun m x b r e1 e2 e3 => h.pn m x b r (k.get e1 (fun z => by cases z)) e2 e3⟩
theorem At.wk {Δ : List Sl} (h : At K T bs Γ σ H) (k : Wk Δ Γ) : At K T bs Δ σ H := let ⟨W, a⟩ := h; ⟨W, a.wk k⟩
theorem At.frz (h : At K T bs Γ σ H) (hi : Γ[i]? = some (.own 0 x)) : At K T bs (Γ.set i (.d (vw x))) σ H := let ⟨_, a⟩ := h; a.frz hi
/-- a base more, a base less -/
def Sl.up : Sl → Sl
  | .own m x => .own (m + 1) x
  | s => s
def Sl.dn : Sl → Sl
  | .own (m + 1) x => .own m x
  | s => s
theorem AtW.push (h : AtW K T bs Γ W σ H) : AtW K T (⟨W, H, W, none⟩ :: bs) (Γ.map Sl.up) W σ H := by
  have g : ∀ {i n : Nat} {z : D}, (Γ.map Sl.up)[i]? = some (.own n z) → ∃ m, n = m + 1 ∧ Γ[i]? = some (.own m z) := fun {i n z} hz => by
    rw [List.getElem?_map] at hz
    cases q : Γ[i]? with
    | none => rw [q] at hz; cases hz
    | some s =>
      rw [q] at hz
      cases s <;> cases hz
      exact ⟨_, rfl, rfl⟩
  obtain ⟨ft, h⟩ := h
  refine ⟨ft, h.al, h.tb, fun b hb => ?_, by simpa using h.len, fun i x e => h.sl i x ?_, fun i n x e => ?_, fun i j a b x y n e1 e2 => ?_, fun m x b r e1 e2 e3 => ?_⟩
  · rcases List.mem_cons.mp hb with z | z
    · rw [z]
      exact ⟨Mx.refl, fun x hx => .inl hx, fun x hx => hx, h.al, fun x hx => hx⟩
    · exact h.ba b z
  · rw [List.getElem?_map] at e
    cases q : Γ[i]? with
    | none => rw [q] at e; cases e
    | some s =>
      rw [q] at e
      cases s <;> cases e
      rfl
  · obtain ⟨m, rfl, e'⟩ := g e
    obtain ⟨p, h1, h2, h3, h4, h5⟩ := h.ow i m x e'
    refine ⟨p, h1, h2, fun b hb => ?_, fun b hb => h4 b (by simpa using hb), h5⟩
    rcases List.mem_cons.mp (by simpa using hb) with z | z
    · rw [z]; exact fun q hq => .inl (h2 q hq)
    · exact h3 b z
  · obtain ⟨a', rfl, e1'⟩ := g e1
    obtain ⟨b', rfl, e2'⟩ := g e2
    exact h.ne i j a' b' x y n e1' e2'
  · obtain ⟨m', rfl, e1'⟩ := g e1
    rcases List.mem_cons.mp (by simpa using e2) with z | z
    · rw [z] at e3
      cases e3
    · exact h.pn m' x b r e1' z e3
theorem AtW.pop {b0 : Bas} (h : AtW K T (b0 :: bs) Γ W σ H) : AtW K T bs (Γ.map Sl.dn) W σ H := by
  have g : ∀ {i n : Nat} {z : D}, (Γ.map Sl.dn)[i]? = some (.own n z) → ∃ m, Γ[i]? = some (.own m z) ∧ (m = n + 1 ∨ (m = 0 ∧ n = 0)) := fun {i n z} hz => by
    rw [List.getElem?_map] at hz
    cases q : Γ[i]? with
    | none => rw [q] at hz; cases hz
    | some s =>
      rw [q] at hz
      cases s with
      | un => cases hz
      | d x => cases hz
      | own m x =>
        cases m with
        | zero => cases hz; exact ⟨0, rfl, .inr ⟨rfl, rfl⟩⟩
        | succ m' => cases hz; exact ⟨_, rfl, .inl rfl⟩
  obtain ⟨ft, h⟩ := h
  refine ⟨ft, h.al, h.tb, fun b hb => h.ba b (List.mem_cons_of_mem _ hb), by simpa using h.len, fun i x e => h.sl i x ?_, fun i n x e => ?_, fun i j a b x y n e1 e2 => ?_, fun m x b r e1 e2 e3 => ?_⟩
  · rw [List.getElem?_map] at e
    cases q : Γ[i]? with
    | none => rw [q] at e; cases e
    | some s =>
      rw [q] at e
      cases s with
      | un => cases e
      | d x => cases e; rfl
      | own m' x => cases m' <;> cases e
  · obtain ⟨m, e', hm⟩ := g e
    obtain ⟨p, h1, h2, h3, h4, h5⟩ := h.ow i m x e'
    rcases hm with rfl | ⟨rfl, rfl⟩
    · exact ⟨p, h1, h2, fun b hb => h3 b (by simp [hb]), fun b hb => h4 b (by simpa using hb), h5⟩
    · exact ⟨p, h1, h2, by simp, fun b hb => h4 b (by simp at hb ⊢; exact .inr hb), h5⟩
  · obtain ⟨a', e1', _⟩ := g e1
    obtain ⟨b', e2', _⟩ := g e2
    exact h.ne i j a' b' x y n e1' e2'
  · obtain ⟨m', e1', hm⟩ := g e1
    rcases hm with rfl | ⟨rfl, rfl⟩
    · exact h.pn _ x b r e1' (by simp [e2]) e3
    · simp at e2
theorem At.pop {b0 : Bas} (h : At K T (b0 :: bs) Γ σ H) : At K T bs (Γ.map Sl.dn) σ H := let ⟨W, a⟩ := h; ⟨W, a.pop⟩
end
end Dv
/-! ## DvG -/
set_option maxHeartbeats 4000000
/-! Judgements by data: statements. -/
namespace Dv
open PySem PySem.Spec PyProof.Rows L2 Gx

def rS (X : Cx) (st : Stmt) : TS := fun De σ H => ∀ (pins : List (Addr × Obj)) (s : Shared), Inv X pins σ H s → wpAny (model X.prog X.w) X.A (exec st X.env) (SP X pins De) X.xe s
def rSs (X : Cx) (st : List Stmt) : TS := fun De σ H => ∀ (pins : List (Addr × Obj)) (s : Shared), Inv X pins σ H s → wpAny (model X.prog X.w) X.A (execs st X.env) (SP X pins De) X.xe s
theorem ps_r {X : Cx} {st : Stmt} : PS X st (rS X st) := ⟨fun pins s σ H De I h => h pins s I⟩
theorem pss_r {X : Cx} {st : List Stmt} : PSs X st (rSs X st) := ⟨fun pins s σ H De I h => h pins s I⟩
theorem of_ps {X : Cx} {st : Stmt} {t : TS} {De : Ends} {σ : L2.St} {H : Hp} (p : PS X st t) (h : t De σ H) : rS X st De σ H := fun pins s I => p.run pins s σ H De I h
theorem of_pss {X : Cx} {st : List Stmt} {t : TS} {De : Ends} {σ : L2.St} {H : Hp} (p : PSs X st t) (h : t De σ H) : rSs X st De σ H := fun pins s I => p.run pins s σ H De I h

section
variable {X : Cx} {T : TbL} {st : Stmt} {rest body A1 B1 : List Stmt} {De : Ends} {bs : List Bas} {Γ Δ : List Sl} {W : List Addr} {σ : L2.St} {H : Hp} {e c : Expr} {d x0 : D} {l : List D} {i m : Nat} {x : Str} {pos p apos : Pos} {b : Bool}
theorem ss_nil (h : De.nx σ H) : rSs X [] De σ H := of_pss pss_nil h
theorem ss_cons (h : rS X st { De with nx := fun σ' H' => rSs X rest De σ' H' } σ H) : rSs X (st :: rest) De σ H := of_pss (pss_cons ps_r pss_r) h
theorem ss_mid (M : L2.St → Hp → Prop) (h : rS X st { De with nx := M } σ H) (k : ∀ σ' H', M σ' H' → rSs X rest De σ' H') : rSs X (st :: rest) De σ H := fun pins s I => by
  refine wpAny_execs_cons (thn (h pins s I) fun f s1 q => ?_)
  cases f with
  | next =>
    obtain ⟨σ', H', I', q⟩ := q
    exact k σ' H' q pins s1 I'
  | ret v => exact q
  | brk => exact q
  | cont => exact q
def EE (X : Cx) (T : TbL) (Γ : List Sl) (e : Expr) (d : D) : Prop := E X T (sh Γ) e d ∨ (imm d = true ∧ E X T (al Γ) e d)
def NN (X : Cx) (T : TbL) (Γ : List Sl) (e : Expr) (l : List D) : Prop := N X T (sh Γ) e l ∨ (imms l = true ∧ N X T (al Γ) e l)
theorem AtW.run (h : AtW X.K T bs Γ W σ H) (he : EE X T Γ e d) {Q : VK} (k : ∀ v H2, Ex T H H2 → Rep X.K W H2 d v → Q v H2) : rE X e σ H Q := by
  rcases he with g | ⟨q, g⟩
  · exact g W σ H h.pr Q k
  · exact g [] σ H h.prA Q fun v H2 e2 r2 => k v H2 e2 (r2.imm q)
theorem AtW.runN (h : AtW X.K T bs Γ W σ H) (he : NN X T Γ e l) {Q : VK} (k : ∀ p xs H2, Nw H p → Ex T H H2 → H2 p = some (.lst xs) → Reps X.K (p :: W) H2 l xs → Q (.ref p) H2) : rE X e σ H Q := by
  rcases he with g | ⟨q, g⟩
  · exact g W σ H h.pr Q k
  · exact g [] σ H h.prA Q fun p xs H2 n e2 h2 r2 => k p xs H2 n e2 h2 (r2.imm q)
theorem ee_sh (h : E X T (sh Γ) e d) : EE X T Γ e d := .inl h
theorem ee_al (h : E X T (al Γ) e d) (q : imm d = true := by rfl) : EE X T Γ e d := .inr ⟨q, h⟩
theorem nn_sh (h : N X T (sh Γ) e l) : NN X T Γ e l := .inl h
theorem nn_al (h : N X T (al Γ) e l) (q : imms l = true := by rfl) : NN X T Γ e l := .inr ⟨q, h⟩

theorem s_asg (h : At X.K T bs Γ σ H) (he : EE X T Γ e d) (k : ∀ σ' H', At X.K T bs (Γ.set i (.d d)) σ' H' → De.nx σ' H') (hN : X.N.Nodup) (hi : X.N[i]? = some x) (hx : Loc X.env.scope x) (hs : swapsWith e (some (.Name x p)) pos.line X.env = pure false := by rfl) (hf : X.fn x = true ∨ X.env.scope.names.lookup x = some .local := by first | exact .inl rfl | exact .inr rfl) :
    rS X (.Assign [.Name x p] e pos) De σ H := let ⟨W, a⟩ := h
  of_ps (ps_set hN hi hx pe_r hs hf) (a.run he fun v H2 e2 r2 => k _ _ ⟨W, (a.ex e2).put r2⟩)
theorem s_new (h : At X.K T bs Γ σ H) (he : NN X T Γ e l) (k : ∀ σ' H', At X.K T bs (Γ.set i (.own 0 (.lst l))) σ' H' → De.nx σ' H') (hN : X.N.Nodup) (hi : X.N[i]? = some x) (hx : Loc X.env.scope x) (hs : swapsWith e (some (.Name x p)) pos.line X.env = pure false := by rfl) (hf : X.fn x = true ∨ X.env.scope.names.lookup x = some .local := by first | exact .inl rfl | exact .inr rfl) :
    rS X (.Assign [.Name x p] e pos) De σ H := let ⟨W, a⟩ := h
  of_ps (ps_set hN hi hx pe_r hs hf) (a.runN he fun p xs H2 n e2 h2 r2 => k _ _ ⟨p :: W, a.putOwn n e2 h2 r2⟩)
theorem s_if (h : At X.K T bs Γ σ H) (hc : B X T (al Γ) c b) (h1 : b = true → ∀ σ' H', At X.K T bs Γ σ' H' → rSs X A1 De σ' H') (h2 : b = false → ∀ σ' H', At X.K T bs Γ σ' H' → rSs X B1 De σ' H') : rS X (.If c A1 B1 pos) De σ H := let ⟨W, a⟩ := h
  of_ps (ps_if pt_r pss_r pss_r) (hc [] σ H a.prA _ fun H2 e2 => by
    cases b with
    | true => exact h1 rfl σ H2 ⟨W, a.ex e2⟩
    | false => exact h2 rfl σ H2 ⟨W, a.ex e2⟩)
theorem s_ret (h : At X.K T bs Γ σ H) (he : EE X T Γ e d) (k : ∀ v H' W, AtW X.K T bs Γ W σ H' → Rep X.K W H' d v → De.rt v H') : rS X (.Return (some e) pos) De σ H := let ⟨W, a⟩ := h
  of_ps (ps_ret pe_r) (a.run he fun v H2 e2 r2 => k v H2 W (a.ex e2) r2)
theorem s_drop (h : At X.K T bs Γ σ H) (he : EE X T Γ e d) (k : ∀ σ' H', At X.K T bs Γ σ' H' → De.nx σ' H') (hs : swapsWith e none pos.line X.env = pure false := by rfl) : rS X (.Expr e pos) De σ H := let ⟨W, a⟩ := h
  of_ps (ps_expr pe_r hs) (a.run he fun v H2 e2 r2 => k _ _ ⟨W, a.ex e2⟩)
theorem s_break (h : De.bk σ H) : rS X (.Break pos) De σ H := of_ps ps_break h
theorem own_tyV {K : PySem.W.Frag} {H : Hp} {q : Addr} {xs : List V} (h : H q = some (.lst xs)) : tyV K "list" (.ref q) H := .inl ⟨rfl, xs, .inl (.inl h)⟩
/-- x.append(e) -/
theorem s_app {cpos : Pos} (h : At X.K T bs Γ σ H) (ho : Γ[i]? = some (.own m (.lst l))) (he : EE X T Γ e d) (hz : l.length < 100000) (k : ∀ σ' H', At X.K T bs (Γ.set i (.own m (.lst (l ++ [d])))) σ' H' → De.nx σ' H') (hi : X.N[i]? = some x) (hx : Vis X.env.scope x)
    (hd : (x == ("__debug__" : Str)) = false := by decide) (hcd : (x == ("__classdict__" : Str)) = false := by decide) (hs : swapsWith (.Call (.Attribute (.Name x p) "append" apos) [e] [] cpos) none pos.line X.env = pure false := by rfl)
    (hbase : attributeBase (.Name x p) "append" X.env (eval (.Name x p) X.env) = eval (.Name x p) X.env := by rfl)
    (hfew : ((backTo cpos (starEach [e] X.env)).all (fun x => !x.1) && (backToKw cpos (keywordEach [] X.env)).all (fun x => x.1.isSome) && decide ([e].length + ([] : List Keyword).length + (if ([] : List Keyword).isEmpty then 0 else 1) < 30)) = true := by rfl)
    (hline : (apos.endLine == cpos.line) = true := by rfl) (hst : starEach [e] X.env = (false, eval e X.env) :: starEach [] X.env := by rfl) (hpl : (backTo cpos (starEach [] X.env)).any (·.1) = false := by rfl) :
    rS X (.Expr (.Call (.Attribute (.Name x p) "append" apos) [e] [] cpos) pos) De σ H := by
  obtain ⟨W, a⟩ := h
  obtain ⟨q, xs, hq, hxs, hr⟩ := a.own ho
  refine of_ps (ps_expr (pe_bm PySem.F.plainAttrs_list PySem.F.slot_list_append PySem.F.type_list_append mt_append (pe_var hi hx hd hcd) (pa_cons pe_r pa_nil hst) hbase hfew hline hst hpl) hs) ⟨.ref q, hq, own_tyV hxs, ?_⟩
  refine a.run he fun v H2 e2 r2 => ?_
  have h2 : H2 q = some (.lst xs) := e2.ob _ _ hxs fun ps z => by cases z
  refine ⟨q, xs, v, rfl, rfl, h2, by rw [hr.length]; exact Nat.lt_of_lt_of_le hz (by decide), k _ _ ⟨W, (a.ex e2).mutL ho hq ((hr.ex e2).append (.one r2))⟩⟩
/-- x[k] = e, x a list of its own -/
theorem s_setL {ix : Expr} {j : Nat} {tpos : Pos} (h : At X.K T bs Γ σ H) (ho : Γ[i]? = some (.own m (.lst l))) (he : EE X T Γ e d) (hj : EE X T Γ ix (.int j)) (hl : j < l.length) (k : ∀ σ' H', At X.K T bs (Γ.set i (.own m (.lst (l.set j d)))) σ' H' → De.nx σ' H') (hi : X.N[i]? = some x) (hx : Vis X.env.scope x)
    (ha : ∀ v, assign (.Subscript (.Name x p) ix tpos) X.env v = (do
      let ov ← holding [v] (eval (.Name x p) X.env)
      let iv ← holding [v, ov] (eval ix X.env)
      standAt tpos
      holding [v, ov, iv] (setItem ov iv v)
      release [v, ov, iv] []) := by intro _; rfl)
    (hd : (x == ("__debug__" : Str)) = false := by decide) (hcd : (x == ("__classdict__" : Str)) = false := by decide) (hs : swapsWithSole [.Subscript (.Name x p) ix tpos] e pos.line X.env = pure false := by rfl) (hw : swappedStores [.Subscript (.Name x p) ix tpos] e X.env = pure none := by rfl)
    (h1 : (assignEach [.Subscript (.Name x p) ix tpos] X.env).map (·.2) = [assign (.Subscript (.Name x p) ix tpos) X.env] := by rfl) : rS X (.Assign [.Subscript (.Name x p) ix tpos] e pos) De σ H := by
  obtain ⟨W, a⟩ := h
  refine of_ps (ps_asg pe_r (pg_sub (pe_var hi hx hd hcd) pe_r set_list ha) hs hw h1) (a.run he fun v H2 e2 r2 => ?_)
  obtain ⟨q, xs, hq, hxs, hr⟩ := (a.ex e2).own ho
  refine ⟨.ref q, hq, (a.ex e2).run hj fun y H3 e3 r3 => ?_⟩
  have h2 : H3 q = some (.lst xs) := e3.ob _ _ hxs fun ps z => by cases z
  refine ⟨q, xs, j, j, rfl, r3, h2, ?_, k _ _ ⟨W, ((a.ex e2).ex e3).mutL ho hq ((hr.ex e3).set j (r2.ex e3))⟩⟩
  unfold ixN
  rw [hr.length, if_pos (by omega), if_pos (by omega)]
  simp
/-! dicts of ints -/
def mkD (ks : List Int) (f : Int → D) : D := .dct ks (ks.map f)
def insK (ks : List Int) (k : Int) : List Int := if k ∈ ks then ks else ks ++ [k]
def updF (f : Int → D) (k : Int) (d : D) : Int → D := fun j => if j = k then d else f j
theorem dAt_mk {f : Int → D} {k : Int} : ∀ {ks : List Int}, k ∈ ks → dAt ks (ks.map f) k = some (f k)
  | [], h => by cases h
  | a :: ks, h => by
    show (if a = k then some (f a) else dAt ks (ks.map f) k) = _
    by_cases e : a = k
    · rw [if_pos e, e]
    · rw [if_neg e]
      exact dAt_mk ((List.mem_cons.mp h).resolve_left fun z => e z.symm)
theorem dAt_no {f : Int → D} {k : Int} : ∀ {ks : List Int}, k ∉ ks → dAt ks (ks.map f) k = none
  | [], h => rfl
  | a :: ks, h => by
    show (if a = k then some (f a) else dAt ks (ks.map f) k) = _
    rw [if_neg fun z => h (by simp [z])]
    exact dAt_no fun z => h (by simp [z])
theorem put_rep {K : PySem.W.Frag} {W : List Addr} {H : Hp} {ks : List Int} {f : Int → D} {kvs : List (Key × V)} {k : Int} {v : V} (hk : kvs.map (·.1) = ks.map Sum.inl) (hr : Reps K W H (ks.map f) (kvs.map (·.2))) (rv : Rep K W H d v) :
    (putK kvs (.inl k) v).map (·.1) = (insK ks k).map Sum.inl ∧ Reps K W H ((insK ks k).map (updF f k d)) ((putK kvs (.inl k) v).map (·.2)) := by
  have any_mem : (kvs.any fun kv => decide (kv.1 = (Sum.inl k : Key))) = true ↔ k ∈ ks := by
    have : (Sum.inl k : Key) ∈ kvs.map (·.1) ↔ k ∈ ks := by
      rw [hk, List.mem_map]
      exact ⟨fun ⟨a, h1, h2⟩ => Sum.inl.inj h2 ▸ h1, fun h => ⟨k, h, rfl⟩⟩
    rw [← this]
    simp [List.any_eq_true, List.mem_map]
  unfold putK insK
  by_cases hm : k ∈ ks
  · rw [if_pos (any_mem.mpr hm), if_pos hm]
    refine ⟨?_, ?_⟩
    · rw [← hk, List.map_map]
      refine List.map_congr_left fun kv _ => ?_
      simp only [Function.comp]
      split <;> rfl
    · clear any_mem hm
      induction ks generalizing kvs with
      | nil =>
        cases kvs with
        | nil => exact .nil
        | cons _ _ => simp at hk
      | cons a ks ih =>
        cases kvs with
        | nil => simp at hk
        | cons kv kvs =>
          simp only [List.map_cons, List.cons.injEq] at hk
          obtain ⟨x, r, e2, rx, rt⟩ := (show Reps K W H (f a :: ks.map f) (kv.2 :: kvs.map (·.2)) from hr).cons_inv
          cases e2
          refine Reps.cons ?_ (ih hk.2 rt)
          show Rep K W H (if a = k then d else f a) (if kv.1 = (Sum.inl k : Key) then (kv.1, v) else kv).2
          by_cases e : a = k
          · rw [if_pos e, if_pos (show kv.1 = (Sum.inl k : Key) by rw [hk.1, e])]
            exact rv
          · rw [if_neg e, if_neg (show ¬ kv.1 = (Sum.inl k : Key) from fun z => e (Sum.inl.inj (hk.1.symm.trans z)))]
            exact rx
  · rw [if_neg fun z => hm (any_mem.mp z), if_neg hm]
    refine ⟨by simp [hk], ?_⟩
    rw [List.map_append, List.map_append]
    refine Reps.append ?_ (.one ?_)
    · have : ks.map (updF f k d) = ks.map f := List.map_congr_left fun j hj => by
        have n : ¬ j = k := fun z => hm (z ▸ hj)
        show (if j = k then d else f j) = f j
        rw [if_neg n]
      rw [this]
      exact hr
    · unfold updF
      rw [if_pos rfl]
      exact rv
/-- x[k] = e, x a dict of its own -/
theorem s_put {ix : Expr} {tpos : Pos} {ks : List Int} {f : Int → D} {j : Int} (hu : X.A.units + 1 < cLine) (h : At X.K T bs Γ σ H) (ho : Γ[i]? = some (.own m (mkD ks f))) (he : EE X T Γ e d) (hj : EE X T Γ ix (.int j)) (hz : ks.length < 100000) (k : ∀ σ' H', At X.K T bs (Γ.set i (.own m (mkD (insK ks j) (updF f j d)))) σ' H' → De.nx σ' H') (hi : X.N[i]? = some x) (hx : Vis X.env.scope x)
    (hd : (x == ("__debug__" : Str)) = false := by decide) (hcd : (x == ("__classdict__" : Str)) = false := by decide) (hs : swapsWith e (some (.Subscript (.Name x p) ix tpos)) pos.line X.env = pure false := by rfl) : rS X (.Assign [.Subscript (.Name x p) ix tpos] e pos) De σ H := by
  obtain ⟨W, a⟩ := h
  refine of_ps (ps_dput hu (pe_var hi hx hd hcd) pe_r pe_r hs) (a.run he fun v H2 e2 r2 => ?_)
  obtain ⟨q, kvs, hq, hkv, hk, hr⟩ := (a.ex e2).ownD ho
  refine ⟨.ref q, hq, (a.ex e2).run hj fun y H3 e3 r3 => ?_⟩
  have h2 : H3 q = some (.dK kvs) := e3.ob _ _ hkv fun ps z => by cases z
  have hl : kvs.length = ks.length := by
    have := congrArg List.length hk
    simpa using this
  obtain ⟨w1, w2⟩ := put_rep (k := j) hk (hr.ex e3) (r2.ex e3)
  exact ⟨q, _, rfl, .inl ⟨kvs, .inl j, h2, r3, by rw [hl]; exact Nat.lt_of_lt_of_le hz (by decide), rfl⟩, k _ _ ⟨W, ((a.ex e2).ex e3).mutD ho hq w1 w2⟩⟩
/-- x = {} -/
theorem s_dict {dpos : Pos} (h : At X.K T bs Γ σ H) (k : ∀ σ' H', At X.K T bs (Γ.set i (.own 0 (mkD [] fun _ => .no))) σ' H' → De.nx σ' H') (hN : X.N.Nodup) (hi : X.N[i]? = some x) (hx : Loc X.env.scope x) (hs : swapsWith (.Dict [] [] dpos) (some (.Name x p)) pos.line X.env = pure false := by rfl) (hf : X.fn x = true ∨ X.env.scope.names.lookup x = some .local := by first | exact .inl rfl | exact .inr rfl) :
    rS X (.Assign [.Name x p] (.Dict [] [] dpos) pos) De σ H := let ⟨W, a⟩ := h
  of_ps (ps_set hN hi hx pe_dnewK hs hf) fun q hq => k _ _ ⟨q :: W, a.putOwnD (Nw.of hq) (Ex.new hq) upd_same rfl .nil⟩

/-! ### loops -/
abbrev putO (Γ : List (Option D)) (ps : List (Nat × D)) : List (Option D) := ps.foldl (fun g q => g.set q.1 (some q.2)) Γ
abbrev putS (Γ : List Sl) (ps : List (Nat × D)) : List Sl := ps.foldl (fun g q => g.set q.1 (.d q.2)) Γ
theorem sh_put : ∀ (ps : List (Nat × D)) (Γ : List Sl), sh (putS Γ ps) = putO (sh Γ) ps
  | [], _ => rfl
  | q :: ps, Γ => by
    show sh (putS (Γ.set q.1 (.d q.2)) ps) = putO ((sh Γ).set q.1 (some q.2)) ps
    rw [sh_put ps]
    have e : sh (Γ.set q.1 (.d q.2)) = (sh Γ).set q.1 (some q.2) := by
      show (Γ.set q.1 (.d q.2)).map Sl.sh = (Γ.map Sl.sh).set q.1 (some q.2)
      rw [List.map_set]
      rfl
    rw [e]
theorem put_own : ∀ (ps : List (Nat × D)) (Γ : List Sl) {j n : Nat} {y : D}, (putS Γ ps)[j]? = some (.own n y) → Γ[j]? = some (.own n y) ∧ j ∉ ps.map (·.1)
  | [], _, _, _, _, h => ⟨h, by simp⟩
  | q :: ps, Γ, j, n, y, h => by
    obtain ⟨h1, h2⟩ := put_own ps (Γ.set q.1 (.d q.2)) h
    by_cases e : q.1 = j
    · rw [List.getElem?_set, if_pos e] at h1
      split at h1 <;> cases h1
    · rw [List.getElem?_set_ne e] at h1
      exact ⟨h1, by simp [Ne.symm e]; intro z hz; exact h2 (List.mem_map.mpr ⟨_, hz, rfl⟩)⟩
theorem putS_len : ∀ (ps : List (Nat × D)) (Γ : List Sl), (putS Γ ps).length = Γ.length
  | [], _ => rfl
  | q :: ps, Γ => by
    show (putS (Γ.set q.1 (.d q.2)) ps).length = _
    rw [putS_len ps, List.length_set]
theorem AtW.sim {K : PySem.W.Frag} {ps : List (Nat × D)} {σ' : L2.St} (a : AtW K T bs Γ W σ H) (s : Sim (ps.map (·.1)) σ σ') (P : Pr K T W H (putO (sh Γ) ps) σ') : AtW K T bs (putS Γ ps) W σ' H := by
  obtain ⟨ft, a⟩ := a
  refine ⟨ft, a.al, a.tb, a.ba, by rw [putS_len, s.1]; exact a.len, fun j y hj => ?_, fun j n y hj => ?_, fun j k n1 n2 y1 y2 hjk h1 h2 => ?_, fun m x b r e1 e2 e3 => ?_⟩
  · refine P.en.at_ j y ?_
    rw [← sh_put, List.getElem?_map, hj]
    rfl
  · obtain ⟨h1, h2⟩ := put_own ps Γ hj
    rw [s.2 j h2]
    exact a.ow j n y h1
  · exact a.ne j k n1 n2 y1 y2 hjk (put_own ps Γ h1).1 (put_own ps Γ h2).1
  · obtain ⟨e1, e4⟩ := put_own ps Γ e1
    rw [s.2 0 e4]
    exact a.pn m x b r e1 e2 e3
/-- a target, whatever the slots hold -/
def Gd (X : Cx) (tg : Expr) (d : D) (ps : List (Nat × D)) : Prop := ∀ (T : TbL) (Γ : List (Option D)), G X T Γ tg d (ps.map (·.1)) (putO Γ ps)
theorem s_for {α : Type} {as : List α} {ed : α → D} {ps : α → List (Nat × D)} {tg iter : Expr} (Γs : Nat → List Sl) (hc : X.calm = true) (h : At X.K T bs Γ σ H) (hi : I X T (sh Γ) tg iter (as.map ed)) (h0 : Wk (Γs 0) (Γ.map Sl.up)) (hg : ∀ (i : Nat) (a : α), as[i]? = some a → Gd X tg (ed a) (ps a))
    (hb : ∀ (b0 : Bas) (i : Nat) (a : α) σ' H', as[i]? = some a → At X.K T (b0 :: bs) (putS (Γs i) (ps a)) σ' H' → rSs X body { De with nx := fun σ H => At X.K T (b0 :: bs) (Γs (i + 1)) σ H, ct := fun σ H => At X.K T (b0 :: bs) (Γs (i + 1)) σ H, bk := De.nx } σ' H')
    (hd : ∀ σ' H', At X.K T bs ((Γs as.length).map Sl.dn) σ' H' → De.nx σ' H') (hp : PassesOwn (model X.prog X.w) X.A X.env X.xe := by exact PassesOwn.never) (hs : ∀ x, foldedSetIterable iter X.env x = pure x := by intro _; rfl) : rS X (.For tg iter body [] pos) De σ H := by
  obtain ⟨W, a⟩ := h
  have hJ : (as.map ed).length = as.length := List.length_map ..
  refine of_ps (ps_for hp hc pi_r pg_r pss_r hs) (hi W σ H a.pr _ fun J H1 e1 it => ?_)
  refine ⟨fun i m σ' H' => m = as.length - i ∧ i ≤ as.length ∧ At X.K T (⟨W, H1, W, none⟩ :: bs) (Γs i) σ' H', ⟨as.length, by simp, Nat.zero_le _, W, (a.ex e1).push.wk h0⟩, ?_⟩
  rintro i m σ' H' ⟨rfl, hle, W2, a2⟩
  have ok := a2.ba ⟨W, H1, W, none⟩ List.mem_cons_self
  by_cases hlt : i < as.length
  · have ha : as[i]? = some as[i] := List.getElem?_eq_getElem hlt
    refine .inr ⟨it.go i H' ok.mx (by rw [hJ]; exact hlt), fun σ H => At X.K T (⟨W, H1, W, none⟩ :: bs) (Γs (i + 1)) σ H, fun σ2 H2 q => ⟨as.length - (i + 1), by omega, rfl, hlt, q⟩, fun v H3 hy => ?_⟩
    obtain ⟨e3, r3⟩ := it.yld W2 i (ed as[i]) H' v H3 ok.new ok.mx (by rw [List.getElem?_map, ha]; rfl) hy
    exact hg i _ ha T (sh (Γs i)) W2 σ' H3 v (a2.ex e3).pr r3 _ fun σ4 sm P4 => hb _ i _ σ4 H3 ha ⟨W2, (a2.ex e3).sim sm P4⟩
  · have hie : i = as.length := by omega
    subst hie
    exact .inl ⟨by rw [← hJ]; exact it.stop H' ok.mx, hd _ _ ⟨W2, a2.pop⟩⟩
theorem s_while {S : Type} (Iv : S → Prop) (Γs : S → List Sl) (μ : S → Nat) (cb : S → Bool) (s0 : S) (h : At X.K T bs Γ σ H) (i0 : Iv s0) (h0 : Wk (Γs s0) Γ) (hc : ∀ s, Iv s → B X T (al (Γs s)) c (cb s))
    (hb : ∀ s σ' H', Iv s → cb s = true → At X.K T bs (Γs s) σ' H' → rSs X body { De with nx := fun σ H => ∃ s', Iv s' ∧ μ s' < μ s ∧ At X.K T bs (Γs s') σ H, ct := fun σ H => ∃ s', Iv s' ∧ μ s' < μ s ∧ At X.K T bs (Γs s') σ H, bk := De.nx } σ' H')
    (hd : ∀ s σ' H', Iv s → cb s = false → At X.K T bs (Γs s) σ' H' → De.nx σ' H') (hp : PassesOwn (model X.prog X.w) X.A X.env X.xe := by exact PassesOwn.never) : rS X (.While c body [] pos) De σ H := by
  refine of_ps (ps_while hp pt_r pss_r) ⟨fun m σ' H' => ∃ s, Iv s ∧ m = μ s ∧ At X.K T bs (Γs s) σ' H', ⟨μ s0, s0, i0, rfl, h.wk h0⟩, ?_⟩
  rintro m σ' H' ⟨s, is, rfl, W, a⟩
  refine hc s is [] σ' H' a.prA _ fun H2 e2 => ?_
  cases hcb : cb s with
  | false =>
    show De.nx σ' H2
    exact hd s σ' H2 is hcb ⟨W, a.ex e2⟩
  | true =>
    show ∃ N : L2.St → Hp → Prop, (∀ σ3 H3, N σ3 H3 → _) ∧ _
    exact ⟨fun σ H => ∃ s', Iv s' ∧ μ s' < μ s ∧ At X.K T bs (Γs s') σ H, fun σ3 H3 ⟨s', i', l', q⟩ => ⟨μ s', l', s', i', rfl, q⟩, hb s σ' H2 is hcb ⟨W, a.ex e2⟩⟩
end
end Dv
/-! ## DvH -/
set_option maxHeartbeats 4000000
/-! Judgements by data: a def keeps its promise. -/
namespace Dv
open PySem PySem.Spec PyProof.Rows L2 Gx

def entry (N : List Str) (ds : List D) : List Sl := ds.map .d ++ List.replicate (N.length - ds.length) .un
theorem at_entry {K : PySem.W.Frag} {T : TbL} {N : List Str} {W : List Addr} {H : Hp} {ds : List D} {vs : List V} (al : Al W H) (tb : LamX.Tabs T H) (r : Reps K W H ds vs) : At K T [⟨[], H, W, none⟩] (entry N ds) (L2.start N vs) H := by
  have hl := r.length
  have g : ∀ {i : Nat} {s : Sl}, (entry N ds)[i]? = some s → (∃ d, ds[i]? = some d ∧ s = .d d) ∨ s = .un := fun {i s} h => by
    unfold entry at h
    rw [List.getElem?_append] at h
    split at h
    · rw [List.getElem?_map] at h
      cases q : ds[i]? with
      | none => rw [q] at h; cases h
      | some d => rw [q] at h; cases h; exact .inl ⟨d, rfl, rfl⟩
    · rw [List.getElem?_replicate] at h
      split at h
      · cases h; exact .inr rfl
      · cases h
  refine ⟨W, fun _ => [], al, tb, fun b hb => ?_, ?_, fun i x h => ?_, fun i m x h => ?_, fun i j m n x y _ h _ => ?_, fun m x b r h _ _ => ?_⟩
  · rw [List.mem_singleton.mp hb]
    exact ⟨Mx.refl, fun x hx => .inl hx, fun x hx => hx, al, fun x hx => by cases hx⟩
  · simp [entry, L2.start, hl]
  · rcases g h with ⟨d, h1, h2⟩ | h2
    · cases h2
      obtain ⟨v, hv, rv⟩ := r.get h1
      refine ⟨v, ?_, rv⟩
      unfold L2.start
      rw [List.getElem?_append_left (by rw [List.length_map]; exact (List.getElem?_eq_some_iff.mp hv).1), List.getElem?_map, hv]
      rfl
    · cases h2
  · rcases g h with ⟨d, _, h2⟩ | h2 <;> cases h2
  · rcases g h with ⟨d, _, h2⟩ | h2 <;> cases h2
  · rcases g h with ⟨d, _, h2⟩ | h2 <;> cases h2

section
variable {P : Program} {w : World} {K : PySem.W.Frag} {mg : Str → Option Value} {base : Heap} {T : TbL} {x qual : Str} {params : Arguments} {body : List Stmt} {scope : Scope} {f : Addr} {fd : FuncData} {N ps : List Str} {k : Nat} {R : List D → D → Prop}
abbrev BodyOk (P : Program) (w : World) (K : PySem.W.Frag) (mg : Str → Option Value) (base : Heap) (T : TbL) (qual : Str) (body : List Stmt) (scope : Scope) (f : Addr) (fd : FuncData) (N : List Str) (k : Nat) (R : List D → D → Prop) : Prop :=
  ∀ (cdv : Value) (A : Around) (outer : List Env) (s : Shared) (H0 : Hp) (Q : VK) (Ex0 : XK) (ds : List D) (d : D) (W : List Addr), fd.code = cdv → Room k (A.deeper (envOfC qual scope s.heap.objs.size f cdv)) → R ds d → (∀ v H', Ex T H0 H' → Rep K W H' d v → Q v H') →
    ∀ σ H, At K T [⟨[], H0, W, none⟩] (entry N ds) σ H → rSs (cxOf CX0 P w K mg base N qual scope f cdv A outer s H0 Ex0).nox body { nx := fun _ H' => Q .non H', rt := Q } σ H
theorem fnok_of (F : FunD K x qual params body scope [] [] f fd) (S : FnScope N ps scope) (len : ∀ ds d, R ds d → ds.length = ps.length) (hb : BodyOk P w K mg base T qual body scope f fd N k R) : FnOk P w K mg base CX0 (k + 1) f fd ps (spP K T R) := by
  obtain ⟨oc, od, dV, kV, doc, pm, an, cdv, ct, osl, rfl, lk, hcd, _, _⟩ := F.ex
  refine fn_of lk hcd S (fun vs H Q E0 h => ?_) fun A outer s H vs Q E0 hr h => ?_
  · obtain ⟨W, ds, d, hR, al, tb, r, _⟩ := h
    rw [r.length, len ds d hR]
  · obtain ⟨W, ds, d, hR, al, tb, r, hq⟩ := h
    exact ⟨_, PSs.nox pss_r, hb cdv A outer s H Q E0 ds d W rfl hr hR hq _ _ (at_entry al tb r)⟩
theorem fnC_of {y : Str} (F : FunD K x qual params body scope [] [] f fd) (hm : mg y = some (.ref f)) (S : FnScope N ps scope) (len : ∀ ds d, R ds d → ds.length = ps.length)
    (hbind : ∀ (kV doc pm : Value) (an : Option Addr) (cdv ct : Value) (us : List Value), us.length = ps.length → bindArgs (PySem.W.fnOf x qual params body scope .none kV doc pm an cdv ct) ⟨us, []⟩ = pure (ps.zip us)) (hb : BodyOk P w K mg base T qual body scope f fd N k R) :
    FnC P w K mg base T y (k + 1) R := ⟨f, fd, ps, hm, F.kp, F.bindsN hbind, fnok_of F S len hb⟩
theorem mtC_of {C : Addr} {y : Str} (F : FunD K x qual params body scope [] [] f fd) (hc : Cls K C) (hm : Meth K C y f) (S : FnScope N ps scope) (len : ∀ ds d, R ds d → ds.length = ps.length)
    (hbind : ∀ (kV doc pm : Value) (an : Option Addr) (cdv ct : Value) (us : List Value), us.length = ps.length → bindArgs (PySem.W.fnOf x qual params body scope .none kV doc pm an cdv ct) ⟨us, []⟩ = pure (ps.zip us)) (hb : BodyOk P w K mg base T qual body scope f fd N k R) :
    MtC P w K mg base T C y (k + 1) R := ⟨f, fd, ps, hc, hm, F.bindsN hbind, fnok_of F S len hb⟩
/-- the end: what is handed back -/
theorem fin {bs : List Bas} {Γ : List Sl} {W W' : List Addr} {σ : L2.St} {H0 H' : Hp} {d : D} {v : V} {Q : VK} (a : AtW K T bs Γ W' σ H') (r : Rep K W' H' d v) (k : ∀ v H', Ex T H0 H' → Rep K W H' d v → Q v H') (hb : (⟨[], H0, W, none⟩ : Bas) ∈ bs := by simp) : Q v H' := by
  have ok := a.ba _ hb
  exact k v H' ok.mx.ex (r.less ok.sub)
end
end Dv
/-! ## W0 -/
set_option maxHeartbeats 4000000
/-! What the head tells of the program, by names. -/
namespace Ev31
open PySem PySem.Spec PyProof.Rows L2 Gx Dv
structure Pg (w : World) (K : PySem.W.Frag) (mg : Str → Option Value) (base h : Heap) : Prop where
  says : He.SaysX fa fn [] tf ex w h K
  kin : K.In base
  ns : base.Ns mainGlobals mg
  tb : ∀ p ∈ tf, LamX.TabB base mg (He.cT K p).1 (He.cT K p).2
def TT (K : PySem.W.Frag) : TbL := [((He.cT K ("need_pattern", none)).2, ((("need_pattern" : Str) ++ ".<locals>.") ++ "<genexpr>" : Str)),
  ((He.cT K ("is_locked", none)).2, ((("is_locked" : Str) ++ ".<locals>.") ++ "<genexpr>" : Str)),
  ((He.cT K ("ceilings_of", none)).2, ((("ceilings_of" : Str) ++ ".<locals>.") ++ "<genexpr>" : Str)),
  ((He.cT K ("Locked", some "is_over")).2, ((("Locked.is_over" : Str) ++ ".<locals>.") ++ "<genexpr>" : Str)),
  ((He.cT K ("Locked", some "has_later")).2, ((("Locked.has_later" : Str) ++ ".<locals>.") ++ "<genexpr>" : Str)),
  ((He.cT K ("Locked", some "waits")).2, ((("Locked.waits" : Str) ++ ".<locals>.") ++ "<genexpr>" : Str)),
  ((He.cT K ("Locked", some "first")).2, ((("Locked.first" : Str) ++ ".<locals>.") ++ "<lambda>" : Str))]
theorem TT_map (K : PySem.W.Frag) : (TT K).map (·.1) = tf.map fun p => (He.cT K p).2 := rfl
theorem code_at {K : PySem.W.Frag} {x qual : Str} {params : Arguments} {body : List Stmt} {scope : Scope} {p : He.Defn} {fd : FuncData} (F : FunD K x qual params body scope [] [] (He.fAd K p) fd) : fd.code = .ref (He.cT K p).1 := by
  obtain ⟨oc, od, dV, kV, doc, pm, an, cdv, ct, osl, rfl, lk, hcd, _, _⟩ := F.ex
  obtain ⟨c, rfl⟩ := He.codeIn_ref hcd
  show Value.ref c = Value.ref (He.codeOf K p)
  rw [He.codeOf_eq lk rfl]
theorem uniq_of {T : TbL} (h : (T.map (·.1)).Nodup) {P : Addr} {q : Str} (hm : (P, q) ∈ T) : ∀ r ∈ T, r.1 = P → r.2 = q := by
  intro r hr e
  induction T with
  | nil => cases hr
  | cons t T ih =>
    simp only [List.map_cons, List.nodup_cons] at h
    rcases List.mem_cons.mp hr with z | z
    · rcases List.mem_cons.mp hm with y | y
      · rw [z, ← y]
      · exact (h.1 (List.mem_map.mpr ⟨_, y, by rw [← z, e]⟩)).elim
    · rcases List.mem_cons.mp hm with y | y
      · exact (h.1 (List.mem_map.mpr ⟨r, z, by rw [e, ← y]⟩)).elim
      · exact ih h.2 y z
section
variable {w : World} {K : PySem.W.Frag} {mg : Str → Option Value} {base h : Heap}
theorem Pg.nd (g : Pg w K mg base h) : ((TT K).map (·.1)).Nodup := by
  have e := g.says.more
  unfold ex at e
  rw [Bool.and_eq_true] at e
  rw [TT_map]
  exact of_decide_eq_true e.2
theorem Pg.prot (g : Pg w K mg base h) (H : Hp) : SqT K H (He.ga K "PROTOCOLS") [.str "plain", .str "inherit", .str "ceiling", .str "stack"] := by
  have e := g.says.more
  unfold ex at e
  rw [Bool.and_eq_true] at e
  exact He.tupB_ok e.1 H
theorem Pg.a_is_in (g : Pg w K mg base h) : mg "is_in" = some (.ref (He.fAd K ("is_in", none))) := He.glo_ok g.kin g.ns (g.says.t.d.fact 0 (f := .glo "is_in") rfl)
theorem Pg.d_is_in (g : Pg w K mg base h) : ∃ fd, FunD K "is_in" "is_in" (defArgs s_is_in) (defBody s_is_in) (defScope s_is_in) [] [] (He.fAd K ("is_in", none)) fd := g.says.t.d.def_ 0 rfl
theorem Pg.a_are_arrivals (g : Pg w K mg base h) : mg "are_arrivals" = some (.ref (He.fAd K ("are_arrivals", none))) := He.glo_ok g.kin g.ns (g.says.t.d.fact 1 (f := .glo "are_arrivals") rfl)
theorem Pg.d_are_arrivals (g : Pg w K mg base h) : ∃ fd, FunD K "are_arrivals" "are_arrivals" (defArgs s_are_arrivals) (defBody s_are_arrivals) (defScope s_are_arrivals) [] [] (He.fAd K ("are_arrivals", none)) fd := g.says.t.d.def_ 1 rfl
theorem Pg.a_need_pattern (g : Pg w K mg base h) : mg "need_pattern" = some (.ref (He.fAd K ("need_pattern", none))) := He.glo_ok g.kin g.ns (g.says.t.d.fact 2 (f := .glo "need_pattern") rfl)
theorem Pg.d_need_pattern (g : Pg w K mg base h) : ∃ fd, FunD K "need_pattern" "need_pattern" (defArgs s_need_pattern) (defBody s_need_pattern) (defScope s_need_pattern) [] [] (He.fAd K ("need_pattern", none)) fd := g.says.t.d.def_ 2 rfl
theorem Pg.a_need_task (g : Pg w K mg base h) : mg "need_task" = some (.ref (He.fAd K ("need_task", none))) := He.glo_ok g.kin g.ns (g.says.t.d.fact 3 (f := .glo "need_task") rfl)
theorem Pg.d_need_task (g : Pg w K mg base h) : ∃ fd, FunD K "need_task" "need_task" (defArgs s_need_task) (defBody s_need_task) (defScope s_need_task) [] [] (He.fAd K ("need_task", none)) fd := g.says.t.d.def_ 3 rfl
theorem Pg.a_is_section (g : Pg w K mg base h) : mg "is_section" = some (.ref (He.fAd K ("is_section", none))) := He.glo_ok g.kin g.ns (g.says.t.d.fact 4 (f := .glo "is_section") rfl)
theorem Pg.d_is_section (g : Pg w K mg base h) : ∃ fd, FunD K "is_section" "is_section" (defArgs s_is_section) (defBody s_is_section) (defScope s_is_section) [] [] (He.fAd K ("is_section", none)) fd := g.says.t.d.def_ 4 rfl
theorem Pg.a_fit (g : Pg w K mg base h) : mg "fit" = some (.ref (He.fAd K ("fit", none))) := He.glo_ok g.kin g.ns (g.says.t.d.fact 5 (f := .glo "fit") rfl)
theorem Pg.d_fit (g : Pg w K mg base h) : ∃ fd, FunD K "fit" "fit" (defArgs s_fit) (defBody s_fit) (defScope s_fit) [] [] (He.fAd K ("fit", none)) fd := g.says.t.d.def_ 5 rfl
theorem Pg.a_is_locked (g : Pg w K mg base h) : mg "is_locked" = some (.ref (He.fAd K ("is_locked", none))) := He.glo_ok g.kin g.ns (g.says.t.d.fact 6 (f := .glo "is_locked") rfl)
theorem Pg.d_is_locked (g : Pg w K mg base h) : ∃ fd, FunD K "is_locked" "is_locked" (defArgs s_is_locked) (defBody s_is_locked) (defScope s_is_locked) [] [] (He.fAd K ("is_locked", none)) fd := g.says.t.d.def_ 6 rfl
theorem Pg.a_need_locked (g : Pg w K mg base h) : mg "need_locked" = some (.ref (He.fAd K ("need_locked", none))) := He.glo_ok g.kin g.ns (g.says.t.d.fact 7 (f := .glo "need_locked") rfl)
theorem Pg.d_need_locked (g : Pg w K mg base h) : ∃ fd, FunD K "need_locked" "need_locked" (defArgs s_need_locked) (defBody s_need_locked) (defScope s_need_locked) [] [] (He.fAd K ("need_locked", none)) fd := g.says.t.d.def_ 7 rfl
theorem Pg.a_plain_tasks (g : Pg w K mg base h) : mg "plain_tasks" = some (.ref (He.fAd K ("plain_tasks", none))) := He.glo_ok g.kin g.ns (g.says.t.d.fact 8 (f := .glo "plain_tasks") rfl)
theorem Pg.d_plain_tasks (g : Pg w K mg base h) : ∃ fd, FunD K "plain_tasks" "plain_tasks" (defArgs s_plain_tasks) (defBody s_plain_tasks) (defScope s_plain_tasks) [] [] (He.fAd K ("plain_tasks", none)) fd := g.says.t.d.def_ 8 rfl
theorem Pg.a_ceilings_of (g : Pg w K mg base h) : mg "ceilings_of" = some (.ref (He.fAd K ("ceilings_of", none))) := He.glo_ok g.kin g.ns (g.says.t.d.fact 9 (f := .glo "ceilings_of") rfl)
theorem Pg.d_ceilings_of (g : Pg w K mg base h) : ∃ fd, FunD K "ceilings_of" "ceilings_of" (defArgs s_ceilings_of) (defBody s_ceilings_of) (defScope s_ceilings_of) [] [] (He.fAd K ("ceilings_of", none)) fd := g.says.t.d.def_ 9 rfl
theorem Pg.d___init__ (g : Pg w K mg base h) : ∃ fd, FunD K "__init__" "Locked.__init__" (defArgs m_init) (defBody m_init) (defScope m_init) [] [] (He.fAd K ("Locked", some "__init__")) fd := g.says.t.d.def_ 10 rfl
theorem Pg.a_is_over (g : Pg w K mg base h) : Meth K (He.ga K "Locked") "is_over" (He.fAd K ("Locked", some "is_over")) := He.meth_ok (g.says.t.d.fact 10 (f := .meth "Locked" "is_over") rfl)
theorem Pg.d_is_over (g : Pg w K mg base h) : ∃ fd, FunD K "is_over" "Locked.is_over" (defArgs m_is_over) (defBody m_is_over) (defScope m_is_over) [] [] (He.fAd K ("Locked", some "is_over")) fd := g.says.t.d.def_ 11 rfl
theorem Pg.a_ready (g : Pg w K mg base h) : Meth K (He.ga K "Locked") "ready" (He.fAd K ("Locked", some "ready")) := He.meth_ok (g.says.t.d.fact 11 (f := .meth "Locked" "ready") rfl)
theorem Pg.d_ready (g : Pg w K mg base h) : ∃ fd, FunD K "ready" "Locked.ready" (defArgs m_ready) (defBody m_ready) (defScope m_ready) [] [] (He.fAd K ("Locked", some "ready")) fd := g.says.t.d.def_ 12 rfl
theorem Pg.a_has_later (g : Pg w K mg base h) : Meth K (He.ga K "Locked") "has_later" (He.fAd K ("Locked", some "has_later")) := He.meth_ok (g.says.t.d.fact 12 (f := .meth "Locked" "has_later") rfl)
theorem Pg.d_has_later (g : Pg w K mg base h) : ∃ fd, FunD K "has_later" "Locked.has_later" (defArgs m_has_later) (defBody m_has_later) (defScope m_has_later) [] [] (He.fAd K ("Locked", some "has_later")) fd := g.says.t.d.def_ 13 rfl
theorem Pg.a_held (g : Pg w K mg base h) : Meth K (He.ga K "Locked") "held" (He.fAd K ("Locked", some "held")) := He.meth_ok (g.says.t.d.fact 13 (f := .meth "Locked" "held") rfl)
theorem Pg.d_held (g : Pg w K mg base h) : ∃ fd, FunD K "held" "Locked.held" (defArgs m_held) (defBody m_held) (defScope m_held) [] [] (He.fAd K ("Locked", some "held")) fd := g.says.t.d.def_ 14 rfl
theorem Pg.a_wanted (g : Pg w K mg base h) : Meth K (He.ga K "Locked") "wanted" (He.fAd K ("Locked", some "wanted")) := He.meth_ok (g.says.t.d.fact 14 (f := .meth "Locked" "wanted") rfl)
theorem Pg.d_wanted (g : Pg w K mg base h) : ∃ fd, FunD K "wanted" "Locked.wanted" (defArgs m_wanted) (defBody m_wanted) (defScope m_wanted) [] [] (He.fAd K ("Locked", some "wanted")) fd := g.says.t.d.def_ 15 rfl
theorem Pg.a_waits (g : Pg w K mg base h) : Meth K (He.ga K "Locked") "waits" (He.fAd K ("Locked", some "waits")) := He.meth_ok (g.says.t.d.fact 15 (f := .meth "Locked" "waits") rfl)
theorem Pg.d_waits (g : Pg w K mg base h) : ∃ fd, FunD K "waits" "Locked.waits" (defArgs m_waits) (defBody m_waits) (defScope m_waits) [] [] (He.fAd K ("Locked", some "waits")) fd := g.says.t.d.def_ 16 rfl
theorem Pg.a_currents (g : Pg w K mg base h) : Meth K (He.ga K "Locked") "currents" (He.fAd K ("Locked", some "currents")) := He.meth_ok (g.says.t.d.fact 16 (f := .meth "Locked" "currents") rfl)
theorem Pg.d_currents (g : Pg w K mg base h) : ∃ fd, FunD K "currents" "Locked.currents" (defArgs m_currents) (defBody m_currents) (defScope m_currents) [] [] (He.fAd K ("Locked", some "currents")) fd := g.says.t.d.def_ 17 rfl
theorem Pg.a_first (g : Pg w K mg base h) : Meth K (He.ga K "Locked") "first" (He.fAd K ("Locked", some "first")) := He.meth_ok (g.says.t.d.fact 17 (f := .meth "Locked" "first") rfl)
theorem Pg.d_first (g : Pg w K mg base h) : ∃ fd, FunD K "first" "Locked.first" (defArgs m_first) (defBody m_first) (defScope m_first) [] [] (He.fAd K ("Locked", some "first")) fd := g.says.t.d.def_ 18 rfl
theorem Pg.a_work (g : Pg w K mg base h) : Meth K (He.ga K "Locked") "work" (He.fAd K ("Locked", some "work")) := He.meth_ok (g.says.t.d.fact 18 (f := .meth "Locked" "work") rfl)
theorem Pg.d_work (g : Pg w K mg base h) : ∃ fd, FunD K "work" "Locked.work" (defArgs m_work) (defBody m_work) (defScope m_work) [] [] (He.fAd K ("Locked", some "work")) fd := g.says.t.d.def_ 19 rfl
theorem Pg.a_locked_units (g : Pg w K mg base h) : mg "locked_units" = some (.ref (He.fAd K ("locked_units", none))) := He.glo_ok g.kin g.ns (g.says.t.d.fact 19 (f := .glo "locked_units") rfl)
theorem Pg.d_locked_units (g : Pg w K mg base h) : ∃ fd, FunD K "locked_units" "locked_units" (defArgs s_locked_units) (defBody s_locked_units) (defScope s_locked_units) [] [] (He.fAd K ("locked_units", none)) fd := g.says.t.d.def_ 20 rfl
theorem Pg.a_need_protocol (g : Pg w K mg base h) : mg "need_protocol" = some (.ref (He.fAd K ("need_protocol", none))) := He.glo_ok g.kin g.ns (g.says.t.d.fact 20 (f := .glo "need_protocol") rfl)
theorem Pg.d_need_protocol (g : Pg w K mg base h) : ∃ fd, FunD K "need_protocol" "need_protocol" (defArgs s_need_protocol) (defBody s_need_protocol) (defScope s_need_protocol) [] [] (He.fAd K ("need_protocol", none)) fd := g.says.t.d.def_ 21 rfl
theorem Pg.a_blocking_rows (g : Pg w K mg base h) : mg "blocking_rows" = some (.ref (He.fAd K ("blocking_rows", none))) := He.glo_ok g.kin g.ns (g.says.t.d.fact 21 (f := .glo "blocking_rows") rfl)
theorem Pg.d_blocking_rows (g : Pg w K mg base h) : ∃ fd, FunD K "blocking_rows" "blocking_rows" (defArgs s_blocking_rows) (defBody s_blocking_rows) (defScope s_blocking_rows) [] [] (He.fAd K ("blocking_rows", none)) fd := g.says.t.d.def_ 22 rfl
theorem Pg.a_blocked_units (g : Pg w K mg base h) : mg "blocked_units" = some (.ref (He.fAd K ("blocked_units", none))) := He.glo_ok g.kin g.ns (g.says.t.d.fact 22 (f := .glo "blocked_units") rfl)
theorem Pg.d_blocked_units (g : Pg w K mg base h) : ∃ fd, FunD K "blocked_units" "blocked_units" (defArgs s_blocked_units) (defBody s_blocked_units) (defScope s_blocked_units) [] [] (He.fAd K ("blocked_units", none)) fd := g.says.t.d.def_ 23 rfl
theorem Pg.a_blockers (g : Pg w K mg base h) : mg "blockers" = some (.ref (He.fAd K ("blockers", none))) := He.glo_ok g.kin g.ns (g.says.t.d.fact 23 (f := .glo "blockers") rfl)
theorem Pg.d_blockers (g : Pg w K mg base h) : ∃ fd, FunD K "blockers" "blockers" (defArgs s_blockers) (defBody s_blockers) (defScope s_blockers) [] [] (He.fAd K ("blockers", none)) fd := g.says.t.d.def_ 24 rfl
theorem Pg.a_worst_section (g : Pg w K mg base h) : mg "worst_section" = some (.ref (He.fAd K ("worst_section", none))) := He.glo_ok g.kin g.ns (g.says.t.d.fact 24 (f := .glo "worst_section") rfl)
theorem Pg.d_worst_section (g : Pg w K mg base h) : ∃ fd, FunD K "worst_section" "worst_section" (defArgs s_worst_section) (defBody s_worst_section) (defScope s_worst_section) [] [] (He.fAd K ("worst_section", none)) fd := g.says.t.d.def_ 25 rfl
theorem Pg.a_worst_blocking (g : Pg w K mg base h) : mg "worst_blocking" = some (.ref (He.fAd K ("worst_blocking", none))) := He.glo_ok g.kin g.ns (g.says.t.d.fact 25 (f := .glo "worst_blocking") rfl)
theorem Pg.d_worst_blocking (g : Pg w K mg base h) : ∃ fd, FunD K "worst_blocking" "worst_blocking" (defArgs s_worst_blocking) (defBody s_worst_blocking) (defScope s_worst_blocking) [] [] (He.fAd K ("worst_blocking", none)) fd := g.says.t.d.def_ 26 rfl
theorem Pg.a__law_taken (g : Pg w K mg base h) : mg "_law_taken" = some (.ref (He.fAd K ("_law_taken", none))) := He.glo_ok g.kin g.ns (g.says.t.d.fact 26 (f := .glo "_law_taken") rfl)
theorem Pg.d__law_taken (g : Pg w K mg base h) : ∃ fd, FunD K "_law_taken" "_law_taken" (defArgs s_law_taken) (defBody s_law_taken) (defScope s_law_taken) [] [] (He.fAd K ("_law_taken", none)) fd := g.says.t.d.def_ 27 rfl
theorem Pg.a__law_pick (g : Pg w K mg base h) : mg "_law_pick" = some (.ref (He.fAd K ("_law_pick", none))) := He.glo_ok g.kin g.ns (g.says.t.d.fact 27 (f := .glo "_law_pick") rfl)
theorem Pg.d__law_pick (g : Pg w K mg base h) : ∃ fd, FunD K "_law_pick" "_law_pick" (defArgs s_law_pick) (defBody s_law_pick) (defScope s_law_pick) [] [] (He.fAd K ("_law_pick", none)) fd := g.says.t.d.def_ 28 rfl
theorem Pg.a__law_alike (g : Pg w K mg base h) : mg "_law_alike" = some (.ref (He.fAd K ("_law_alike", none))) := He.glo_ok g.kin g.ns (g.says.t.d.fact 28 (f := .glo "_law_alike") rfl)
theorem Pg.d__law_alike (g : Pg w K mg base h) : ∃ fd, FunD K "_law_alike" "_law_alike" (defArgs s_law_alike) (defBody s_law_alike) (defScope s_law_alike) [] [] (He.fAd K ("_law_alike", none)) fd := g.says.t.d.def_ 29 rfl
theorem Pg.a__law_sections (g : Pg w K mg base h) : mg "_law_sections" = some (.ref (He.fAd K ("_law_sections", none))) := He.glo_ok g.kin g.ns (g.says.t.d.fact 29 (f := .glo "_law_sections") rfl)
theorem Pg.d__law_sections (g : Pg w K mg base h) : ∃ fd, FunD K "_law_sections" "_law_sections" (defArgs s_law_sections) (defBody s_law_sections) (defScope s_law_sections) [] [] (He.fAd K ("_law_sections", none)) fd := g.says.t.d.def_ 30 rfl
theorem Pg.a__law_locked (g : Pg w K mg base h) : mg "_law_locked" = some (.ref (He.fAd K ("_law_locked", none))) := He.glo_ok g.kin g.ns (g.says.t.d.fact 30 (f := .glo "_law_locked") rfl)
theorem Pg.d__law_locked (g : Pg w K mg base h) : ∃ fd, FunD K "_law_locked" "_law_locked" (defArgs s_law_locked) (defBody s_law_locked) (defScope s_law_locked) [] [] (He.fAd K ("_law_locked", none)) fd := g.says.t.d.def_ 31 rfl
theorem Pg.a__law_arrivals (g : Pg w K mg base h) : mg "_law_arrivals" = some (.ref (He.fAd K ("_law_arrivals", none))) := He.glo_ok g.kin g.ns (g.says.t.d.fact 31 (f := .glo "_law_arrivals") rfl)
theorem Pg.d__law_arrivals (g : Pg w K mg base h) : ∃ fd, FunD K "_law_arrivals" "_law_arrivals" (defArgs s_law_arrivals) (defBody s_law_arrivals) (defScope s_law_arrivals) [] [] (He.fAd K ("_law_arrivals", none)) fd := g.says.t.d.def_ 32 rfl
theorem Pg.a__law_tops (g : Pg w K mg base h) : mg "_law_tops" = some (.ref (He.fAd K ("_law_tops", none))) := He.glo_ok g.kin g.ns (g.says.t.d.fact 32 (f := .glo "_law_tops") rfl)
theorem Pg.d__law_tops (g : Pg w K mg base h) : ∃ fd, FunD K "_law_tops" "_law_tops" (defArgs s_law_tops) (defBody s_law_tops) (defScope s_law_tops) [] [] (He.fAd K ("_law_tops", none)) fd := g.says.t.d.def_ 33 rfl
theorem Pg.a__law_holds (g : Pg w K mg base h) : mg "_law_holds" = some (.ref (He.fAd K ("_law_holds", none))) := He.glo_ok g.kin g.ns (g.says.t.d.fact 33 (f := .glo "_law_holds") rfl)
theorem Pg.d__law_holds (g : Pg w K mg base h) : ∃ fd, FunD K "_law_holds" "_law_holds" (defArgs s_law_holds) (defBody s_law_holds) (defScope s_law_holds) [] [] (He.fAd K ("_law_holds", none)) fd := g.says.t.d.def_ 34 rfl
theorem Pg.a__law_waits (g : Pg w K mg base h) : mg "_law_waits" = some (.ref (He.fAd K ("_law_waits", none))) := He.glo_ok g.kin g.ns (g.says.t.d.fact 34 (f := .glo "_law_waits") rfl)
theorem Pg.d__law_waits (g : Pg w K mg base h) : ∃ fd, FunD K "_law_waits" "_law_waits" (defArgs s_law_waits) (defBody s_law_waits) (defScope s_law_waits) [] [] (He.fAd K ("_law_waits", none)) fd := g.says.t.d.def_ 35 rfl
theorem Pg.a__law_currents (g : Pg w K mg base h) : mg "_law_currents" = some (.ref (He.fAd K ("_law_currents", none))) := He.glo_ok g.kin g.ns (g.says.t.d.fact 35 (f := .glo "_law_currents") rfl)
theorem Pg.d__law_currents (g : Pg w K mg base h) : ∃ fd, FunD K "_law_currents" "_law_currents" (defArgs s_law_currents) (defBody s_law_currents) (defScope s_law_currents) [] [] (He.fAd K ("_law_currents", none)) fd := g.says.t.d.def_ 36 rfl
theorem Pg.a__law_run (g : Pg w K mg base h) : mg "_law_run" = some (.ref (He.fAd K ("_law_run", none))) := He.glo_ok g.kin g.ns (g.says.t.d.fact 36 (f := .glo "_law_run") rfl)
theorem Pg.d__law_run (g : Pg w K mg base h) : ∃ fd, FunD K "_law_run" "_law_run" (defArgs s_law_run) (defBody s_law_run) (defScope s_law_run) [] [] (He.fAd K ("_law_run", none)) fd := g.says.t.d.def_ 37 rfl
theorem Pg.a__law_rows (g : Pg w K mg base h) : mg "_law_rows" = some (.ref (He.fAd K ("_law_rows", none))) := He.glo_ok g.kin g.ns (g.says.t.d.fact 37 (f := .glo "_law_rows") rfl)
theorem Pg.d__law_rows (g : Pg w K mg base h) : ∃ fd, FunD K "_law_rows" "_law_rows" (defArgs s_law_rows) (defBody s_law_rows) (defScope s_law_rows) [] [] (He.fAd K ("_law_rows", none)) fd := g.says.t.d.def_ 38 rfl
theorem Pg.a_law (g : Pg w K mg base h) : mg "law" = some (.ref (He.fAd K ("law", none))) := He.glo_ok g.kin g.ns (g.says.t.d.fact 38 (f := .glo "law") rfl)
theorem Pg.d_law (g : Pg w K mg base h) : ∃ fd, FunD K "law" "law" (defArgs s_law) (defBody s_law) (defScope s_law) [] [] (He.fAd K ("law", none)) fd := g.says.t.d.def_ 39 rfl
abbrev LkA (K : PySem.W.Frag) : Addr := He.ga K "Locked"
theorem Pg.a_Locked (g : Pg w K mg base h) : mg "Locked" = some (.ref (LkA K)) := He.glo_ok g.kin g.ns (g.says.t.d.fact 39 (f := .glo "Locked") rfl)
theorem Pg.a_PROTOCOLS (g : Pg w K mg base h) : mg "PROTOCOLS" = some (.ref (He.ga K "PROTOCOLS")) := He.glo_ok g.kin g.ns (g.says.t.d.fact 40 (f := .glo "PROTOCOLS") rfl)
theorem Pg.cls (g : Pg w K mg base h) : Cls K (LkA K) := He.cls_ok (g.says.t.d.fact 41 (f := .cls "Locked") rfl)
theorem Pg.makes (g : Pg w K mg base h) : Mk K (LkA K) (He.fAd K ("Locked", some "__init__")) := He.mkr_ok (g.says.t.d.fact 42 (f := .mkr "Locked") rfl)
theorem Pg.n_tasks (g : Pg w K mg base h) : NoAttr K (LkA K) "tasks" := He.noat_ok (g.says.t.d.fact 43 (f := .noat "Locked" "tasks") rfl)
theorem Pg.n_pattern (g : Pg w K mg base h) : NoAttr K (LkA K) "pattern" := He.noat_ok (g.says.t.d.fact 44 (f := .noat "Locked" "pattern") rfl)
theorem Pg.n_protocol (g : Pg w K mg base h) : NoAttr K (LkA K) "protocol" := He.noat_ok (g.says.t.d.fact 45 (f := .noat "Locked" "protocol") rfl)
theorem Pg.n_tops (g : Pg w K mg base h) : NoAttr K (LkA K) "tops" := He.noat_ok (g.says.t.d.fact 46 (f := .noat "Locked" "tops") rfl)
theorem Pg.n_done (g : Pg w K mg base h) : NoAttr K (LkA K) "done" := He.noat_ok (g.says.t.d.fact 47 (f := .noat "Locked" "done") rfl)
theorem Pg.n_units (g : Pg w K mg base h) : NoAttr K (LkA K) "units" := He.noat_ok (g.says.t.d.fact 48 (f := .noat "Locked" "units") rfl)
theorem Pg.fr (g : Pg w K mg base h) : Fr mg := ⟨He.free_ok g.kin g.ns (g.says.t.d.fact 49 (f := .free "isinstance") rfl), He.free_ok g.kin g.ns (g.says.t.d.fact 50 (f := .free "int") rfl), He.free_ok g.kin g.ns (g.says.t.d.fact 51 (f := .free "bool") rfl), He.free_ok g.kin g.ns (g.says.t.d.fact 52 (f := .free "tuple") rfl), He.free_ok g.kin g.ns (g.says.t.d.fact 53 (f := .free "str") rfl), He.free_ok g.kin g.ns (g.says.t.d.fact 54 (f := .free "list") rfl), He.free_ok g.kin g.ns (g.says.t.d.fact 55 (f := .free "set") rfl), He.free_ok g.kin g.ns (g.says.t.d.fact 56 (f := .free "dict") rfl), He.free_ok g.kin g.ns (g.says.t.d.fact 57 (f := .free "enumerate") rfl), He.free_ok g.kin g.ns (g.says.t.d.fact 58 (f := .free "len") rfl), He.free_ok g.kin g.ns (g.says.t.d.fact 59 (f := .free "range") rfl), He.free_ok g.kin g.ns (g.says.t.d.fact 60 (f := .free "any") rfl), He.free_ok g.kin g.ns (g.says.t.d.fact 61 (f := .free "all") rfl), He.free_ok g.kin g.ns (g.says.t.d.fact 62 (f := .free "sum") rfl), He.free_ok g.kin g.ns (g.says.t.d.fact 63 (f := .free "max") rfl), He.free_ok g.kin g.ns (g.says.t.d.fact 64 (f := .free "min") rfl), He.free_ok g.kin g.ns (g.says.t.d.fact 65 (f := .free "sorted") rfl)⟩
theorem Pg.i_MOST_COST (g : Pg w K mg base h) : ∃ t, mg "MOST_COST" = some (.int 20 t) := He.int_ok g.kin g.ns (g.says.t.d.fact 66 (f := .int "MOST_COST" 20) rfl)
theorem Pg.i_MOST_TIME (g : Pg w K mg base h) : ∃ t, mg "MOST_TIME" = some (.int 60 t) := He.int_ok g.kin g.ns (g.says.t.d.fact 67 (f := .int "MOST_TIME" 60) rfl)
theorem Pg.i_MOST_ARRIVAL (g : Pg w K mg base h) : ∃ t, mg "MOST_ARRIVAL" = some (.int 100 t) := He.int_ok g.kin g.ns (g.says.t.d.fact 68 (f := .int "MOST_ARRIVAL" 100) rfl)
theorem Pg.i_MOST_JOBS (g : Pg w K mg base h) : ∃ t, mg "MOST_JOBS" = some (.int 40 t) := He.int_ok g.kin g.ns (g.says.t.d.fact 69 (f := .int "MOST_JOBS" 40) rfl)
theorem Pg.i_MOST_LOCKED (g : Pg w K mg base h) : ∃ t, mg "MOST_LOCKED" = some (.int 5 t) := He.int_ok g.kin g.ns (g.says.t.d.fact 70 (f := .int "MOST_LOCKED" 5) rfl)
theorem Pg.i_MOST_SECTIONS (g : Pg w K mg base h) : ∃ t, mg "MOST_SECTIONS" = some (.int 4 t) := He.int_ok g.kin g.ns (g.says.t.d.fact 71 (f := .int "MOST_SECTIONS" 4) rfl)
theorem Pg.i_LOCKS (g : Pg w K mg base h) : ∃ t, mg "LOCKS" = some (.int 4 t) := He.int_ok g.kin g.ns (g.says.t.d.fact 72 (f := .int "LOCKS" 4) rfl)
end
end Ev31
/-! ## DvI -/
set_option maxHeartbeats 4000000
/-! Judgements by data: places of any kind; ends. -/
namespace Dv
open PySem PySem.Spec PyProof.Rows L2 Gx

def ixF : D → D → Option D
  | .tup l, .int i => atI l i
  | .lst l, .int i => atI l i
  | .dct ks l, .int i => dAt ks l i
  | _, _ => none
section
variable {X : Cx} {T : TbL} {Γ : List (Option D)} {a b : Expr} {d da db : D} {pos : Pos}
theorem e_ix (hu : X.A.units + 1 < cLine) (ha : E X T Γ a da) (hb : E X T Γ b db) (h : ixF da db = some d) (hs : PlainIx b := by intro _ _; rfl) (hs2 : NoSl b := by intro _ _; rfl) : E X T Γ (.Subscript a b pos) d := by
  cases db with
  | int i =>
    cases da with
    | tup l => exact e_ixT ha hb h hs
    | lst l => exact e_ixL ha hb h hs
    | dct ks l => exact e_ixD hu ha hb h hs2
    | _ => cases h
  | _ => cases da <;> cases h
end
theorem vr (i : Nat) {X : Cx} {T : TbL} {Γ : List (Option D)} {d : D} {x : Str} {pos : Pos} (hi : Γ[i]? = some (some d)) (hN : X.N[i]? = some x := by rfl) (hv : Vis X.env.scope x := by first | exact Or.inl rfl | exact Or.inr (Or.inl rfl) | exact Or.inr (Or.inr rfl))
    (hd : (x == ("__debug__" : Str)) = false := by decide) (hcd : (x == ("__classdict__" : Str)) = false := by decide) : E X T Γ (.Name x pos) d := e_var hi hN hv hd hcd
theorem filter_all {α : Type} : ∀ (l : List α), l.filter (fun _ => true) = l
  | [] => rfl
  | a :: l => by rw [List.filter_cons_of_pos rfl, filter_all l]
theorem ix_tup {α : Type} {e : α → D} {as : List α} {k : Nat} {a : α} (h : as[k]? = some a) : ixF (.tup (as.map e)) (.int (k : Int)) = some (e a) := atI_nat (by rw [List.getElem?_map, h]; rfl)
theorem ix_lst {α : Type} {e : α → D} {as : List α} {k : Nat} {a : α} (h : as[k]? = some a) : ixF (.lst (as.map e)) (.int (k : Int)) = some (e a) := atI_nat (by rw [List.getElem?_map, h]; rfl)
theorem ix_dct {ks : List Int} {f : Int → D} {k : Int} (h : k ∈ ks) : ixF (mkD ks f) (.int k) = some (f k) := dAt_mk h

section
variable {K : PySem.W.Frag} {T : TbL} {bs : List Bas} {Γ : List Sl} {W W' : List Addr} {σ : L2.St} {H0 H' : Hp} {d d' : D} {v : V} {Q : VK} {b1 b2 b3 : Bas}
theorem fin0 (k : ∀ v H', Ex T H0 H' → Rep K W H' d v → Q v H') (e : d' = d) (v : V) (H' : Hp) (W' : List Addr) (a : AtW K T [⟨[], H0, W, none⟩] Γ W' σ H') (r : Rep K W' H' d' v) : Q v H' := fin a (e ▸ r) k (by simp)
theorem fin1 (k : ∀ v H', Ex T H0 H' → Rep K W H' d v → Q v H') (e : d' = d) (v : V) (H' : Hp) (W' : List Addr) (a : AtW K T [b1, ⟨[], H0, W, none⟩] Γ W' σ H') (r : Rep K W' H' d' v) : Q v H' := fin a (e ▸ r) k (by simp)
theorem fin2 (k : ∀ v H', Ex T H0 H' → Rep K W H' d v → Q v H') (e : d' = d) (v : V) (H' : Hp) (W' : List Addr) (a : AtW K T [b1, b2, ⟨[], H0, W, none⟩] Γ W' σ H') (r : Rep K W' H' d' v) : Q v H' := fin a (e ▸ r) k (by simp)
end
end Dv
/-! ## GxI -/
set_option maxHeartbeats 4000000
/-! sum(..) of a generator expression that gives ints. -/
namespace Gx
open PySem PySem.Spec PyProof.Rows L2

/-- ended with n turns left of the bound; the object at S is as it was -/
def PEndN (Z : Cx) (σ0 : L2.St) (S : Addr) (Qe : Nat → Hp → Prop) (n : Nat) (s0 s1 : Shared) : Prop := ∃ H' o, s0.heap.get? S = some o ∧ Inv Z [(S, o)] σ0 H' s1 ∧ Qe n H'
/-- an int is handed out; the object at S may change before it goes on -/
def YInt (Z : Cx) (σ0 : L2.St) (S : Addr) (val : Nat → Int) : Protocol := fun n s0 v s1 kap => ∃ t H' o, v = .int (val n) t ∧ s0.heap.get? S = some o ∧ Inv Z [(S, o)] σ0 H' s1 ∧
  ∀ (s2 : Shared) (o2 : Obj), (∀ b u, b ≠ S → s1.heap.get? b = some u → s2.heap.get? b = some u) → s2.heap.get? S = some o2 → Inv Z [(S, o2)] σ0 H' s2 → kap (.send .none) s2
def TurnsI (J : It) (g : TG) (te : TE) (vs : List Nat) (σ0 : L2.St) (val : Nat → Int) (W : Nat → Nat → Hp → Prop) (Qe : Nat → Hp → Prop) : Prop := ∀ i m H, W i m H →
  (J.stop i H ∧ Qe (m + 1) H) ∨ (∃ m', m = m' + 1 ∧ J.go i H ∧ ∀ x H', J.yld i H x H' → g x σ0 H' fun σ2 H2 => wipe σ2 vs = σ0 ∧ te σ2 H2 fun y H3 => y = .int (val m) ∧ W (i + 1) m' H3)

section
variable {Z : Cx} {S : Addr} {A : Around} {tg iter elt : Expr} {scope : Scope} {gpos : Pos} {it : Addr} {fp : List Addr} {tn : Nat → Heap → Prop} {J : It} {g : TG} {te : TE} {vs : List Nat} {σ0 : L2.St} {val : Nat → Int} {W : Nat → Nat → Hp → Prop} {Qe : Nat → Hp → Prop}
theorem fp_okS {σ : L2.St} {H : Hp} {s : Shared} {o : Obj} (hSf : S ∉ fp) (hex : Z.ex = fp) (hpn : ∀ p ∈ Z.pn, p.1 ∉ fp) (I : Inv Z [(S, o)] σ H s) (hn : ∀ b ∈ fp, H b = none) : ∀ b ∈ fp, FpOk Z [(S, o)] H b := fun b hb =>
  ⟨hn b hb, (I.ok.exf b (by rw [hex]; exact hb)).1, I.ok.exfs b (by rw [hex]; exact hb), .inl (by rw [hex]; exact hb), fun x c e => (I.ok.exf b (by rw [hex]; exact hb)).2 x c e, fun p hp z => by
    rcases List.mem_append.mp hp with hp | hp
    · exact hpn p hp (by rw [z]; exact hb)
    · rw [List.mem_singleton.mp hp] at z
      exact hSf (by rw [show S = b from z]; exact hb)⟩
theorem seg_loopI (hSf : S ∉ fp) (hA : Z.A = A.deeper Z.env) (hcm : Z.calm = true) (hco : Z.env.scope.isCoroutine = false) (hex : Z.ex = fp) (hpn : ∀ p ∈ Z.pn, p.1 ∉ fp) (hxe : Z.xe = fun _ _ => False)
    (T : Turn Z.prog Z.w Z.K tg J fp it tn) (pg : PG Z tg g) (pe : PE Z elt te) (hW : TurnsI J g te vs σ0 val W Qe) (hs0 : ∀ σ2, wipe σ2 vs = σ0 → σ0.length = σ2.length) :
    ∀ (m i : Nat) (s₀ s : Shared) (H : Hp) (o : Obj), W i m H → s₀.heap.get? S = some o → Inv Z [(S, o)] σ0 H s → tn i s.heap → (∀ b ∈ fp, H b = none) →
      Seg (model Z.prog Z.w) A (fun n s₀ r s1 => r = .ok .next ∧ PEndN Z σ0 S Qe n s₀ s1) (YInt Z σ0 S val) (m + 1) s₀ (.compLoop (.GeneratorExp elt [⟨tg, iter, [], 0⟩] scope gpos) 0 (.ref it) .none Z.env)
        ((model Z.prog Z.w).den (.compLoop (.GeneratorExp elt [⟨tg, iter, [], 0⟩] scope gpos) 0 (.ref it) .none Z.env)) [] s := by
  have hov : A.over (.compLoop (.GeneratorExp elt [⟨tg, iter, [], 0⟩] scope gpos) 0 (.ref it) .none Z.env) [] = Z.A := over_loopG.trans hA.symm
  intro m
  induction m with
  | zero =>
    intro i s₀ s H o w hS I st hn
    show Seg _ A _ _ _ s₀ _ ((compTurn (.GeneratorExp elt [⟨tg, iter, [], 0⟩] scope gpos) 0 (.ref it) .none Z.env).onRaise (leaving Z.env)) [] s
    rw [compTurn_gen, Sem.onRaise_eq_wrap]
    refine seg_bind_wrap (wpAny_standAt ?_)
    rcases hW i 0 H w with ⟨stop, qe⟩ | ⟨m', e, _⟩
    · have td := T.done Z rfl rfl rfl hcm i [(S, o)] s σ0 H (fun _ _ => False) I (fp_okS hSf hex hpn I hn) st stop
      refine seg_bind_wrap ?_
      rw [hov]
      refine wpAny_mono td (fun r s6 ⟨hr, I6⟩ => ?_) fun _ _ z => z.elim
      subst hr
      exact seg_end (.ok .next) ⟨rfl, H, o, hS, I6, qe⟩
    · cases e
  | succ m ih =>
    intro i s₀ s H o w hS I st hn
    show Seg _ A _ _ _ s₀ _ ((compTurn (.GeneratorExp elt [⟨tg, iter, [], 0⟩] scope gpos) 0 (.ref it) .none Z.env).onRaise (leaving Z.env)) [] s
    rw [compTurn_gen, Sem.onRaise_eq_wrap]
    refine seg_bind_wrap (wpAny_standAt ?_)
    rcases hW i (m + 1) H w with ⟨stop, qe⟩ | ⟨m', e, go, step⟩
    · have td := T.done Z rfl rfl rfl hcm i [(S, o)] s σ0 H (fun _ _ => False) I (fp_okS hSf hex hpn I hn) st stop
      refine seg_bind_wrap ?_
      rw [hov]
      refine wpAny_mono td (fun r s6 ⟨hr, I6⟩ => ?_) fun _ _ z => z.elim
      subst hr
      exact seg_end (.ok .next) ⟨rfl, H, o, hS, I6, qe⟩
    · cases e
      have ti := T.item Z rfl rfl rfl hcm i [(S, o)] s σ0 H (fun _ _ => False) I (fp_okS hSf hex hpn I hn) st go
      refine seg_bind_wrap ?_
      rw [hov]
      refine wpAny_mono ti (fun r s6 ⟨u, hr, h6⟩ => ?_) fun _ _ z => z.elim
      subst hr
      refine seg_bind_wrap ?_
      rw [hov]
      refine wpAny_mono h6 (fun _ s7 ⟨x, H7, I7, r7, y7, st7, n7⟩ => ?_) fun _ _ z => z.elim
      have I7' := I7.pinned (fp_okS hSf hex hpn I7 n7) (T.obj _ _ st7)
      refine seg_bind_wrap ?_
      rw [hov]
      refine wpAny_mono (pg.run _ s7 _ H7 x u _ I7' r7 (step x H7 y7)) (fun _ s8 ⟨σ8, H8, I8, hw8, q8⟩ => ?_) fun _ _ z => by rw [hxe] at z; exact z.elim
      simp only [List.forIn_nil]
      refine seg_bind_wrap (wpAny_pure ?_)
      simp only [if_true]
      have hy : ∀ v, yieldOut Z.env v = yieldValue v := fun v => by simp only [yieldOut, hco, Bool.false_eq_true, if_false]
      simp only [hy]
      rw [Sem.bind_eq_wrap', Sem.bind_eq_wrap', Sem.wrap_wrap, Sem.wrap_wrap]
      refine seg_wrap ?_
      rw [hov]
      refine wpAny_mono (pe.run _ s8 σ8 H8 _ I8 q8) (fun z s9 ⟨yv, H9, I9, r9, ey, w'⟩ => ?_) fun _ _ z => by rw [hxe] at z; exact z.elim
      subst ey
      obtain ⟨tk, ez⟩ : ∃ t, z = Value.int (val (m + 1)) t := r9
      subst ez
      have pin9 : ∀ b ∈ fp, ∀ o, s7.heap.get? b = some o → s9.heap.get? b = some o ∧ H9 b = none := fun b hb o e =>
        let zz := I9.pin (b, o) (List.mem_append_right _ (List.mem_append_right _ (mem_pinsAt hb e)))
        ⟨zz.1, zz.2.1⟩
      have I9' : Inv Z [(S, o)] σ0 H9 s9 := (I9.unpinned).weak (hs0 _ hw8) fun j v e => by
        rw [← hw8] at e
        exact (wipe_some e).1
      refine seg_at (seg_yield rfl rfl rfl ⟨tk, H9, o, rfl, hS, I9', fun s2 o2 hh ho I2 => ?_⟩)
      refine seg_again rfl (ih (i + 1) s2 s2 H9 o2 w' ho I2 ?_ fun b hb => ?_)
      · exact T.keep _ _ _ st7 fun b hb o e => hh b o (fun z => hSf (z ▸ hb)) (pin9 b hb o e).1
      · obtain ⟨o, e, _⟩ := T.obj _ _ st7 b hb
        exact (pin9 b hb o e).2
theorem seg_startI (hSf : S ∉ fp) (hA : Z.A = A.deeper Z.env) (hcm : Z.calm = true) (hco : Z.env.scope.isCoroutine = false) (hex : Z.ex = fp) (hpn : ∀ p ∈ Z.pn, p.1 ∉ fp) (hxe : Z.xe = fun _ _ => False)
    (T : Turn Z.prog Z.w Z.K tg J fp it tn) (pg : PG Z tg g) (pe : PE Z elt te) (hW : TurnsI J g te vs σ0 val W Qe) (hs0 : ∀ σ2, wipe σ2 vs = σ0 → σ0.length = σ2.length)
    (m : Nat) (s₀ s : Shared) (H : Hp) (o : Obj) (w : W 0 m H) (hS : s₀.heap.get? S = some o) (I : Inv Z [(S, o)] σ0 H s) (st : tn 0 s.heap) (hn : ∀ b ∈ fp, H b = none) :
      Seg (model Z.prog Z.w) A (fun n s₀ r s1 => r = .ok .next ∧ PEndN Z σ0 S Qe n s₀ s1) (YInt Z σ0 S val) (m + 1) s₀ (.compStart (.GeneratorExp elt [⟨tg, iter, [], 0⟩] scope gpos) 0 (.ref it) .none Z.env)
        ((model Z.prog Z.w).den (.compStart (.GeneratorExp elt [⟨tg, iter, [], 0⟩] scope gpos) 0 (.ref it) .none Z.env)) [] s := by
  have loop := seg_loopI (iter := iter) (scope := scope) (gpos := gpos) hSf hA hcm hco hex hpn hxe T pg pe hW hs0 m 0 s₀ s H o w hS I st hn
  show Seg _ A _ _ _ s₀ _ ((compStart (.GeneratorExp elt [⟨tg, iter, [], 0⟩] scope gpos) 0 (.ref it) .none Z.env).onRaise (leaving Z.env)) [] s
  unfold compStart
  rw [Sem.onRaise_eq_wrap]
  show Seg _ A _ _ _ s₀ _ ((ask >>= _).wrap _ _ _ _) [] s
  refine seg_bind_wrap (wpAny_askSetting ?_)
  split
  · exact seg_again rfl loop
  · refine seg_bind_wrap (wpAny_rule ?_)
    show Seg _ A _ _ _ s₀ _ ((standAt iter.pos >>= _).wrap _ _ _ _) [] s
    exact seg_bind_wrap (wpAny_standAt (seg_bind_wrap (T.self _ 0 s _ _ st (seg_again rfl loop))))
end

section
variable {P : Program} {w : World} {Z : Cx} {A : Around} {σ0 : L2.St} {val tot : Nat → Int} {Qe : Nat → Hp → Prop} {a S : Addr} {g : Nat} {R : Result → Shared → Prop}
/-- the running sum's object is nobody's -/
structure SOk (Z : Cx) (S : Addr) : Prop where
  loc : S ≠ Z.env.locals
  fs : S ∉ Z.fs
  yg : S ∈ Z.ex ∨ Z.s_0.heap.objs.size ≤ S
  cell : ∀ x c, Z.env.cells.lookup x = some c → c ≠ S
  pn : ∀ p ∈ Z.pn, p.1 ≠ S
abbrev sumO (x : Value) (c : Nat) : Obj := { cls := .type "list", dict := none, data := .seq #[x] c, slots := #[] }
theorem isgen_invS {σ : L2.St} {H : Hp} {s : Shared} {go : Obj} {pins : List (Addr × Obj)} (hp : (a, go) ∈ Z.pn) (hgo : ∃ nm qn, go.cls = .type "generator" ∧ go.data = .fields #[.int g 0, nm, qn] ∧ go.slots = #[]) (I : Inv Z pins σ H s) : s.heap.IsGen a g := by
  obtain ⟨nm, qn, r⟩ := hgo
  exact ⟨go, nm, qn, (I.pin (a, go) (List.mem_append_left _ hp)).1, r⟩
theorem sum_step {H : Hp} {s : Shared} {x : Value} {c : Nat} {xs : Array Value} (ok : SOk Z S) (I : Inv Z [(S, sumO x c)] σ0 H s) (hS : s.heap.get? S = some (sumO x c)) :
    ∃ c2, (s.heap.update S (Obj.mapSeq fun _ => xs)).get? S = some { cls := .type "list", dict := none, data := .seq xs c2, slots := #[] } ∧ Inv Z [(S, { cls := .type "list", dict := none, data := .seq xs c2, slots := #[] })] σ0 H { s with heap := s.heap.update S (Obj.mapSeq fun _ => xs) } := by
  have hn : H S = none := (I.pin (S, sumO x c) (by simp)).2.1
  have e2 := Heap.get?_update_self (Obj.mapSeq fun _ => xs) hS rfl
  have I0 : Inv Z [] σ0 H s := I.pins_of fun p hp => by cases hp
  have I1 := I0.turned (it := S) (h' := s.heap.update S (Obj.mapSeq fun _ => xs)) (t' := s.toks) (fun b o hb e => (Heap.get?_update_other _ _ (fun z => hb z.symm)).trans e) hn ok.loc ok.yg (fun y d e => ok.cell y d e) fun p hp => ok.pn p (by simpa using hp)
  refine ⟨_, e2, I1.pins_of fun p hp => ?_⟩
  rw [List.mem_singleton.mp hp]
  exact ⟨e2, hn, ok.loc, ok.fs, fun v z => by cases z⟩
theorem drain_sum {go : Obj} (hh : A.handled = none) (hd : A.depth < recursionLimit) (hp : (a, go) ∈ Z.pn) (hgo : ∃ nm qn, go.cls = .type "generator" ∧ go.data = .fields #[.int g 0, nm, qn] ∧ go.slots = #[]) (ok : SOk Z S)
    (htot : ∀ n, tot n = tot (n + 1) + val n) (hend : ∀ n H' s' t, Inv Z [] σ0 H' s' → Qe n H' → R (.ok (.ret (.int (tot n) t))) s') :
    ∀ (n : Nat) (s : Shared) (H : Hp) (gs : GenState) (tA : Tok) (c : Nat) (st : Int), (st = 0 ∨ st = 2) → Inv Z [(S, sumO (.int (tot n) tA) c)] σ0 H s → s.heap.get? S = some (sumO (.int (tot n) tA) c) → s.gens[g]? = some gs →
      gs.Goes (model P w) A.in1.in1 (fun n s₀ r s1 => r = .ok .next ∧ PEndN Z σ0 S Qe n s₀ s1) (YInt Z σ0 S val) n (.send .none) (s.setGen g .running) →
      codeAny (model P w) A (.builtin "sum.loop" ⟨[.ref a, .ref S, rawInt st, rawInt 0], []⟩) R s := by
  intro n
  induction n with
  | zero =>
    intro s H gs tA c st hst I hS hgs hgo'
    refine codeAny_builtin F.entry_sum_loop ?_
    rw [Around.under_plainId F.plain_sum_loop _]
    show wpAny _ A.in1 (seqItems? (.ref S) >>= _) _ _ s
    refine wpAny_bind (wpAny_seqItems hS rfl ?_)
    show wpAny _ A.in1 (tryCatch (pyNext (.ref a)) _ >>= _) _ _ s
    refine wpAny_bind (wpAny_tryCatch (wpAny_pyNext_genexpQ (A := A.in1) hh I.nolimit hd (isgen_invS hp hgo I) hgs hgo' (fun v s1 gs' hbare hv => ?_) (fun s1 hp1 h' hk => ?_)))
    · obtain ⟨t, H', o, rfl, ho, I1, hkap⟩ := hv
      have ho1 := (I1.pin (S, o) (by simp)).1
      exact (hkap s1 o (fun _ _ _ e => e) ho1 I1).elim
    · obtain ⟨H', o, ho, I1, qe⟩ := hp1
      exact wpAny_pure (hend 0 H' _ tA (inv_state (s := { s1 with heap := h' }) ((I1.pins_of (pins' := []) fun p hp => by cases hp).kept (t' := s1.toks) hk) rfl rfl (allBare_setGen I1.bare rfl)) qe)
  | succ n ih =>
    intro s H gs tA c st hst I hS hgs hgo'
    have hgl : g < s.gens.size := (Array.getElem?_eq_some_iff.mp hgs).1
    refine codeAny_builtin F.entry_sum_loop ?_
    rw [Around.under_plainId F.plain_sum_loop _]
    show wpAny _ A.in1 (seqItems? (.ref S) >>= _) _ _ s
    refine wpAny_bind (wpAny_seqItems hS rfl ?_)
    show wpAny _ A.in1 (tryCatch (pyNext (.ref a)) _ >>= _) _ _ s
    refine wpAny_bind (wpAny_tryCatch (GenW.wpAny_gsz (n := g + 1) hgl (wpAny_pyNext_genexpQ (A := A.in1) hh I.nolimit hd (isgen_invS hp hgo I) hgs hgo' (fun v s1 gs' hbare hv => ?_) (fun s1 hp1 h' hk => ?_))))
    · intro hsz
      obtain ⟨t, H', o, rfl, ho, I1, hkap⟩ := hv
      have eo : o = sumO (.int (tot (n + 1)) tA) c := by
        have z : s.heap.get? S = some o := ho
        rw [hS] at z
        exact (Option.some.inj z).symm
      subst eo
      have I2 : Inv Z [(S, sumO (.int (tot (n + 1)) tA) c)] σ0 H' (s1.setGen g gs') := inv_state I1 rfl rfl (allBare_setGen I1.bare hbare)
      have hS1 : (s1.setGen g gs').heap.get? S = some (sumO (.int (tot (n + 1)) tA) c) := (I2.pin (S, _) (by simp)).1
      have hsz1 : g < s1.gens.size := by
        have q : (s1.setGen g gs').gens.size = s1.gens.size := GenW.setGen_size _ _ _
        have hsz' : g + 1 ≤ (s1.setGen g gs').gens.size := hsz
        omega
      -- the way on, from a state in which the sum has been written
      have goOn : ∀ (st' : Int) (tk : Tok) (s2 : Shared) (c2 : Nat), (st' = 0 ∨ st' = 2) → s2.gens = (s1.setGen g gs').gens → (∀ b u, b ≠ S → s1.heap.get? b = some u → s2.heap.get? b = some u) → s2.heap.get? S = some (sumO (.int (tot (n + 1) + val n) tk) c2) → Inv Z [(S, sumO (.int (tot (n + 1) + val n) tk) c2)] σ0 H' s2 →
          codeAny (model P w) A (.builtin "sum.loop" ⟨[.ref a, .ref S, rawInt st', rawInt 0], []⟩) R s2 := fun st' tk s2 c2 h1 hg2 hk h3 I3 => by
        rw [← htot n] at h3 I3
        refine ih s2 H' gs' tk c2 st' h1 I3 h3 (by rw [hg2]; exact setGen_at hsz1) ?_
        exact hkap _ _ hk h3 (inv_state I3 rfl rfl (allBare_setGen I3.bare rfl))
      generalize hse : s1.setGen g gs' = se at I2 hS1 goOn ⊢
      have hse1 : ∀ b u, s1.heap.get? b = some u → se.heap.get? b = some u := fun b u e => by rw [← hse]; exact e
      have w1 : ∀ (st' : Int) (tk : Tok) (k : Nat), (st' = 0 ∨ st' = 2) → codeAny (model P w) A (.builtin "sum.loop" ⟨[.ref a, .ref S, rawInt st', rawInt 0], []⟩) R { se with heap := se.heap.update S (Obj.mapSeq fun _ => #[Value.int (tot (n + 1) + val n) tk]), toks := k } := fun st' tk k h1 => by
        obtain ⟨c2, h3, I3⟩ := sum_step (xs := #[Value.int (tot (n + 1) + val n) tk]) ok I2 hS1
        exact goOn st' tk _ c2 h1 rfl (fun b u hb e => (Heap.get?_update_other _ _ (fun z => hb z.symm)).trans (hse1 b u e)) h3 (inv_state I3 rfl rfl I3.bare)
      have w2 : ∀ (st' : Int) (tk : Tok) (k : Nat), (st' = 0 ∨ st' = 2) → codeAny (model P w) A (.builtin "sum.loop" ⟨[.ref a, .ref S, rawInt st', rawInt 0], []⟩) R { se with heap := (se.heap.update S (Obj.mapSeq fun _ => #[Value.int (tot (n + 1) + val n) tk])).update S (Obj.mapSeq fun _ => #[Value.int (tot (n + 1) + val n) tk]), toks := k } := fun st' tk k h1 => by
        obtain ⟨c2, h3, I3⟩ := sum_step (xs := #[Value.int (tot (n + 1) + val n) tk]) ok I2 hS1
        obtain ⟨c4, h5, I5⟩ := sum_step (xs := #[Value.int (tot (n + 1) + val n) tk]) (s := { se with heap := se.heap.update S (Obj.mapSeq fun _ => #[Value.int (tot (n + 1) + val n) tk]) }) ok I3 h3
        exact goOn st' tk _ c4 h1 rfl (fun b u hb e => (Heap.get?_update_other _ _ (fun z => hb z.symm)).trans ((Heap.get?_update_other _ _ (fun z => hb z.symm)).trans (hse1 b u e))) h5 (inv_state I5 rfl rfl I5.bare)
      rcases hst with rfl | rfl
      · show wpAny _ A.in1 (if (_ : Bool) = true then (mkInt (tot (n + 1) + val n) >>= _) else _) _ _ _
        split
        · refine wpAny_bind (wpAny_mkInt ?_)
          show wpAny _ A.in1 (updateSeq S (fun _ => #[.int (tot (n + 1) + val n) se.toks]) >>= _) _ _ _
          refine wpAny_bind (wpAny_updateSeq hS1 rfl (wpAny_pure ⟨plainId_quiet F.plain_sum_loop _, ?_⟩))
          exact w1 0 _ _ (.inl rfl)
        · refine wpAny_bind (wpAny_rule ?_)
          refine wpAny_bind (wpAny_attempt (wpAny_holding (wpAny_add_int ?_)))
          show wpAny _ A.in1 (updateSeq S (fun _ => #[.int (tot (n + 1) + val n) se.toks]) >>= _) _ _ _
          refine wpAny_bind (wpAny_updateSeq hS1 rfl ?_)
          refine wpAny_bind (wpAny_letGo ?_)
          refine wpAny_bind (wpAny_updateSeq (Heap.get?_update_self (Obj.mapSeq fun _ => #[Value.int (tot (n + 1) + val n) se.toks]) hS1 rfl) rfl (wpAny_pure ⟨plainId_quiet F.plain_sum_loop _, ?_⟩))
          exact w2 2 _ _ (.inr rfl)
      · show wpAny _ A.in1 ((holding [Value.int (val n) t] (binaryOp .Add (.int (tot (n + 1)) tA) (.int (val n) t))).attempt >>= _) _ _ _
        refine wpAny_bind (wpAny_attempt (wpAny_holding (wpAny_add_int ?_)))
        show wpAny _ A.in1 (updateSeq S (fun _ => #[.int (tot (n + 1) + val n) se.toks]) >>= _) _ _ _
        refine wpAny_bind (wpAny_updateSeq hS1 rfl ?_)
        refine wpAny_bind (wpAny_letGo ?_)
        refine wpAny_bind (wpAny_updateSeq (Heap.get?_update_self (Obj.mapSeq fun _ => #[Value.int (tot (n + 1) + val n) se.toks]) hS1 rfl) rfl (wpAny_pure ⟨plainId_quiet F.plain_sum_loop _, ?_⟩))
        exact w2 2 _ _ (.inr rfl)
    · intro hsz
      obtain ⟨H', o, ho, I1, qe⟩ := hp1
      exact wpAny_pure (hend (n + 1) H' _ tA (inv_state (s := { s1 with heap := h' }) ((I1.pins_of (pins' := []) fun p hp => by cases hp).kept (t' := s1.toks) hk) rfl rfl (allBare_setGen I1.bare rfl)) qe)
end
end Gx
/-! ## DvJ -/
set_option maxHeartbeats 4000000
/-! sum(..) of a generator expression: the rule. -/
namespace Gx
open PySem PySem.Spec PyProof.Rows L2
/-- val, tot by what is left of the bound; L turns -/
def tGenS (T : TbL) (wi : TI) (g : TG) (te : TE) (vs : List Nat) : TE := fun σ H Q => wi σ H fun J H1 => LamX.Tabs T H1 ∧ ∀ H2, Ex T H1 H2 →
  ∃ (W : Nat → Nat → Hp → Prop) (m : Nat) (val tot : Nat → Int), W 0 m H2 ∧ tot (m + 1) = 0 ∧ (∀ n, tot n = tot (n + 1) + val n) ∧ TurnsI J g te vs (wipe σ vs) val W (fun n H' => Q (.int (tot n)) H')
section
variable {X : Cx} {T : TbL} {c P : Addr} {elt tg iter : Expr} {scope : Scope} {own : List (Str × Nat)} {gpos p pos : Pos} {wi : TI} {g : TG} {te : TE} {k : Nat}
theorem pe_sum1 (hr : Room (k + 3) X.A) (hgl : Gl X "sum") (hm : X.mg "sum" = none) (hc : X.calm = true) (hN : X.N.Nodup) (TB : LamX.TabB X.base X.mg c P) (hcode : X.env.code = .ref c) (hmT : (P, X.env.qual ++ "<genexpr>") ∈ T) (hu : ∀ r ∈ T, r.1 = P → r.2 = X.env.qual ++ "<genexpr>") (ok : GSc X.N X.env.scope scope own) (hi : PI X tg iter wi)
    (hg : ∀ (s : Shared) (H : Hp) (code : Value) (fp : List Addr) (a : Addr) (go : Obj), PG (zcx X s H scope code fp a go) tg g)
    (he : ∀ (s : Shared) (H : Hp) (code : Value) (fp : List Addr) (a : Addr) (go : Obj), Room k (zcx X s H scope code fp a go).A → PE (zcx X s H scope code fp a go) elt te)
    (hs : ∀ v, genFold iter X.env v = pure v := by intro _; rfl)
    (hst : starEach [.GeneratorExp elt [⟨tg, iter, [], 0⟩] scope gpos] X.env = (false, eval (.GeneratorExp elt [⟨tg, iter, [], 0⟩] scope gpos) X.env) :: starEach [] X.env := by rfl) (hb : bootBuiltins "sum" = some (.builtin "sum") := by decide +kernel) :
    PE X (.Call (.Name "sum" p) [.GeneratorExp elt [⟨tg, iter, [], 0⟩] scope gpos] [] pos) (tGenS T wi g te (ixs own)) := by
  refine ⟨fun pins s σ H Q I h => ?_⟩
  refine wpAny_Call_Name_kw (ld_blt I hgl hm hb ?_)
  refine PyProof.Rows.callWith_builtin1 ?_ hst (by rfl)
  rw [hst]
  show wpAny _ _ (spliced ((false, eval (.GeneratorExp elt [⟨tg, iter, [], 0⟩] scope gpos) X.env) :: backTo pos (starEach [] X.env))) _ _ s
  refine Calls.spliced_cons (gen_made (R := fun J H1 => ∀ H2, Ex T H1 H2 → ∃ (W : Nat → Nat → Hp → Prop) (m : Nat) (val tot : Nat → Int), W 0 m H2 ∧ tot (m + 1) = 0 ∧ (∀ n, tot n = tot (n + 1) + val n) ∧ TurnsI J g te (ixs own) (wipe σ (ixs own)) val W (fun n H' => Q (.int (tot n)) H'))
    hr hc hN TB hcode ok hi hs I hmT hu h fun J H0 H1 it fp tn a gn s0 s1 code go hR hE M => ?_)
  obtain ⟨W, m0, val, tot, w0, t0, ht, turn⟩ := hR H1 hE
  refine Calls.spliced_nil ?_
  refine call_function_tree F.kind_sum F.plain_sum F.entry_sum (F.args_sum1 _) ?_
  unfold Builtin.«sum»
  simp only [List.length_cons, List.length_nil]
  rw [if_neg (by decide)]
  refine wpAny_bind (wpAny_of_eq (show Builtin.Builtins.bindParams "sum" ["start"] 0 { } = pure [none] from rfl) ?_)
  refine wpAny_bind (wpAny_pyIter_gen M.gen ?_)
  refine wpAny_bind (wpAny_mkInt ?_)
  refine wpAny_bind (wpAny_pure ?_)
  simp only [List.forIn_cons, List.forIn_nil]
  refine wpAny_bind (wpAny_bind (wpAny_bind (wpAny_isInstance (T := "int") (b := false) (typeIs_int _ _ _) PyProof.Rows.sub_int_str ?_)))
  simp only [Bool.false_eq_true, if_false]
  refine wpAny_pure (wpAny_bind (wpAny_bind (wpAny_isInstance (T := "int") (b := false) (typeIs_int _ _ _) PySem.sub_int_bytes ?_)))
  simp only [Bool.false_eq_true, if_false]
  refine wpAny_pure (wpAny_bind (wpAny_bind (wpAny_isInstance (T := "int") (b := false) (typeIs_int _ _ _) PySem.sub_int_bytearray ?_)))
  simp only [Bool.false_eq_true, if_false]
  refine wpAny_pure (wpAny_pure ?_)
  refine wpAny_bind (wpAny_newObj_type ?_)
  generalize hS : s1.heap.objs.size = S
  have lt0 : s0.heap.objs.size < S := by
    rw [← hS]
    exact M.inv.lt
  have fpS : ∀ b ∈ fp, b < S := fun b hb => by
    obtain ⟨o, e, _⟩ := M.turn.obj _ _ M.at0 b hb
    rw [← hS]
    exact Heap.lt_size e
  have hSf : S ∉ fp := fun z => Nat.lt_irrefl _ (fpS S z)
  have hSH : H1 S = none := M.inv.hok.fresh (by rw [hS]; exact Nat.le_refl _)
  have ok2 : SOk (zcx X s0 H1 scope code fp a go) S := by
    refine ⟨Nat.ne_of_gt lt0, M.inv.nofs (by rw [hS]; exact Nat.le_refl _), .inr (Nat.le_of_lt lt0), fun y d e z => ?_, fun q hq z => ?_⟩
    · obtain ⟨v, hv⟩ := M.inv.cell y d e
      exact absurd hv.lt (by rw [z, hS]; exact Nat.lt_irrefl _)
    · have hq : q = (a, go) := by simpa using hq
      have hl := Heap.lt_size (M.inv.pin (a, go) (by simp)).1
      rw [hS] at hl
      rw [hq] at z
      exact absurd hl (by rw [show a = S from z]; exact Nat.lt_irrefl _)
  have hpush : (s1.heap.push { cls := .type "list", data := .seq #[Value.int 0 s1.toks] }).get? S = some (sumO (.int 0 s1.toks) 0) := by
    rw [← hS]
    exact Heap.get?_push_size _ rfl
  have I3 : Inv (zcx X s0 H1 scope code fp a go) [(S, sumO (.int 0 s1.toks) 0)] (wipe σ (own.map (·.2))) H1 { s1 with heap := s1.heap.push { cls := .type "list", data := .seq #[Value.int 0 s1.toks] }, toks := s1.toks + 1 } :=
    (M.inv.kept (t' := s1.toks + 1) fun b o e => Heap.get?_push_of_some _ e).pins_of fun q hq => by
      rw [List.mem_singleton.mp hq]
      exact ⟨hpush, hSH, ok2.loc, ok2.fs, fun v z => by cases z⟩
  refine wpAny_pure ⟨plainId_quiet F.plain_sum_loop _, ?_⟩
  refine drain_sum (Z := zcx X s0 H1 scope code fp a go) (Qe := fun n H' => Q (.int (tot n)) H') (go := go) (val := val) (tot := tot) hr.hd (by have := hr.dp; omega) (by simp) M.obj ok2 ht
    (fun n H' s' t I' q => ⟨.int (tot n), H', M.back I', ⟨t, rfl⟩, q⟩) (m0 + 1) _ H1 _ s1.toks 0 0 (.inl rfl) (by rw [t0]; exact I3) (by rw [t0]; exact hpush) M.gens ⟨rfl, ?_⟩
  have I4 := inv_state (s' := ({ s1 with heap := s1.heap.push { cls := .type "list", data := .seq #[Value.int 0 s1.toks] }, toks := s1.toks + 1 } : Shared).setGen gn .running) I3 rfl rfl (allBare_setGen M.inv.bare rfl)
  refine seg_startI (Z := zcx X s0 H1 scope code fp a go) (A := X.A.in1.in1) hSf rfl hc ok.co rfl M.pnok rfl M.turn (hg _ _ _ _ _ _) (he _ _ _ _ _ _ (hr.in1.in1.deeper _)) turn (fun σ2 h2 => wipe_len h2) m0 _ _ H1 _ w0 ?_ I4
    (M.turn.keep _ _ _ M.at0 fun b hb o e => Heap.get?_push_of_some _ e) fun b hb => (M.fpo b hb).1
  exact hpush
end
end Gx
/-! ## DvK -/
set_option maxHeartbeats 4000000
/-! Judgements by data: sums, two clauses, skipped branches, enumerations. -/
namespace Dv
open PySem PySem.Spec PyProof.Rows L2 Gx

section
variable {X : Cx} {T : TbL} {Γ : List (Option D)} {α β : Type} {as : List α} {ed : α → D} {Δ : α → List (Option D)} {elt tg iter t2 i2 : Expr} {scope : Scope} {own : List (Str × Nat)} {js js2 vs2 : List Nat} {c P : Addr} {gpos p pos : Pos} {k : Nat}
theorem e_sum {f : α → Int} (fr : Fr X.mg) (g : GG X T c P k) (ok : GSc X.N X.env.scope scope own) (hi : I X T Γ tg iter (as.map ed))
    (hg : ∀ a ∈ as, ∀ (s : Shared) (H : Hp) (code : Value) (fp : List Addr) (q : Addr) (go : Obj), G (zcx X s H scope code fp q go) T (wiped Γ (ixs own)) tg (ed a) js (Δ a))
    (he : ∀ a ∈ as, Zall X scope k fun Z => E Z T (Δ a) elt (.int (f a))) (hj : ∀ j ∈ js, j ∈ ixs own := by decide) (hgl : Gl X "sum" := by rfl) (hs : ∀ v, genFold iter X.env v = pure v := by intro _; rfl)
    (hst : starEach [.GeneratorExp elt [⟨tg, iter, [], 0⟩] scope gpos] X.env = (false, eval (.GeneratorExp elt [⟨tg, iter, [], 0⟩] scope gpos) X.env) :: starEach [] X.env := by rfl) :
    E X T Γ (.Call (.Name "sum" p) [.GeneratorExp elt [⟨tg, iter, [], 0⟩] scope gpos] [] pos) (.int (as.map f).sum) := fun W σ H hP Q kq => by
  refine of_pe (pe_sum1 (wi := rI X tg iter) (g := fun v σ H Q => ∀ (s : Shared) (H0 : Hp) (code : Value) (fp : List Addr) (q : Addr) (go : Obj), rG (zcx X s H0 scope code fp q go) tg v σ H Q)
    (te := fun σ H Q => ∀ (s : Shared) (H0 : Hp) (code : Value) (fp : List Addr) (q : Addr) (go : Obj), Room k (zcx X s H0 scope code fp q go).A → rE (zcx X s H0 scope code fp q go) elt σ H Q)
    g.room hgl fr.sum g.calm g.nodup g.tab g.code g.mem g.uniq ok pi_r (fun s H0 code fp q go => ⟨fun pins s1 σ1 H1 v u Q1 I1 r1 q1 => q1 s H0 code fp q go pins s1 u I1 r1⟩)
    (fun s H0 code fp q go hroom => ⟨fun pins s1 σ1 H1 Q1 I1 q1 => q1 s H0 code fp q go hroom pins s1 I1⟩) hs hst) ?_
  refine hi W σ H hP _ fun J H1 e1 it => ⟨e1.tb hP.tb, fun H2 e2 => ?_⟩
  have P2 : Pr X.K T W H2 Γ σ := (hP.ex e1).ex e2
  have hJ : (as.map ed).length = as.length := List.length_map ..
  refine ⟨fun i m H3 => m = as.length - i ∧ i ≤ as.length ∧ Ex T H2 H3, as.length, fun n => if n ≤ as.length then ((as[as.length - n]?).map f).getD 0 else 0, fun n => ((as.take (as.length + 1 - n)).map f).sum, ⟨by simp, Nat.zero_le _, Ex.refl H2⟩, ?_, fun n => ?_, ?_⟩
  · simp
  · by_cases hn : n ≤ as.length
    · have e : as.length + 1 - n = (as.length - n) + 1 := by omega
      have e' : as.length + 1 - (n + 1) = as.length - n := by omega
      simp only [hn, if_true, e, e']
      rw [List.take_add_one, List.map_append, List.sum_append]
      cases as[as.length - n]? <;> simp
    · have e : as.length + 1 - n = 0 := by omega
      have e' : as.length + 1 - (n + 1) = 0 := by omega
      simp [hn, e, e']
  · rintro i m H3 ⟨rfl, hle, e3⟩
    have mW : Mx T W H1 H3 := Mx.of (e2.trans e3)
    by_cases hlt : i < as.length
    · refine .inr ⟨as.length - (i + 1), by omega, it.go i H3 mW (by rw [hJ]; exact hlt), fun v H4 hy => ?_⟩
      have ha : as[i]? = some as[i] := List.getElem?_eq_getElem hlt
      have hm : as[i] ∈ as := List.getElem_mem hlt
      obtain ⟨e4, r4⟩ := it.yld W i (ed as[i]) H3 v H4 (fun x hx => .inl hx) mW (by rw [List.getElem?_map, ha]; rfl) hy
      have P4 : Pr X.K T W H4 (wiped Γ (ixs own)) (L2.wipe σ (ixs own)) := ((P2.ex e3).ex e4).wipe _
      intro s0 H0 code fp q go
      refine hg _ hm s0 H0 code fp q go W _ H4 v P4 r4 _ fun σ5 sm P5 => ⟨sm.wipe hj, fun s1 H01 code1 fp1 q1 go1 hroom => ?_⟩
      refine he _ hm s1 H01 code1 fp1 q1 go1 hroom W σ5 H4 P5 _ fun y H6 e6 r6 => ⟨?_, rfl, hlt, (e3.trans e4).trans e6⟩
      have e : as.length - (as.length - i) = i := by omega
      rw [Rep] at r6
      rw [r6]
      show V.int (f as[i]) = V.int (if as.length - i ≤ as.length then ((as[as.length - (as.length - i)]?).map f).getD 0 else 0)
      rw [if_pos (by omega), e, ha]
      rfl
    · have hie : i = as.length := by omega
      subst hie
      refine .inl ⟨by rw [← hJ]; exact it.stop H3 mW, kq _ H3 ((e1.trans e2).trans e3) ?_⟩
      rw [Rep]
      simp
/-- two clauses: the shared part -/
theorem gen_ok2 {bs2 : α → List β} {ed2 : α → β → D} {Δ2 : α → β → List (Option D)} {b : α → β → Bool} (b0 : Bool) {W : List Addr} {σ : L2.St} {H : Hp} {Q : VK} (hP : Pr X.K T W H Γ σ) (hi : I X T Γ tg iter (as.map ed)) (Bd : Nat) (hB : ∀ a ∈ as, (bs2 a).length ≤ Bd)
    (hg : ∀ a ∈ as, ∀ (s : Shared) (H : Hp) (code : Value) (fp : List Addr) (q : Addr) (go : Obj), G (zcx X s H scope code fp q go) T (wiped Γ (ixs own)) tg (ed a) js (Δ a))
    (hi2 : ∀ a ∈ as, Zall X scope k fun Z => I Z T (Δ a) t2 i2 ((bs2 a).map (ed2 a)))
    (hg2 : ∀ a ∈ as, ∀ x ∈ bs2 a, ∀ (s : Shared) (H : Hp) (code : Value) (fp : List Addr) (q : Addr) (go : Obj), G (zcx X s H scope code fp q go) T (wiped (Δ a) vs2) t2 (ed2 a x) js2 (Δ2 a x))
    (he : ∀ a ∈ as, ∀ x ∈ bs2 a, Zall X scope k fun Z => E Z T (Δ2 a x) elt (.bl (b a x))) (hj : ∀ j ∈ js, j ∈ ixs own) (hj2 : ∀ j ∈ js2, j ∈ vs2) (r0 : Bool) (hr : r0 = if (∃ a ∈ as, ∃ x ∈ bs2 a, b a x = b0) then b0 else !b0) (kq : ∀ v H2, Ex T H H2 → Rep X.K W H2 (.bl r0) v → Q v H2) :
    tGen2 b0 T (rI X tg iter) (fun v σ H Q => ∀ (s : Shared) (H0 : Hp) (code : Value) (fp : List Addr) (q : Addr) (go : Obj), rG (zcx X s H0 scope code fp q go) tg v σ H Q)
      (fun σ H R => ∀ (s : Shared) (H0 : Hp) (code : Value) (fp : List Addr) (q : Addr) (go : Obj), Room k (zcx X s H0 scope code fp q go).A → rI (zcx X s H0 scope code fp q go) t2 i2 σ H R)
      (fun v σ H Q => ∀ (s : Shared) (H0 : Hp) (code : Value) (fp : List Addr) (q : Addr) (go : Obj), rG (zcx X s H0 scope code fp q go) t2 v σ H Q)
      (fun σ H Q => ∀ (s : Shared) (H0 : Hp) (code : Value) (fp : List Addr) (q : Addr) (go : Obj), Room k (zcx X s H0 scope code fp q go).A → rE (zcx X s H0 scope code fp q go) elt σ H Q) (ixs own) vs2 σ H Q := by
  refine hi W σ H hP _ fun J H1 e1 it => ⟨e1.tb hP.tb, fun H2 e2 => ?_⟩
  have P2 : Pr X.K T W H2 Γ σ := (hP.ex e1).ex e2
  have hJ : (as.map ed).length = as.length := List.length_map ..
  refine ⟨Bd, fun i m H3 => m = as.length - i ∧ i ≤ as.length ∧ Ex T H2 H3 ∧ ∀ j (a : α), j < i → as[j]? = some a → ∀ x ∈ bs2 a, b a x ≠ b0, ⟨as.length, by simp, Nat.zero_le _, Ex.refl H2, fun j a h => absurd h (Nat.not_lt_zero j)⟩, ?_⟩
  rintro i m H3 ⟨rfl, hle, e3, hno⟩
  have mW : Mx T W H1 H3 := Mx.of (e2.trans e3)
  by_cases hlt : i < as.length
  · refine .inr ⟨it.go i H3 mW (by rw [hJ]; exact hlt), fun H' => Ex T H2 H' ∧ ∀ j (a : α), j < i + 1 → as[j]? = some a → ∀ x ∈ bs2 a, b a x ≠ b0, fun H' q => ⟨as.length - (i + 1), by omega, rfl, hlt, q⟩, fun v H4 hy => ?_⟩
    have ha : as[i]? = some as[i] := List.getElem?_eq_getElem hlt
    have hm : as[i] ∈ as := List.getElem_mem hlt
    obtain ⟨e4, r4⟩ := it.yld W i (ed as[i]) H3 v H4 (fun x hx => .inl hx) mW (by rw [List.getElem?_map, ha]; rfl) hy
    have P4 : Pr X.K T W H4 (wiped Γ (ixs own)) (L2.wipe σ (ixs own)) := ((P2.ex e3).ex e4).wipe _
    intro s0 H0 code fp q go
    refine hg _ hm s0 H0 code fp q go W _ H4 v P4 r4 _ fun σ5 sm P5 => ⟨sm.wipe hj, fun s1 H01 code1 fp1 q1 go1 hroom => ?_⟩
    refine hi2 _ hm s1 H01 code1 fp1 q1 go1 hroom W σ5 H4 P5 _ fun J2 H5 e5 it2 => ?_
    have P5' : Pr X.K T W H5 (Δ as[i]) σ5 := P5.ex e5
    have hJ2 : ((bs2 as[i]).map (ed2 as[i])).length = (bs2 as[i]).length := List.length_map ..
    have e25 : Ex T H2 H5 := (e3.trans e4).trans e5
    refine ⟨fun i' m' H6 => m' = (bs2 as[i]).length - i' ∧ i' ≤ (bs2 as[i]).length ∧ Ex T H5 H6 ∧ ∀ j (x : β), j < i' → (bs2 as[i])[j]? = some x → b as[i] x ≠ b0, ⟨(bs2 as[i]).length, hB _ hm, by simp, Nat.zero_le _, Ex.refl H5, fun j a h => absurd h (Nat.not_lt_zero j)⟩, ?_⟩
    rintro i' m' H6 ⟨rfl, hle', e6, hno'⟩
    have mW' : Mx T W H5 H6 := Mx.of e6
    by_cases hlt' : i' < (bs2 as[i]).length
    · refine .inr ⟨it2.go i' H6 mW' (by rw [hJ2]; exact hlt'), fun H' => Ex T H5 H' ∧ ∀ j (x : β), j < i' + 1 → (bs2 as[i])[j]? = some x → b as[i] x ≠ b0, fun H' q => ⟨(bs2 as[i]).length - (i' + 1), by omega, rfl, hlt', q⟩, fun v7 H7 hy7 => ?_⟩
      have ha' : (bs2 as[i])[i']? = some (bs2 as[i])[i'] := List.getElem?_eq_getElem hlt'
      have hm' : (bs2 as[i])[i'] ∈ bs2 as[i] := List.getElem_mem hlt'
      obtain ⟨e7, r7⟩ := it2.yld W i' (ed2 as[i] (bs2 as[i])[i']) H6 v7 H7 (fun x hx => .inl hx) mW' (by rw [List.getElem?_map, ha']; rfl) hy7
      have P7 : Pr X.K T W H7 (wiped (Δ as[i]) vs2) (L2.wipe σ5 vs2) := ((P5'.ex e6).ex e7).wipe _
      intro s2 H02 code2 fp2 q2 go2
      refine hg2 _ hm _ hm' s2 H02 code2 fp2 q2 go2 W _ H7 v7 P7 r7 _ fun σ8 sm8 P8 => ⟨sm8.wipe hj2, fun s3 H03 code3 fp3 q3 go3 hroom3 => ?_⟩
      refine he _ hm _ hm' s3 H03 code3 fp3 q3 go3 hroom3 W σ8 H7 P8 _ fun y H9 e9 r9 => ⟨b as[i] (bs2 as[i])[i'], r9, fun hb => ?_, fun hb => ⟨(e6.trans e7).trans e9, fun j x hj2 hjx => ?_⟩⟩
      · refine kq _ H9 (((e1.trans e2).trans e25).trans ((e6.trans e7).trans e9)) ?_
        rw [hr, if_pos ⟨_, hm, _, hm', hb⟩, Rep]
      · by_cases hji : j < i'
        · exact hno' j x hji hjx
        · have : j = i' := by omega
          subst this
          rw [ha'] at hjx
          cases hjx
          exact hb
    · have hie : i' = (bs2 as[i]).length := by omega
      subst hie
      refine .inl ⟨by rw [← hJ2]; exact it2.stop H6 mW', e25.trans e6, fun j a hj1 hja x hx => ?_⟩
      by_cases hji : j < i
      · exact hno j a hji hja x hx
      · have : j = i := by omega
        subst this
        rw [ha] at hja
        cases hja
        obtain ⟨l, hl1, hl2⟩ := List.mem_iff_getElem.mp hx
        exact hno' l x hl1 (by rw [List.getElem?_eq_getElem hl1, hl2])
  · have hie : i = as.length := by omega
    subst hie
    refine .inl ⟨by rw [← hJ]; exact it.stop H3 mW, kq _ H3 ((e1.trans e2).trans e3) ?_⟩
    rw [hr, if_neg ?_, Rep]
    rintro ⟨a, hma, x, hx, hab⟩
    obtain ⟨j, hj1, hj2⟩ := List.mem_iff_getElem.mp hma
    exact hno j a hj1 (by rw [List.getElem?_eq_getElem hj1, hj2]) x hx hab
theorem e_any2 {bs2 : α → List β} {ed2 : α → β → D} {Δ2 : α → β → List (Option D)} {b : α → β → Bool} (fr : Fr X.mg) (g : GG X T c P k) (ok : GSc X.N X.env.scope scope own) (hi : I X T Γ tg iter (as.map ed)) (Bd : Nat) (hB : ∀ a ∈ as, (bs2 a).length ≤ Bd)
    (hg : ∀ a ∈ as, ∀ (s : Shared) (H : Hp) (code : Value) (fp : List Addr) (q : Addr) (go : Obj), G (zcx X s H scope code fp q go) T (wiped Γ (ixs own)) tg (ed a) js (Δ a))
    (hi2 : ∀ a ∈ as, Zall X scope k fun Z => I Z T (Δ a) t2 i2 ((bs2 a).map (ed2 a)))
    (hg2 : ∀ a ∈ as, ∀ x ∈ bs2 a, ∀ (s : Shared) (H : Hp) (code : Value) (fp : List Addr) (q : Addr) (go : Obj), G (zcx X s H scope code fp q go) T (wiped (Δ a) vs2) t2 (ed2 a x) js2 (Δ2 a x))
    (he : ∀ a ∈ as, ∀ x ∈ bs2 a, Zall X scope k fun Z => E Z T (Δ2 a x) elt (.bl (b a x))) (hj : ∀ j ∈ js, j ∈ ixs own := by decide) (hj2 : ∀ j ∈ js2, j ∈ vs2 := by decide) (hsub : ∀ v ∈ vs2, v ∈ ixs own := by decide) (hgl : Gl X "any" := by rfl) (hs : ∀ v, genFold iter X.env v = pure v := by intro _; rfl)
    (hs2 : ∀ env x, foldedSetIterable i2 env x = pure x := by intro _ _; rfl)
    (hst : starEach [.GeneratorExp elt [⟨tg, iter, [], 0⟩, ⟨t2, i2, [], 0⟩] scope gpos] X.env = (false, eval (.GeneratorExp elt [⟨tg, iter, [], 0⟩, ⟨t2, i2, [], 0⟩] scope gpos) X.env) :: starEach [] X.env := by rfl) :
    E X T Γ (.Call (.Name "any" p) [.GeneratorExp elt [⟨tg, iter, [], 0⟩, ⟨t2, i2, [], 0⟩] scope gpos] [] pos) (.bl (as.any fun a => (bs2 a).any (b a))) := fun W σ H hP Q kq => by
  refine of_pe (pe_any2 g.room hgl fr.any g.calm g.nodup g.tab g.code g.mem g.uniq ok pi_r (fun s H0 code fp q go => ⟨fun pins s1 σ1 H1 v u Q1 I1 r1 q1 => q1 s H0 code fp q go pins s1 u I1 r1⟩)
    (fun s H0 code fp q go hroom => ⟨fun pins s1 σ1 H1 Q1 I1 q1 => q1 s H0 code fp q go hroom pins s1 I1⟩) (fun s H0 code fp q go hroom => ⟨fun pins s1 σ1 H1 R1 I1 q1 => q1 s H0 code fp q go hroom pins s1 I1⟩)
    (fun s H0 code fp q go => ⟨fun pins s1 σ1 H1 v u Q1 I1 r1 q1 => q1 s H0 code fp q go pins s1 u I1 r1⟩) hsub hs2 hs hst) (gen_ok2 true hP hi Bd hB hg hi2 hg2 he hj hj2 (as.any fun a => (bs2 a).any (b a)) ?_ kq)
  by_cases h : ∃ a ∈ as, ∃ x ∈ bs2 a, b a x = true
  · rw [if_pos h, List.any_eq_true]
    obtain ⟨a, h1, x, h2, h3⟩ := h
    exact ⟨a, h1, List.any_eq_true.mpr ⟨x, h2, h3⟩⟩
  · rw [if_neg h]
    exact Bool.eq_false_iff.mpr fun z => h (by
      obtain ⟨a, h1, h2⟩ := List.any_eq_true.mp z
      obtain ⟨x, h3, h4⟩ := List.any_eq_true.mp h2
      exact ⟨a, h1, x, h3, h4⟩)
theorem e_all2 {bs2 : α → List β} {ed2 : α → β → D} {Δ2 : α → β → List (Option D)} {b : α → β → Bool} (fr : Fr X.mg) (g : GG X T c P k) (ok : GSc X.N X.env.scope scope own) (hi : I X T Γ tg iter (as.map ed)) (Bd : Nat) (hB : ∀ a ∈ as, (bs2 a).length ≤ Bd)
    (hg : ∀ a ∈ as, ∀ (s : Shared) (H : Hp) (code : Value) (fp : List Addr) (q : Addr) (go : Obj), G (zcx X s H scope code fp q go) T (wiped Γ (ixs own)) tg (ed a) js (Δ a))
    (hi2 : ∀ a ∈ as, Zall X scope k fun Z => I Z T (Δ a) t2 i2 ((bs2 a).map (ed2 a)))
    (hg2 : ∀ a ∈ as, ∀ x ∈ bs2 a, ∀ (s : Shared) (H : Hp) (code : Value) (fp : List Addr) (q : Addr) (go : Obj), G (zcx X s H scope code fp q go) T (wiped (Δ a) vs2) t2 (ed2 a x) js2 (Δ2 a x))
    (he : ∀ a ∈ as, ∀ x ∈ bs2 a, Zall X scope k fun Z => E Z T (Δ2 a x) elt (.bl (b a x))) (hj : ∀ j ∈ js, j ∈ ixs own := by decide) (hj2 : ∀ j ∈ js2, j ∈ vs2 := by decide) (hsub : ∀ v ∈ vs2, v ∈ ixs own := by decide) (hgl : Gl X "all" := by rfl) (hs : ∀ v, genFold iter X.env v = pure v := by intro _; rfl)
    (hs2 : ∀ env x, foldedSetIterable i2 env x = pure x := by intro _ _; rfl)
    (hst : starEach [.GeneratorExp elt [⟨tg, iter, [], 0⟩, ⟨t2, i2, [], 0⟩] scope gpos] X.env = (false, eval (.GeneratorExp elt [⟨tg, iter, [], 0⟩, ⟨t2, i2, [], 0⟩] scope gpos) X.env) :: starEach [] X.env := by rfl) :
    E X T Γ (.Call (.Name "all" p) [.GeneratorExp elt [⟨tg, iter, [], 0⟩, ⟨t2, i2, [], 0⟩] scope gpos] [] pos) (.bl (as.all fun a => (bs2 a).all (b a))) := fun W σ H hP Q kq => by
  refine of_pe (pe_all2 g.room hgl fr.all g.calm g.nodup g.tab g.code g.mem g.uniq ok pi_r (fun s H0 code fp q go => ⟨fun pins s1 σ1 H1 v u Q1 I1 r1 q1 => q1 s H0 code fp q go pins s1 u I1 r1⟩)
    (fun s H0 code fp q go hroom => ⟨fun pins s1 σ1 H1 Q1 I1 q1 => q1 s H0 code fp q go hroom pins s1 I1⟩) (fun s H0 code fp q go hroom => ⟨fun pins s1 σ1 H1 R1 I1 q1 => q1 s H0 code fp q go hroom pins s1 I1⟩)
    (fun s H0 code fp q go => ⟨fun pins s1 σ1 H1 v u Q1 I1 r1 q1 => q1 s H0 code fp q go pins s1 u I1 r1⟩) hsub hs2 hs hst (by decide +kernel)) (gen_ok2 false hP hi Bd hB hg hi2 hg2 he hj hj2 (as.all fun a => (bs2 a).all (b a)) ?_ kq)
  by_cases h : ∃ a ∈ as, ∃ x ∈ bs2 a, b a x = false
  · rw [if_pos h]
    obtain ⟨a, h1, x, h2, h3⟩ := h
    exact Bool.eq_false_iff.mpr fun z => by
      have := List.all_eq_true.mp (List.all_eq_true.mp z a h1) x h2
      rw [h3] at this
      cases this
  · rw [if_neg h]
    exact List.all_eq_true.mpr fun a ha => List.all_eq_true.mpr fun x hx => by
      cases q : b a x with
      | true => rfl
      | false => exact (h ⟨a, ha, x, hx, q⟩).elim
end
/-! a branch that is never taken -/
section
variable {X : Cx} {T : TbL} {De : Ends} {bs : List Bas} {Γ : List Sl} {σ : L2.St} {H : Hp} {c : Expr} {A1 : List Stmt} {pos : Pos}
theorem s_skip (h : At X.K T bs Γ σ H) (hc : B X T (al Γ) c false) (k : ∀ σ' H', At X.K T bs Γ σ' H' → De.nx σ' H') : rS X (.If c A1 [] pos) De σ H :=
  s_if h hc (fun hb => nomatch hb) fun _ σ' H' h' => ss_nil (k σ' H' h')
end
/-! what is walked, by lists of plain things -/
section
variable {X : Cx} {T : TbL} {Γ : List (Option D)} {α : Type} {xs : List α} {ed : α → D} {e a b tg : Expr} {pos p tpos : Pos} {elts : List Expr} {kk n lo hi : Nat}
theorem enumD_zip : ∀ (xs : List α) (i : Nat), enumD i (xs.map ed) = (xs.zipIdx i).map fun q => D.tup [.int (q.2 : Nat), ed q.1]
  | [], _ => rfl
  | x :: xs, i => by
    simp only [List.map_cons, enumD, List.zipIdx_cons]
    rw [enumD_zip xs (i + 1)]
theorem i_enumT' (fr : Fr X.mg) (h : E X T Γ e (.tup (xs.map ed))) (hg : Gl X "enumerate" := by rfl) (hs : starEach [e] X.env = [(false, eval e X.env)] := by rfl) : I X T Γ (.Tuple elts kk tpos) (.Call (.Name "enumerate" p) [e] [] pos) (xs.zipIdx.map fun q => D.tup [.int (q.2 : Nat), ed q.1]) := by
  rw [← enumD_zip]
  exact i_enumT fr h hg hs
theorem i_enumL' (fr : Fr X.mg) (h : E X T Γ e (.lst (xs.map ed))) (hg : Gl X "enumerate" := by rfl) (hs : starEach [e] X.env = [(false, eval e X.env)] := by rfl) : I X T Γ (.Tuple elts kk tpos) (.Call (.Name "enumerate" p) [e] [] pos) (xs.zipIdx.map fun q => D.tup [.int (q.2 : Nat), ed q.1]) := by
  rw [← enumD_zip]
  exact i_enumL fr h hg hs
theorem zip_get {i : Nat} {q : α × Nat} (h : xs.zipIdx[i]? = some q) : q.2 = i ∧ xs[i]? = some q.1 := by
  rw [List.getElem?_zipIdx] at h
  cases e : xs[i]? with
  | none => rw [e] at h; cases h
  | some x => rw [e] at h; cases h; exact ⟨by simp, rfl⟩
theorem zip_mem {q : α × Nat} (h : q ∈ xs.zipIdx) : xs[q.2]? = some q.1 := by
  obtain ⟨i, h1, h2⟩ := List.mem_iff_getElem.mp h
  have h3 : xs.zipIdx[i]? = some q := by rw [List.getElem?_eq_getElem h1, h2]
  obtain ⟨a1, a2⟩ := zip_get h3
  rw [a1]
  exact a2
theorem i_rng (fr : Fr X.mg) (h : E X T Γ a (.int (n : Nat))) (hn : n ≤ 100000 := by omega) (hg : Gl X "range" := by rfl) (hs : starEach [a] X.env = [(false, eval a X.env)] := by rfl) : I X T Γ tg (.Call (.Name "range" p) [a] [] pos) ((List.range n).map fun (i : Nat) => D.int (i : Nat)) := by
  have h1 := i_rng1 (tg := tg) (p := p) (pos := pos) fr h (by omega) (by omega) hg hs
  have e : rngD 0 ((n : Nat) : Int).toNat = (List.range n).map fun (i : Nat) => D.int (i : Nat) := by
    unfold rngD
    rw [Int.toNat_natCast]
    exact List.map_congr_left fun i _ => by rw [Int.zero_add]
  rw [e] at h1
  exact h1
theorem i_rngR (fr : Fr X.mg) (h : E X T Γ a (.int (lo : Nat))) (h' : E X T Γ b (.int (hi : Nat))) (hn : lo ≤ 100000 ∧ hi ≤ 100000 := by omega) (hg : Gl X "range" := by rfl) (hs : starEach [a, b] X.env = [(false, eval a X.env), (false, eval b X.env)] := by rfl) (hs2 : starEach [b] X.env = [(false, eval b X.env)] := by rfl) :
    I X T Γ tg (.Call (.Name "range" p) [a, b] [] pos) ((List.range' lo (hi - lo)).map fun (i : Nat) => D.int (i : Nat)) := by
  have h1 := i_rng2 (tg := tg) (p := p) (pos := pos) fr h h' (by omega) hg hs hs2
  have e : rngD (lo : Nat) (((hi : Nat) : Int) - (lo : Nat)).toNat = (List.range' lo (hi - lo)).map fun (i : Nat) => D.int (i : Nat) := by
    unfold rngD
    have e2 : (((hi : Nat) : Int) - (lo : Nat)).toNat = hi - lo := by omega
    rw [e2, List.range'_eq_map_range, List.map_map]
    exact List.map_congr_left fun i _ => by simp
  rw [e] at h1
  exact h1
end
end Dv
/-! ## DvL -/
set_option maxHeartbeats 4000000
/-! Judgements by data: order of int tuples, in and not in, globals, lists joined. -/
namespace Dv
open PySem PySem.Spec PyProof.Rows L2 Gx

/-- n >= m from the first difference on -/
def geI (ns ms : List Int) : Bool := Ob.lexAt (fun j => decide (ns.getD j 0 = ms.getD j 0)) (fun j => decide (ms.getD j 0 ≤ ns.getD j 0)) (decide (ns.length ≥ ms.length)) 0 (min ns.length ms.length)
def rGeT (K : PySem.W.Frag) : R2 := fun x y H Q => ∃ a b ns ms, x = .ref a ∧ y = .ref b ∧ SqT K H a (ns.map V.int) ∧ SqT K H b (ms.map V.int) ∧ Q (.bl (geI ns ms)) H
theorem op_geT {X : Cx} (hu : X.A.units < cLine) : OpR X (compareOp .GtE) (rGeT X.K) := by
  intro pins s σ H x y v u Q I rx ry ⟨a, b, ns, ms, ex, ey, ha, hb, q⟩
  subst ex ey
  obtain rfl : v = Value.ref a := rx
  obtain rfl : u = Value.ref b := ry
  obtain ⟨as, ra, pa, _⟩ := I.tuple ha
  obtain ⟨bs, rb, pb, _⟩ := I.tuple hb
  have ia : IntsAre as ns := Vals.ints ra
  have ib : IntsAre bs ms := Vals.ints rb
  have la : as.toArray.size = ns.length := (List.size_toArray ..).trans ia.length
  have lb : bs.toArray.size = ms.length := (List.size_toArray ..).trans ib.length
  have ga : ∀ j (hj : j < as.toArray.size), ∃ t, as.toArray[j] = .int (ns.getD j 0) t := fun j hj => PyProof.Rows.IntsAre.int_at ia _ _ (by
    rw [List.size_toArray] at hj
    simp [hj])
  have gb : ∀ j (hj : j < bs.toArray.size), ∃ t, bs.toArray[j] = .int (ms.getD j 0) t := fun j hj => PyProof.Rows.IntsAre.int_at ib _ _ (by
    rw [List.size_toArray] at hj
    simp [hj])
  have eqs : ∀ (i k : Int), (i == k) = decide (i = k) := fun i k => by
    by_cases z : i = k
    · subst z; simp
    · simp [z]
  have R := Ob.RcOp.tuples_ge (A := X.A) (s := s) (e := fun j => decide (ns.getD j 0 = ms.getD j 0)) (r := fun j => decide (ms.getD j 0 ≤ ns.getD j 0)) pa pb hu
    (fun j h1 h2 => by
      obtain ⟨t1, z1⟩ := ga j h1
      obtain ⟨t2, z2⟩ := gb j h2
      rw [z1, z2, ← eqs]
      exact SeqAt.EqAt.int_int _ _ _ _)
    (fun j h1 h2 _ => by
      obtain ⟨t1, z1⟩ := ga j h1
      obtain ⟨t2, z2⟩ := gb j h2
      rw [z1, z2]
      exact Ob.RcOp.ge_int _ _ _ _)
  rw [la, lb] at R
  exact R X.prog X.w X.xe (EP X pins σ Q) ⟨.bl (geI ns ms), H, I, rfl, q⟩

section
variable {X : Cx} {T : TbL} {Γ : List (Option D)} {e a b : Expr} {es : List Expr} {d da db : D} {l m : List D} {pos p : Pos} {i j k : Int} {q : Bool}
theorem o_geT {ns ms : List Int} : O2 X T (rGeT X.K) (.tup (ns.map D.int)) (.tup (ms.map D.int)) (.bl (geI ns ms)) := fun W H x y _ _ rx ry Q k => by
  rw [Rep] at rx ry
  obtain ⟨a, xs, rfl, ha, ra⟩ := rx
  obtain ⟨b, ys, rfl, hb, rb⟩ := ry
  rw [ints_rep ra] at ha
  rw [ints_rep rb] at hb
  exact ⟨a, b, ns, ms, rfl, rfl, ha, hb, k _ H (Ex.refl H) rfl⟩
theorem e_geT {ns ms : List Int} (hu : X.A.units < cLine) (ha : E X T Γ a (.tup (ns.map D.int))) (hb : E X T Γ b (.tup (ms.map D.int))) (hm : behindInMarks .GtE b = false := by first | exact nobehind _ (by decide) (by decide) | rfl) : E X T Γ (.Compare a [.GtE] [b] pos) (.bl (geI ns ms)) :=
  e_cmp (op_geT hu) o_geT hm ha hb
/-! in, not in -/
theorem e_in {x : V} {xs : List V} (ha : E X T Γ a da) (hb : E X T Γ b db) (hs : seqOf db = some l) (hx : atom da = some x) (hl : l.map atom = xs.map some) (hfx : flatV x = true) (hfl : xs.all flatV = true) (hm : behindInMarks .In b = false := by first | exact nobehind _ (by decide) (by decide) | rfl) :
    E X T Γ (.Compare a [.In] [b] pos) (.bl (inV x xs)) := e_cmp op_in_seq (o_in hs hx hl hfx hfl) hm ha hb
theorem b_in {x : V} {xs : List V} (ha : E X T Γ a da) (hb : E X T Γ b db) (hs : seqOf db = some l) (hx : atom da = some x) (hl : l.map atom = xs.map some) (hfx : flatV x = true) (hfl : xs.all flatV = true) (hm : behindInMarks .In b = false := by first | exact nobehind _ (by decide) (by decide) | rfl) :
    B X T Γ (.Compare a [.In] [b] pos) (inV x xs) := b_cmp op_in_seq (o_in hs hx hl hfx hfl) hm ha hb
theorem b_nin {x : V} {xs : List V} (ha : E X T Γ a da) (hb : E X T Γ b db) (hs : seqOf db = some l) (hx : atom da = some x) (hl : l.map atom = xs.map some) (hfx : flatV x = true) (hfl : xs.all flatV = true) (hm : behindInMarks .NotIn b = false := by first | exact nobehind _ (by decide) (by decide) | rfl) :
    B X T Γ (.Compare a [.NotIn] [b] pos) (!inV x xs) := b_cmp op_notIn_seq (o_nin hs hx hl hfx hfl) hm ha hb
/-- a tuple of texts that stands in the module -/
theorem e_gstr {x : Str} {t : Addr} {ss : List Str} (hg : Gl X x) (hm : X.mg x = some (.ref t)) (ht : ∀ H, SqT X.K H t (ss.map V.str)) (hd : (x == ("__debug__" : Str)) = false := by decide) : E X T Γ (.Name x pos) (.tup (ss.map D.str)) := fun W σ H P Q q =>
  of_pe (pe_glob (v := .ref t) hg hm rfl hd) (q _ H (Ex.refl H) ⟨t, ss.map V.str, rfl, ht H, Reps.mapp fun s _ => by rw [Rep]⟩)
end
end Dv
namespace Dv
open PySem PySem.Spec PyProof.Rows L2 Gx
theorem ix_tupI {α : Type} {e : α → D} {as : List α} {i : Int} {a : α} (k : Nat) (hi : i = (k : Int)) (h : as[k]? = some a) : ixF (.tup (as.map e)) (.int i) = some (e a) := by
  rw [hi]
  exact ix_tup h
theorem ix_lstI {α : Type} {e : α → D} {as : List α} {i : Int} {a : α} (k : Nat) (hi : i = (k : Int)) (h : as[k]? = some a) : ixF (.lst (as.map e)) (.int i) = some (e a) := by
  rw [hi]
  exact ix_lst h
section
variable {X : Cx} {Γ : List (Option D)} {d d1 d2 d3 : D} {pos p1 p2 p3 : Pos} {x y z : Str} {kk : Nat}
theorem gd_name (i : Nat) (hN : X.N.Nodup) (hi : X.N[i]? = some x := by rfl) (hx : Loc X.env.scope x := by first | exact Or.inl rfl | exact Or.inr rfl) (hf : X.fn x = true ∨ X.env.scope.names.lookup x = some .local := by first | exact .inl rfl | exact .inr rfl) : Gd X (.Name x pos) d [(i, d)] := fun _ _ => g_name hN hi hx hf
theorem gd_two (i j : Nat) (hc : X.calm = true) (hN : X.N.Nodup) (hi : X.N[i]? = some x := by rfl) (hx : Loc X.env.scope x := by first | exact Or.inl rfl | exact Or.inr rfl) (hf : X.fn x = true ∨ X.env.scope.names.lookup x = some .local := by first | exact .inl rfl | exact .inr rfl)
    (hj : X.N[j]? = some y := by rfl) (hy : Loc X.env.scope y := by first | exact Or.inl rfl | exact Or.inr rfl) (hg : X.fn y = true ∨ X.env.scope.names.lookup y = some .local := by first | exact .inl rfl | exact .inr rfl)
    (hn : (assignEach [.Name x p1, .Name y p2] X.env).length = 2 := by rfl) (hst : (assignEach [.Name x p1, .Name y p2] X.env).findIdx? (·.1) = none := by rfl)
    (hs : (assignEach [.Name x p1, .Name y p2] X.env).map (·.2) = assign (.Name x p1) X.env :: (assignEach [.Name y p2] X.env).map (·.2) := by rfl) (hs2 : (assignEach [.Name y p2] X.env).map (·.2) = assign (.Name y p2) X.env :: (assignEach [] X.env).map (·.2) := by rfl) :
    Gd X (.Tuple [.Name x p1, .Name y p2] kk pos) (.tup [d1, d2]) [(i, d1), (j, d2)] := fun _ _ => g_two hc hN hi hx hf hj hy hg hn hst hs hs2
theorem gd_three (i j k : Nat) (hc : X.calm = true) (hN : X.N.Nodup) (hi : X.N[i]? = some x := by rfl) (hx : Loc X.env.scope x := by first | exact Or.inl rfl | exact Or.inr rfl) (hf : X.fn x = true ∨ X.env.scope.names.lookup x = some .local := by first | exact .inl rfl | exact .inr rfl)
    (hj : X.N[j]? = some y := by rfl) (hy : Loc X.env.scope y := by first | exact Or.inl rfl | exact Or.inr rfl) (hg : X.fn y = true ∨ X.env.scope.names.lookup y = some .local := by first | exact .inl rfl | exact .inr rfl)
    (hk : X.N[k]? = some z := by rfl) (hz : Loc X.env.scope z := by first | exact Or.inl rfl | exact Or.inr rfl) (hh : X.fn z = true ∨ X.env.scope.names.lookup z = some .local := by first | exact .inl rfl | exact .inr rfl)
    (hn : (assignEach [.Name x p1, .Name y p2, .Name z p3] X.env).length = 3 := by rfl) (hst : (assignEach [.Name x p1, .Name y p2, .Name z p3] X.env).findIdx? (·.1) = none := by rfl)
    (hs : (assignEach [.Name x p1, .Name y p2, .Name z p3] X.env).map (·.2) = assign (.Name x p1) X.env :: (assignEach [.Name y p2, .Name z p3] X.env).map (·.2) := by rfl)
    (hs2 : (assignEach [.Name y p2, .Name z p3] X.env).map (·.2) = assign (.Name y p2) X.env :: (assignEach [.Name z p3] X.env).map (·.2) := by rfl) (hs3 : (assignEach [.Name z p3] X.env).map (·.2) = assign (.Name z p3) X.env :: (assignEach [] X.env).map (·.2) := by rfl) :
    Gd X (.Tuple [.Name x p1, .Name y p2, .Name z p3] kk pos) (.tup [d1, d2, d3]) [(i, d1), (j, d2), (k, d3)] := fun _ _ => g_three hc hN hi hx hf hj hy hg hk hz hh hn hst hs hs2 hs3
end
end Dv
namespace Dv
open PySem PySem.Spec PyProof.Rows L2 Gx
def blkB (N : List Str) (sc scope : Scope) (own : List (Str × Nat)) : Bool :=
  decide (scope.kind = .function) && (decide (∀ y ∈ scope.names, scope.names.lookup y.1 = some y.2) && (decide (∀ p ∈ own, N[p.2]? = some p.1) && (decide (∀ y ∈ scope.names, y.2 = NameKind.free → sc.names.lookup y.1 = some .cell ∨ sc.names.lookup y.1 = some .free) &&
    decide (∀ y ∈ scope.names, y.2 = NameKind.local ∨ y.2 = NameKind.cell → y.1 ∈ own.map (·.1) ∨ y.1 ∉ N))))
theorem blk_of {N : List Str} {sc scope : Scope} {own : List (Str × Nat)} (h : blkB N sc scope own = true) : BlkOk N sc scope own := by
  unfold blkB at h
  simp only [Bool.and_eq_true, decide_eq_true_eq] at h
  obtain ⟨h1, h2, h3, h4, h5⟩ := h
  exact ⟨h1, h2, h3, h4, h5⟩
def gscB (N : List Str) (sc scope : Scope) (own : List (Str × Nat)) : Bool :=
  blkB N sc scope own && (decide (scope.isCoroutine = false) && (decide (∀ y ∈ scope.names, y.2 ≠ NameKind.cell) && decide (scope.names.lookup (".0" : Str) = some NameKind.local)))
theorem gsc_of {N : List Str} {sc scope : Scope} {own : List (Str × Nat)} (h : gscB N sc scope own = true) : GSc N sc scope own := by
  unfold gscB at h
  simp only [Bool.and_eq_true, decide_eq_true_eq] at h
  obtain ⟨h1, h2, h3, h4⟩ := h
  exact ⟨blk_of h1, h2, h3, h4⟩
theorem Sim.mono {js ks : List Nat} {σ σ' : L2.St} (h : Sim js σ σ') (s : ∀ j ∈ js, j ∈ ks) : Sim ks σ σ' := ⟨h.1, fun k hk => h.2 k fun z => hk (s k z)⟩
theorem gd_g {X : Cx} {T : TbL} {Γ : List (Option D)} {tg : Expr} {d : D} {ps : List (Nat × D)} {js : List Nat} (h : Gd X tg d ps) (e : ps.map (·.1) = js) : G X T Γ tg d js (putO Γ ps) := e ▸ h T Γ
section
variable {X : Cx} {T : TbL} {Γ : List (Option D)} {α β : Type} {as : List α} {ed : α → D} {ps : α → List (Nat × D)} {b : α → Bool} {f : α → D} {elt tg iter : Expr} {ifs : List Expr} {scope : Scope} {own : List (Str × Nat)} {pos p gpos : Pos} {c P : Addr} {k : Nat}
/-- a list comprehension -/
theorem n_lc' (own : List (Str × Nat)) (as : List α) (ed : α → D) (ps : α → List (Nat × D)) (b : α → Bool) (f : α → D) (hc : X.calm = true) (hN : X.N.Nodup) (ok : BlkOk X.N X.env.scope scope own) (hz : as.length ≤ 100000) (hi : I X T Γ tg iter (as.map ed)) (hg : ∀ a ∈ as, Ball X scope fun Z => Gd Z tg (ed a) (ps a))
    (ht : ∀ a ∈ as, Ball X scope fun Z => Bs Z T (putO (wiped Γ (own.map (·.2))) (ps a)) ifs (b a)) (he : ∀ a ∈ as, b a = true → Ball X scope fun Z => E Z T (putO (wiped Γ (own.map (·.2))) (ps a)) elt (f a)) (hp : ∀ a, (ps a).map (·.1) = own.map (·.2) := by intro _; rfl)
    (hs : ∀ x, foldedSetIterable iter X.env x = pure x := by intro _; rfl) : N X T Γ (.ListComp elt [⟨tg, iter, ifs, 0⟩] scope pos) ((as.filter b).map f) :=
  n_lc hc hN ok hz hi (fun a ha s H C cl fp => gd_g (hg a ha s H C cl fp) (hp a)) ht he (fun _ h => h) hs
theorem lc_ok' {W : List Addr} {σ : L2.St} {H : Hp} {Q : VK} (hz : as.length ≤ 100000) (hi : I X T Γ tg iter (as.map ed)) (hg : ∀ a ∈ as, Ball X scope fun Z => Gd Z tg (ed a) (ps a)) (ht : ∀ a ∈ as, Ball X scope fun Z => Bs Z T (putO (wiped Γ (own.map (·.2))) (ps a)) ifs (b a))
    (he : ∀ a ∈ as, b a = true → Ball X scope fun Z => E Z T (putO (wiped Γ (own.map (·.2))) (ps a)) elt (f a)) (hp : ∀ a, (ps a).map (·.1) = own.map (·.2)) (Pp : Pr X.K T W H Γ σ) (kq : ∀ p xs H2, Nw H p → Ex T H H2 → H2 p = some (.lst xs) → Reps X.K (p :: W) H2 ((as.filter b).map f) xs → Q (.ref p) H2) :
    tLc (rI X tg iter) (gB X scope tg) (tB_ X scope ifs) (eB X scope elt) (own.map (·.2)) σ H Q :=
  lc_ok hz hi (fun a ha s H C cl fp => gd_g (hg a ha s H C cl fp) (hp a)) ht he (fun _ h => h) Pp kq
theorem e_any' (own : List (Str × Nat)) (as : List α) (ed : α → D) (ps : α → List (Nat × D)) (b : α → Bool) (fr : Fr X.mg) (g : GG X T c P k) (ok : GSc X.N X.env.scope scope own) (hz : as.length ≤ 100000) (hi : I X T Γ tg iter (as.map ed))
    (hg : ∀ a ∈ as, ∀ (s : Shared) (H : Hp) (code : Value) (fp : List Addr) (q : Addr) (go : Obj), Gd (zcx X s H scope code fp q go) tg (ed a) (ps a))
    (he : ∀ a ∈ as, Zall X scope k fun Z => E Z T (putO (wiped Γ (ixs own)) (ps a)) elt (.bl (b a))) (hp : ∀ a, (ps a).map (·.1) = own.map (·.2) := by intro _; rfl) (hgl : Gl X "any" := by rfl) (hs : ∀ v, genFold iter X.env v = pure v := by intro _; rfl)
    (hst : starEach [.GeneratorExp elt [⟨tg, iter, [], 0⟩] scope gpos] X.env = (false, eval (.GeneratorExp elt [⟨tg, iter, [], 0⟩] scope gpos) X.env) :: starEach [] X.env := by rfl) :
    E X T Γ (.Call (.Name "any" p) [.GeneratorExp elt [⟨tg, iter, [], 0⟩] scope gpos] [] pos) (.bl (as.any b)) :=
  e_any fr g ok hz hi (fun a ha s H code fp q go => gd_g (hg a ha s H code fp q go) (hp a)) he (fun _ h => h) hgl hs hst
theorem e_all' (own : List (Str × Nat)) (as : List α) (ed : α → D) (ps : α → List (Nat × D)) (b : α → Bool) (fr : Fr X.mg) (g : GG X T c P k) (ok : GSc X.N X.env.scope scope own) (hz : as.length ≤ 100000) (hi : I X T Γ tg iter (as.map ed))
    (hg : ∀ a ∈ as, ∀ (s : Shared) (H : Hp) (code : Value) (fp : List Addr) (q : Addr) (go : Obj), Gd (zcx X s H scope code fp q go) tg (ed a) (ps a))
    (he : ∀ a ∈ as, Zall X scope k fun Z => E Z T (putO (wiped Γ (ixs own)) (ps a)) elt (.bl (b a))) (hp : ∀ a, (ps a).map (·.1) = own.map (·.2) := by intro _; rfl) (hgl : Gl X "all" := by rfl) (hs : ∀ v, genFold iter X.env v = pure v := by intro _; rfl)
    (hst : starEach [.GeneratorExp elt [⟨tg, iter, [], 0⟩] scope gpos] X.env = (false, eval (.GeneratorExp elt [⟨tg, iter, [], 0⟩] scope gpos) X.env) :: starEach [] X.env := by rfl) :
    E X T Γ (.Call (.Name "all" p) [.GeneratorExp elt [⟨tg, iter, [], 0⟩] scope gpos] [] pos) (.bl (as.all b)) :=
  e_all fr g ok hz hi (fun a ha s H code fp q go => gd_g (hg a ha s H code fp q go) (hp a)) he (fun _ h => h) hgl hs hst
theorem e_sum' (own : List (Str × Nat)) (as : List α) (ed : α → D) (ps : α → List (Nat × D)) (f : α → Int) (fr : Fr X.mg) (g : GG X T c P k) (ok : GSc X.N X.env.scope scope own) (hi : I X T Γ tg iter (as.map ed))
    (hg : ∀ a ∈ as, ∀ (s : Shared) (H : Hp) (code : Value) (fp : List Addr) (q : Addr) (go : Obj), Gd (zcx X s H scope code fp q go) tg (ed a) (ps a))
    (he : ∀ a ∈ as, Zall X scope k fun Z => E Z T (putO (wiped Γ (ixs own)) (ps a)) elt (.int (f a))) (hp : ∀ a, (ps a).map (·.1) = own.map (·.2) := by intro _; rfl) (hgl : Gl X "sum" := by rfl) (hs : ∀ v, genFold iter X.env v = pure v := by intro _; rfl)
    (hst : starEach [.GeneratorExp elt [⟨tg, iter, [], 0⟩] scope gpos] X.env = (false, eval (.GeneratorExp elt [⟨tg, iter, [], 0⟩] scope gpos) X.env) :: starEach [] X.env := by rfl) :
    E X T Γ (.Call (.Name "sum" p) [.GeneratorExp elt [⟨tg, iter, [], 0⟩] scope gpos] [] pos) (.int (as.map f).sum) :=
  e_sum fr g ok hi (fun a ha s H code fp q go => gd_g (hg a ha s H code fp q go) (hp a)) he (fun _ h => h) hgl hs hst
end
section
variable {X : Cx} {T : TbL} {bs : List Bas} {Γ : List Sl} {σ : L2.St} {H : Hp} {De : Ends} {α : Type} {elt tg iter : Expr} {ifs : List Expr} {scope : Scope} {pos py spos : Pos} {i : Nat} {y : Str}
/-- name = [..]: a list that is shared; one that is owned -/
theorem s_lc (own : List (Str × Nat)) (as : List α) (ed : α → D) (ps : α → List (Nat × D)) (b : α → Bool) (f : α → D) (h : At X.K T bs Γ σ H) (hc : X.calm = true) (hN : X.N.Nodup) (ok : BlkOk X.N X.env.scope scope own) (hz : as.length ≤ 100000) (hi : I X T (sh Γ) tg iter (as.map ed)) (hg : ∀ a ∈ as, Ball X scope fun Z => Gd Z tg (ed a) (ps a))
    (ht : ∀ a ∈ as, Ball X scope fun Z => Bs Z T (putO (wiped (sh Γ) (own.map (·.2))) (ps a)) ifs (b a)) (he : ∀ a ∈ as, b a = true → Ball X scope fun Z => E Z T (putO (wiped (sh Γ) (own.map (·.2))) (ps a)) elt (f a)) (k : ∀ σ' H', At X.K T bs (Γ.set i (.d (.lst ((as.filter b).map f)))) σ' H' → De.nx σ' H')
    (hsw : swapsWith (.ListComp elt [⟨tg, iter, ifs, 0⟩] scope pos) (some (.Name y py)) spos.line X.env = pure true) (hy : X.N[i]? = some y := by rfl) (hyl : X.env.scope.names.lookup y = some .local := by rfl) (hp : ∀ a, (ps a).map (·.1) = own.map (·.2) := by intro _; rfl)
    (hs : ∀ x, foldedSetIterable iter X.env x = pure x := by intro _; rfl) : rS X (.Assign [.Name y py] (.ListComp elt [⟨tg, iter, ifs, 0⟩] scope pos) spos) De σ H := let ⟨W, a⟩ := h
  of_ps (ps_lc hc hN hy hyl hsw ok hs) (lc_ok' (Q := fun v H1 => gName i v σ H1 De.nx) hz hi hg ht he hp a.pr fun q xs H2 n e2 h2 r2 => k _ _ ⟨W, (a.ex e2).put ⟨q, xs, rfl, .inl ⟨h2, a.al.nin n⟩, r2.less fun x z => List.mem_cons_of_mem _ z⟩⟩)
theorem s_lcN (own : List (Str × Nat)) (as : List α) (ed : α → D) (ps : α → List (Nat × D)) (b : α → Bool) (f : α → D) (h : At X.K T bs Γ σ H) (hc : X.calm = true) (hN : X.N.Nodup) (ok : BlkOk X.N X.env.scope scope own) (hz : as.length ≤ 100000) (hi : I X T (sh Γ) tg iter (as.map ed)) (hg : ∀ a ∈ as, Ball X scope fun Z => Gd Z tg (ed a) (ps a))
    (ht : ∀ a ∈ as, Ball X scope fun Z => Bs Z T (putO (wiped (sh Γ) (own.map (·.2))) (ps a)) ifs (b a)) (he : ∀ a ∈ as, b a = true → Ball X scope fun Z => E Z T (putO (wiped (sh Γ) (own.map (·.2))) (ps a)) elt (f a)) (k : ∀ σ' H', At X.K T bs (Γ.set i (.own 0 (.lst ((as.filter b).map f)))) σ' H' → De.nx σ' H')
    (hsw : swapsWith (.ListComp elt [⟨tg, iter, ifs, 0⟩] scope pos) (some (.Name y py)) spos.line X.env = pure true) (hy : X.N[i]? = some y := by rfl) (hyl : X.env.scope.names.lookup y = some .local := by rfl) (hp : ∀ a, (ps a).map (·.1) = own.map (·.2) := by intro _; rfl)
    (hs : ∀ x, foldedSetIterable iter X.env x = pure x := by intro _; rfl) : rS X (.Assign [.Name y py] (.ListComp elt [⟨tg, iter, ifs, 0⟩] scope pos) spos) De σ H := let ⟨W, a⟩ := h
  of_ps (ps_lc hc hN hy hyl hsw ok hs) (lc_ok' (Q := fun v H1 => gName i v σ H1 De.nx) hz hi hg ht he hp a.pr fun q xs H2 n e2 h2 r2 => k _ _ ⟨q :: W, a.putOwn n e2 h2 r2⟩)
end
end Dv
namespace Dv
open PySem PySem.Spec PyProof.Rows L2 Gx
section
variable {X : Cx} {T : TbL} {Γ : List (Option D)} {α β : Type} {elt tg iter t2 i2 : Expr} {scope : Scope} {pos p gpos : Pos} {c P : Addr} {k : Nat}
theorem e_any2' (own : List (Str × Nat)) (js vs2 : List Nat) (as : List α) (ed : α → D) (ps : α → List (Nat × D)) (bs2 : α → List β) (ed2 : α → β → D) (ps2 : α → β → List (Nat × D)) (b : α → β → Bool) (fr : Fr X.mg) (g : GG X T c P k) (ok : GSc X.N X.env.scope scope own) (hi : I X T Γ tg iter (as.map ed)) (Bd : Nat) (hB : ∀ a ∈ as, (bs2 a).length ≤ Bd)
    (hg : ∀ a ∈ as, ∀ (s : Shared) (H : Hp) (code : Value) (fp : List Addr) (q : Addr) (go : Obj), Gd (zcx X s H scope code fp q go) tg (ed a) (ps a))
    (hi2 : ∀ a ∈ as, Zall X scope k fun Z => I Z T (putO (wiped Γ (ixs own)) (ps a)) t2 i2 ((bs2 a).map (ed2 a)))
    (hg2 : ∀ a ∈ as, ∀ x ∈ bs2 a, ∀ (s : Shared) (H : Hp) (code : Value) (fp : List Addr) (q : Addr) (go : Obj), Gd (zcx X s H scope code fp q go) t2 (ed2 a x) (ps2 a x))
    (he : ∀ a ∈ as, ∀ x ∈ bs2 a, Zall X scope k fun Z => E Z T (putO (wiped (putO (wiped Γ (ixs own)) (ps a)) vs2) (ps2 a x)) elt (.bl (b a x))) (hp : ∀ a, (ps a).map (·.1) = js := by intro _; rfl) (hp2 : ∀ a x, (ps2 a x).map (·.1) = vs2 := by intro _ _; rfl) (hj : ∀ j ∈ js, j ∈ ixs own := by decide) (hsub : ∀ v ∈ vs2, v ∈ ixs own := by decide) (hgl : Gl X "any" := by rfl) (hs : ∀ v, genFold iter X.env v = pure v := by intro _; rfl)
    (hs2 : ∀ env x, foldedSetIterable i2 env x = pure x := by intro _ _; rfl)
    (hst : starEach [.GeneratorExp elt [⟨tg, iter, [], 0⟩, ⟨t2, i2, [], 0⟩] scope gpos] X.env = (false, eval (.GeneratorExp elt [⟨tg, iter, [], 0⟩, ⟨t2, i2, [], 0⟩] scope gpos) X.env) :: starEach [] X.env := by rfl) :
    E X T Γ (.Call (.Name "any" p) [.GeneratorExp elt [⟨tg, iter, [], 0⟩, ⟨t2, i2, [], 0⟩] scope gpos] [] pos) (.bl (as.any fun a => (bs2 a).any (b a))) :=
  e_any2 fr g ok hi Bd hB (fun a ha s H code fp q go => gd_g (hg a ha s H code fp q go) (hp a)) hi2 (fun a ha x hx s H code fp q go => gd_g (hg2 a ha x hx s H code fp q go) (hp2 a x)) he hj (fun _ h => h) hsub hgl hs hs2 hst
theorem e_all2' (own : List (Str × Nat)) (js vs2 : List Nat) (as : List α) (ed : α → D) (ps : α → List (Nat × D)) (bs2 : α → List β) (ed2 : α → β → D) (ps2 : α → β → List (Nat × D)) (b : α → β → Bool) (fr : Fr X.mg) (g : GG X T c P k) (ok : GSc X.N X.env.scope scope own) (hi : I X T Γ tg iter (as.map ed)) (Bd : Nat) (hB : ∀ a ∈ as, (bs2 a).length ≤ Bd)
    (hg : ∀ a ∈ as, ∀ (s : Shared) (H : Hp) (code : Value) (fp : List Addr) (q : Addr) (go : Obj), Gd (zcx X s H scope code fp q go) tg (ed a) (ps a))
    (hi2 : ∀ a ∈ as, Zall X scope k fun Z => I Z T (putO (wiped Γ (ixs own)) (ps a)) t2 i2 ((bs2 a).map (ed2 a)))
    (hg2 : ∀ a ∈ as, ∀ x ∈ bs2 a, ∀ (s : Shared) (H : Hp) (code : Value) (fp : List Addr) (q : Addr) (go : Obj), Gd (zcx X s H scope code fp q go) t2 (ed2 a x) (ps2 a x))
    (he : ∀ a ∈ as, ∀ x ∈ bs2 a, Zall X scope k fun Z => E Z T (putO (wiped (putO (wiped Γ (ixs own)) (ps a)) vs2) (ps2 a x)) elt (.bl (b a x))) (hp : ∀ a, (ps a).map (·.1) = js := by intro _; rfl) (hp2 : ∀ a x, (ps2 a x).map (·.1) = vs2 := by intro _ _; rfl) (hj : ∀ j ∈ js, j ∈ ixs own := by decide) (hsub : ∀ v ∈ vs2, v ∈ ixs own := by decide) (hgl : Gl X "all" := by rfl) (hs : ∀ v, genFold iter X.env v = pure v := by intro _; rfl)
    (hs2 : ∀ env x, foldedSetIterable i2 env x = pure x := by intro _ _; rfl)
    (hst : starEach [.GeneratorExp elt [⟨tg, iter, [], 0⟩, ⟨t2, i2, [], 0⟩] scope gpos] X.env = (false, eval (.GeneratorExp elt [⟨tg, iter, [], 0⟩, ⟨t2, i2, [], 0⟩] scope gpos) X.env) :: starEach [] X.env := by rfl) :
    E X T Γ (.Call (.Name "all" p) [.GeneratorExp elt [⟨tg, iter, [], 0⟩, ⟨t2, i2, [], 0⟩] scope gpos] [] pos) (.bl (as.all fun a => (bs2 a).all (b a))) :=
  e_all2 fr g ok hi Bd hB (fun a ha s H code fp q go => gd_g (hg a ha s H code fp q go) (hp a)) hi2 (fun a ha x hx s H code fp q go => gd_g (hg2 a ha x hx s H code fp q go) (hp2 a x)) he hj (fun _ h => h) hsub hgl hs hs2 hst
end
end Dv
namespace Dv
open PySem PySem.Spec PyProof.Rows L2 Gx
theorem i_rngZ {X : Cx} {T : TbL} {Γ : List (Option D)} {a tg : Expr} {pos p : Pos} {n : Nat} {z : Int} (fr : Fr X.mg) (h : E X T Γ a (.int z)) (hz : z.toNat = n) (hn : z ≤ 100000 ∧ -100000 ≤ z) (hg : Gl X "range" := by rfl) (hs : starEach [a] X.env = [(false, eval a X.env)] := by rfl) : I X T Γ tg (.Call (.Name "range" p) [a] [] pos) ((List.range n).map fun (i : Nat) => D.int (i : Nat)) := by
  have h1 := i_rng1 (tg := tg) (p := p) (pos := pos) fr h hn.1 hn.2 hg hs
  have e : rngD 0 z.toNat = (List.range n).map fun (i : Nat) => D.int (i : Nat) := by
    unfold rngD
    rw [hz]
    exact List.map_congr_left fun i _ => by rw [Int.zero_add]
  rw [e] at h1
  exact h1
end Dv
/-! ## M0 -/
set_option maxHeartbeats 4000000
/-! The data of the program, plain. -/
namespace Ev31
open PySem L2 Dv
/-- start, length, lock -/
abbrev Sec := Int × Int × Int
/-- cost, gap, sections -/
abbrev Task := Int × Int × List Sec
def eSec (s : Sec) : D := .tup [.int s.1, .int s.2.1, .int s.2.2]
def eTask (t : Task) : D := .tup [.int t.1, .int t.2.1, .tup (t.2.2.map eSec)]
def eTasks (ts : List Task) : D := .tup (ts.map eTask)
def eInts (l : List Int) : D := .tup (l.map .int)
def ePat (p : List (List Int)) : D := .tup (p.map eInts)
def eNat (k : Nat) : D := .int k
def eOpt : Option Nat → D
  | none => .no
  | some k => .int k
def prots : List Str := ["plain", "inherit", "ceiling", "stack"]
def isIn (v lo hi : Int) : Bool := decide (lo ≤ v) && decide (v ≤ hi)
def isSec (c : Int) (s : Sec) : Bool := isIn s.1 0 (c - 1) && (isIn s.2.1 1 (c - s.1) && isIn s.2.2 0 3)
def fit (a b : Sec) : Bool := if decide (a.1 + a.2.1 ≤ b.1) || decide (b.1 + b.2.1 ≤ a.1) then true else
  (((decide (a.1 ≤ b.1) && decide (b.1 + b.2.1 ≤ a.1 + a.2.1)) || (decide (b.1 ≤ a.1) && decide (a.1 + a.2.1 ≤ b.1 + b.2.1))) && ((!decide (V.int a.2.1 = V.int b.2.1)) && !decide (V.int a.2.2 = V.int b.2.2)))
def secs (ts : List Task) (k : Nat) : List Sec := (ts.getD k (0, 0, [])).2.2
def hasLock (t : Task) (l : Int) : Bool := t.2.2.any fun s => decide (V.int s.2.2 = V.int l)
/-- the first task with such a section -/
def topFrom (l : Int) : Nat → List Task → Option Nat
  | _, [] => none
  | k, t :: ts => if hasLock t l then some k else topFrom l (k + 1) ts
def top_ (ts : List Task) (l : Int) : Option Nat := topFrom l 0 ts
def ceilings (ts : List Task) : List (Option Nat) := [top_ ts 0, top_ ts 1, top_ ts 2, top_ ts 3]
/-! good inputs -/
def GoodA (gap : Int) (a : List Int) : Prop := ∀ (k : Nat) (x : Int), a[k]? = some x → isIn x 0 100 = true ∧ (0 < k → ∀ y, a[k - 1]? = some y → y + gap ≤ x)
def lS (s : Sec) : List Int := [s.1, s.2.1, s.2.2]
structure GoodT (t : Task) : Prop where
  cost : isIn t.1 1 20 = true
  gap : isIn t.2.1 1 60 = true
  few : t.2.2.length ≤ 4
  sec : ∀ s ∈ t.2.2, isSec t.1 s = true
  asc : ∀ (k : Nat) (a b : Sec), t.2.2[k]? = some a → t.2.2[k + 1]? = some b → geI (lS a) (lS b) = false
  fits : ∀ (j k : Nat) (a b : Sec), j < k → t.2.2[j]? = some a → t.2.2[k]? = some b → fit a b = true
structure GoodTs (ts : List Task) : Prop where
  least : 1 ≤ ts.length
  most : ts.length ≤ 5
  all : ∀ t ∈ ts, GoodT t
structure GoodPat (ts : List Task) (p : List (List Int)) : Prop where
  len : p.length = ts.length
  arr : ∀ (k : Nat) (t : Task) (a : List Int), ts[k]? = some t → p[k]? = some a → GoodA t.2.1 a
  jobs : (p.map fun a => ((a.length : Nat) : Int)).sum ≤ 40
end Ev31
/-! ## WA -/
set_option maxHeartbeats 4000000
namespace Ev31
open PySem PySem.Spec PyProof.Rows L2 Gx Dv
section
variable {P : Program} {w : World} {K : PySem.W.Frag} {mg : Str → Option Value} {base h : Heap}
def RIsIn (ds : List D) (d : D) : Prop := ∃ v lo hi, ds = [.int v, .int lo, .int hi] ∧ d = .bl (isIn v lo hi)
abbrev n_is_in : List Str := ["value", "least", "most"]
theorem sc_is_in : FnScope n_is_in ["value", "least", "most"] (defScope s_is_in) := ⟨rfl, rfl, rfl, by decide +kernel, rfl, by decide +kernel, by decide +kernel⟩
theorem ok_is_in (g : Pg w K mg base h) : FnC P w K mg base (TT K) "is_in" 1 RIsIn := by
  obtain ⟨fd, F⟩ := g.d_is_in
  refine fnC_of F g.a_is_in sc_is_in (fun ds d ⟨a, b, c, e, _⟩ => by rw [e]; rfl) (fun _ _ _ _ _ _ us hl => match us, hl with | [_, _, _], _ => rfl) ?_
  intro cdv A outer s H0 Q Ex0 ds d W hcd hr hR hq σ H hat
  have hu := hu_of hr
  have nd := sc_is_in.nd
  obtain ⟨v, lo, hi, rfl, rfl⟩ := hR
  have h0 : At K (TT K) [⟨[], H0, W, none⟩] [.d (.int v), .d (.int lo), .d (.int hi)] σ H := hat
  refine ss_cons (s_ret h0 (ee_sh (e_and (e_isi (u := "int") g.fr (vr 0 rfl) g.fr.int rfl rfl) fun _ => (e_and (e_not (e_isi (u := "bool") g.fr (vr 0 rfl) g.fr.bool rfl rfl)) fun _ => (e_one (e_chain op_le op_le o_I0b (fun _ => o_I0b) (vr 1 rfl) (vr 0 rfl) (fun _ => (vr 2 rfl))))))) (fin0 hq ?_))
  rfl
def RFit (ds : List D) (d : D) : Prop := ∃ a b, ds = [eSec a, eSec b] ∧ d = .bl (fit a b)
abbrev n_fit : List Str := ["one", "other", "inside", "around"]
theorem sc_fit : FnScope n_fit ["one", "other"] (defScope s_fit) := ⟨rfl, rfl, rfl, by decide +kernel, rfl, by decide +kernel, by decide +kernel⟩
theorem ok_fit (g : Pg w K mg base h) : FnC P w K mg base (TT K) "fit" 1 RFit := by
  obtain ⟨fd, F⟩ := g.d_fit
  refine fnC_of F g.a_fit sc_fit (fun ds d ⟨a, b, e, _⟩ => by rw [e]; rfl) (fun _ _ _ _ _ _ us hl => match us, hl with | [_, _], _ => rfl) ?_
  intro cdv A outer s H0 Q Ex0 ds d W hcd hr hR hq σ H hat
  have hu := hu_of hr
  have nd := sc_fit.nd
  obtain ⟨a, b, rfl, rfl⟩ := hR
  have h0 : At K (TT K) [⟨[], H0, W, none⟩] [.d (eSec a), .d (eSec b), .un, .un] σ H := hat
  refine ss_cons (s_if h0 (b_bw (bw_or (b_le (e_add (e_ix hu (vr 0 rfl) e_int rfl) (e_ix hu (vr 0 rfl) e_int rfl)) (e_ix hu (vr 1 rfl) e_int rfl)) fun _ => (bw_or1 (b_le (e_add (e_ix hu (vr 1 rfl) e_int rfl) (e_ix hu (vr 1 rfl) e_int rfl)) (e_ix hu (vr 0 rfl) e_int rfl))))) (fun hb σ H h1 => ?_) fun hb σ H h1 => ?_)
  · refine ss_cons (s_ret h1 (ee_sh e_bl) (fin0 hq ?_))
    unfold fit
    rw [if_pos hb]
  · refine ss_nil ?_
    refine ss_cons (s_asg h1 (ee_sh (e_and (e_le (e_ix hu (vr 0 rfl) e_int rfl) (e_ix hu (vr 1 rfl) e_int rfl)) fun _ => (e_one (e_le (e_add (e_ix hu (vr 1 rfl) e_int rfl) (e_ix hu (vr 1 rfl) e_int rfl)) (e_add (e_ix hu (vr 0 rfl) e_int rfl) (e_ix hu (vr 0 rfl) e_int rfl)))))) (fun σ H h2 => ?_) (i := 2) nd rfl (Or.inl rfl))
    refine ss_cons (s_asg h2 (ee_sh (e_and (e_le (e_ix hu (vr 1 rfl) e_int rfl) (e_ix hu (vr 0 rfl) e_int rfl)) fun _ => (e_one (e_le (e_add (e_ix hu (vr 0 rfl) e_int rfl) (e_ix hu (vr 0 rfl) e_int rfl)) (e_add (e_ix hu (vr 1 rfl) e_int rfl) (e_ix hu (vr 1 rfl) e_int rfl)))))) (fun σ H h3 => ?_) (i := 3) nd rfl (Or.inl rfl))
    refine ss_cons (s_ret h3 (ee_sh (e_and (e_or (vr 2 rfl) fun _ => (e_one (vr 3 rfl))) fun _ => (e_and (e_ne (e_ix hu (vr 0 rfl) e_int rfl) (e_ix hu (vr 1 rfl) e_int rfl)) fun _ => (e_one (e_ne (e_ix hu (vr 0 rfl) e_int rfl) (e_ix hu (vr 1 rfl) e_int rfl)))))) (fin0 hq ?_))
    unfold fit
    rw [if_neg (by rw [hb]; exact Bool.false_ne_true)]
end
end Ev31
/-! ## WB -/
set_option maxHeartbeats 4000000
namespace Ev31
open PySem PySem.Spec PyProof.Rows L2 Gx Dv
section
variable {P : Program} {w : World} {K : PySem.W.Frag} {mg : Str → Option Value} {base h : Heap}
/-! are_arrivals -/
def R_are_arrivals (ds : List D) (d : D) : Prop := ∃ (gap : Int) (a : List Int), ds = [.int gap, eInts a] ∧ d = .bl true ∧ GoodA gap a
abbrev n_are_arrivals : List Str := ["gap", "value", "k", "arrival"]
theorem sc_are_arrivals : FnScope n_are_arrivals ["gap", "value"] (defScope s_are_arrivals) := ⟨rfl, rfl, rfl, by decide +kernel, rfl, by decide +kernel, by decide +kernel⟩
theorem ok_are_arrivals (g : Pg w K mg base h) : FnC P w K mg base (TT K) "are_arrivals" 2 R_are_arrivals := by
  have c_is_in : FnC P w K mg base (TT K) "is_in" 1 RIsIn := ok_is_in g
  obtain ⟨t1, m_MOST_ARRIVAL⟩ := g.i_MOST_ARRIVAL
  obtain ⟨fd, F⟩ := g.d_are_arrivals
  refine fnC_of F g.a_are_arrivals sc_are_arrivals (fun ds d ⟨x0, x1, e, _⟩ => by rw [e]; rfl) (fun _ _ _ _ _ _ us hl => match us, hl with | [_, _], _ => rfl) ?_
  intro cdv A outer s H0 Q Ex0 ds d W hcd hr hR hq σ H hat
  have hu := hu_of hr
  have nd := sc_are_arrivals.nd
  obtain ⟨gap, a, rfl, rfl, good⟩ := hR
  have h0 : At K (TT K) [⟨[], H0, W, none⟩] [.d (.int gap), .d (eInts a), .un, .un] σ H := hat
  refine ss_cons (s_skip h0 (B.eq (b_not (b_val (e_isi (u := "tuple") g.fr (vr 1 rfl) g.fr.tuple rfl rfl))) rfl) fun σ H h1 => ?_)
  refine ss_cons (s_for (as := a.zipIdx) (ed := fun q => D.tup [.int (q.2 : Nat), .int q.1]) (ps := fun q => [(2, .int (q.2 : Nat)), (3, .int q.1)]) (fun _ => [.d (.int gap), .d (eInts a), .un, .un]) rfl h1 (i_enumT' g.fr (vr 1 rfl)) ⟨rfl, rfl, trivial⟩
    (fun i q hq => gd_two 2 3 rfl nd) (fun b0 i q σ H hiq h2 => ?_) fun σ H h2 => ?_)
  · obtain ⟨hi, hx⟩ := Dv.zip_get hiq
    obtain ⟨hin, hgap⟩ := good i q.1 hx
    refine ss_cons (s_skip h2 (B.eq (b_bw (bw_or (b_not (b_val (e_call c_is_in (hr.mono (by decide)) (as_cons (vr 3 rfl) (as_cons e_int (as_cons (e_gint rfl m_MOST_ARRIVAL ⟨_, rfl⟩) as_nil))) ⟨_, _, _, rfl, rfl⟩))) fun _ =>
      bw_or1 (b_bw (bw_and (b_gt (vr 2 rfl) e_int) fun hk => bw_and1 (b_lt (vr 3 rfl) (e_add (e_ix hu (vr 1 rfl) (e_sub (vr 2 rfl) e_int) (ix_tupI (a := a.getD (i - 1) 0) (i - 1) ?_ ?_)) (vr 0 rfl))))))) ?_) fun σ H h3 => ?_)
    · have hk := of_decide_eq_true hk
      omega
    · have hk := of_decide_eq_true hk
      have hl := (List.getElem?_eq_some_iff.mp hx).1
      have : i - 1 < a.length := by omega
      simp [this]
    · rw [hin]
      by_cases h0 : 0 < i
      · have hl := (List.getElem?_eq_some_iff.mp hx).1
        have h4 : i - 1 < a.length := by omega
        have h5 := hgap h0 (a.getD (i - 1) 0) (by simp [h4])
        have h6 : ¬ q.1 < a.getD (i - 1) 0 + gap := by omega
        simp only [decide_eq_false h6]
        simp
      · have h6 : ¬ (0 : Int) < (q.2 : Nat) := by omega
        simp only [decide_eq_false h6]
        simp
    · exact ss_nil (h3.wk ⟨rfl, rfl, trivial⟩)
  · refine ss_cons (s_ret h2 (ee_sh e_bl) (fin0 hq ?_))
    rfl
end
end Ev31
/-! ## WC -/
set_option maxHeartbeats 4000000
namespace Ev31
open PySem PySem.Spec PyProof.Rows L2 Gx Dv
section
variable {P : Program} {w : World} {K : PySem.W.Frag} {mg : Str → Option Value} {base h : Heap}
/-! need_task -/
def R_need_task (ds : List D) (d : D) : Prop := ∃ (ts : List Task) (k : Nat), ds = [eTasks ts, .int k] ∧ d = .no ∧ k < ts.length
abbrev n_need_task : List Str := ["tasks", "task"]
theorem sc_need_task : FnScope n_need_task ["tasks", "task"] (defScope s_need_task) := ⟨rfl, rfl, rfl, by decide +kernel, rfl, by decide +kernel, by decide +kernel⟩
theorem ok_need_task (g : Pg w K mg base h) : FnC P w K mg base (TT K) "need_task" 2 R_need_task := by
  have c_is_in : FnC P w K mg base (TT K) "is_in" 1 RIsIn := ok_is_in g
  obtain ⟨fd, F⟩ := g.d_need_task
  refine fnC_of F g.a_need_task sc_need_task (fun ds d ⟨x0, x1, e, _⟩ => by rw [e]; rfl) (fun _ _ _ _ _ _ us hl => match us, hl with | [_, _], _ => rfl) ?_
  intro cdv A outer s H0 Q Ex0 ds d W hcd hr hR hq σ H hat
  have hu := hu_of hr
  have nd := sc_need_task.nd
  obtain ⟨ts, k, rfl, rfl, hk⟩ := hR
  have h0 : At K (TT K) [⟨[], H0, W, none⟩] [.d (eTasks ts), .d (.int k)] σ H := hat
  refine ss_cons (s_skip h0 (B.eq (b_not (b_val (e_call c_is_in (hr.mono (by decide)) (as_cons (vr 1 rfl) (as_cons e_int (as_cons (e_sub (e_len g.fr (vr 0 rfl)) e_int) as_nil))) ⟨_, _, _, rfl, rfl⟩))) ?_) fun σ H h1 => ?_)
  · simp [isIn]
    omega
  · obtain ⟨W', a⟩ := h1
    exact ss_nil (fin0 hq rfl .non H W' a (by rw [Rep]))
/-! is_section -/
def R_is_section (ds : List D) (d : D) : Prop := ∃ (c : Int) (s : Sec), ds = [.int c, eSec s] ∧ d = .bl true ∧ isSec c s = true
abbrev n_is_section : List Str := ["cost", "value"]
theorem sc_is_section : FnScope n_is_section ["cost", "value"] (defScope s_is_section) := ⟨rfl, rfl, rfl, by decide +kernel, rfl, by decide +kernel, by decide +kernel⟩
theorem ok_is_section (g : Pg w K mg base h) : FnC P w K mg base (TT K) "is_section" 2 R_is_section := by
  have c_is_in : FnC P w K mg base (TT K) "is_in" 1 RIsIn := ok_is_in g
  obtain ⟨t1, m_LOCKS⟩ := g.i_LOCKS
  obtain ⟨fd, F⟩ := g.d_is_section
  refine fnC_of F g.a_is_section sc_is_section (fun ds d ⟨x0, x1, e, _⟩ => by rw [e]; rfl) (fun _ _ _ _ _ _ us hl => match us, hl with | [_, _], _ => rfl) ?_
  intro cdv A outer s H0 Q Ex0 ds d W hcd hr hR hq σ H hat
  have hu := hu_of hr
  have nd := sc_is_section.nd
  obtain ⟨c, sc, rfl, rfl, good⟩ := hR
  have h0 : At K (TT K) [⟨[], H0, W, none⟩] [.d (.int c), .d (eSec sc)] σ H := hat
  obtain ⟨g1, g2⟩ := Bool.and_eq_true_iff.mp good
  refine ss_cons (s_skip h0 (B.eq (b_bw (bw_or (b_not (b_val (e_isi (u := "tuple") g.fr (vr 1 rfl) g.fr.tuple rfl rfl))) fun _ => (bw_or (b_ne (e_len g.fr (vr 1 rfl)) e_int) fun _ => (bw_or1 (b_not (b_val (e_call c_is_in (hr.mono (by decide)) (as_cons (e_ix hu (vr 1 rfl) e_int rfl) (as_cons e_int (as_cons (e_sub (vr 0 rfl) e_int) as_nil))) ⟨_, _, _, rfl, rfl⟩))))))) ?_) fun σ H h1 => ?_)
  · rw [g1]
    rfl
  · refine ss_cons (s_ret h1 (ee_sh (e_and (e_call c_is_in (hr.mono (by decide)) (as_cons (e_ix hu (vr 1 rfl) e_int rfl) (as_cons e_int (as_cons (e_sub (vr 0 rfl) (e_ix hu (vr 1 rfl) e_int rfl)) as_nil))) ⟨_, _, _, rfl, rfl⟩) fun _ => (e_one (e_call c_is_in (hr.mono (by decide)) (as_cons (e_ix hu (vr 1 rfl) e_int rfl) (as_cons e_int (as_cons (e_sub (e_gint rfl m_LOCKS ⟨_, rfl⟩) e_int) as_nil))) ⟨_, _, _, rfl, rfl⟩)))) (fin0 hq ?_))
    exact congrArg D.bl g2
/-! plain_tasks -/
def ePl (t : Task) : D := .tup [.int t.1, .int 60, .int t.2.1]
def R_plain_tasks (ds : List D) (d : D) : Prop := ∃ (ts : List Task), ds = [eTasks ts] ∧ d = .tup (ts.map ePl) ∧ ts.length ≤ 100000
abbrev n_plain_tasks : List Str := ["tasks", "cost", "gap", "sections"]
theorem sc_plain_tasks : FnScope n_plain_tasks ["tasks"] (defScope s_plain_tasks) := ⟨rfl, rfl, rfl, by decide +kernel, rfl, by decide +kernel, by decide +kernel⟩
theorem ok_plain_tasks (g : Pg w K mg base h) : FnC P w K mg base (TT K) "plain_tasks" 1 R_plain_tasks := by
  obtain ⟨t1, m_MOST_TIME⟩ := g.i_MOST_TIME
  obtain ⟨fd, F⟩ := g.d_plain_tasks
  refine fnC_of F g.a_plain_tasks sc_plain_tasks (fun ds d ⟨x0, e, _⟩ => by rw [e]; rfl) (fun _ _ _ _ _ _ us hl => match us, hl with | [_], _ => rfl) ?_
  intro cdv A outer s H0 Q Ex0 ds d W hcd hr hR hq σ H hat
  have hu := hu_of hr
  have nd := sc_plain_tasks.nd
  obtain ⟨ts, rfl, rfl, hz⟩ := hR
  have h0 : At K (TT K) [⟨[], H0, W, none⟩] [.d (eTasks ts), .un, .un, .un] σ H := hat
  refine ss_cons (s_ret h0 (ee_sh (e_tupL g.fr (n_e (n_lc' [("cost", 1), ("gap", 2), ("sections", 3)] ts eTask (fun t => [(1, .int t.1), (2, .int t.2.1), (3, .tup (t.2.2.map eSec))]) (fun _ => true) ePl rfl nd (blk_of (by kernel_rfl)) hz (i_tup (vr 0 rfl))
    (fun a ha s H C cl fp => gd_three 1 2 3 rfl nd) (fun a ha s H C cl fp => bs_nil) (fun a ha hb s H C cl fp => e_tup (as_cons (vr 1 rfl) (as_cons (e_gint rfl m_MOST_TIME ⟨_, rfl⟩) (as_cons (vr 2 rfl) as_nil))))))) ) (fin0 hq ?_))
  rw [Dv.filter_all]
end
end Ev31
/-! ## WD -/
set_option maxHeartbeats 4000000
namespace Ev31
open PySem PySem.Spec PyProof.Rows L2 Gx Dv
section
variable {P : Program} {w : World} {K : PySem.W.Frag} {mg : Str → Option Value} {base h : Heap}
theorem gg_of {X : Cx} {p : He.Defn} {k : Nat} (g : Pg w K mg base h) (hK : X.K = K) (hmg : X.mg = mg) (hb : X.base = base) (hr : Room (k + 3) X.A) (hc : X.calm = true) (hN : X.N.Nodup) (i : Nat) (hp : tf[i]? = some p) (hcode : X.env.code = .ref (He.cT K p).1) (hm : (TT K)[i]? = some ((He.cT K p).2, X.env.qual ++ "<genexpr>")) :
    GG X (TT K) (He.cT K p).1 (He.cT K p).2 k := ⟨hr, hc, hN, by rw [hmg, hb]; exact g.tb p (List.mem_of_getElem? hp), hcode, List.mem_of_getElem? hm, uniq_of g.nd (List.mem_of_getElem? hm)⟩
/-! need_pattern -/
def R_need_pattern (ds : List D) (d : D) : Prop := ∃ (ts : List Task) (p : List (List Int)), ds = [.tup (ts.map ePl), ePat p] ∧ d = .no ∧ GoodPat ts p
abbrev n_need_pattern : List Str := ["tasks", "pattern", "index", "arrivals"]
theorem sc_need_pattern : FnScope n_need_pattern ["tasks", "pattern"] (defScope s_need_pattern) := ⟨rfl, rfl, rfl, by decide +kernel, rfl, by decide +kernel, by decide +kernel⟩
theorem ok_need_pattern (g : Pg w K mg base h) : FnC P w K mg base (TT K) "need_pattern" 5 R_need_pattern := by
  have c_are_arrivals : FnC P w K mg base (TT K) "are_arrivals" 2 R_are_arrivals := ok_are_arrivals g
  obtain ⟨t1, m_MOST_JOBS⟩ := g.i_MOST_JOBS
  obtain ⟨fd, F⟩ := g.d_need_pattern
  refine fnC_of F g.a_need_pattern sc_need_pattern (fun ds d ⟨x0, x1, e, _⟩ => by rw [e]; rfl) (fun _ _ _ _ _ _ us hl => match us, hl with | [_, _], _ => rfl) ?_
  intro cdv A outer s H0 Q Ex0 ds d W hcd hr hR hq σ H hat
  have hu := hu_of hr
  have nd := sc_need_pattern.nd
  obtain ⟨ts, p, rfl, rfl, good⟩ := hR
  have h0 : At K (TT K) [⟨[], H0, W, none⟩] [.d (.tup (ts.map ePl)), .d (ePat p), .un, .un] σ H := hat
  have hcode : cdv = .ref (He.cT K ("need_pattern", none)).1 := hcd.symm.trans (code_at F)
  refine ss_cons (s_skip h0 (B.eq (b_bw (bw_or (b_not (b_val (e_isi (u := "tuple") g.fr (vr 1 rfl) g.fr.tuple rfl rfl))) fun _ => (bw_or1 (b_ne (e_len g.fr (vr 1 rfl)) (e_len g.fr (vr 0 rfl)))))) ?_) fun σ H h1 => ?_)
  · simp [good.len]
  refine ss_cons (s_for (as := p.zipIdx) (ed := fun q => D.tup [.int (q.2 : Nat), eInts q.1]) (ps := fun q => [(2, .int (q.2 : Nat)), (3, eInts q.1)]) (fun i => [.d (.tup (ts.map ePl)), .d (ePat p), .un, .un]) rfl h1 (i_enumT' g.fr (vr 1 rfl)) ⟨rfl, rfl, trivial⟩ (fun i a hia => gd_two 2 3 rfl nd) (fun b0 i a σ H hia h2 => ?_) fun σ H h2 => ?_)
  · obtain ⟨hi, hx⟩ := Dv.zip_get hia
    have hlt : i < ts.length := by
      rw [← good.len]
      exact (List.getElem?_eq_some_iff.mp hx).1
    have ht : ts[i]? = some ts[i] := List.getElem?_eq_getElem hlt
    refine ss_cons (s_skip h2 (B.eq (b_not (b_val (e_call c_are_arrivals (hr.mono (by decide)) (as_cons (e_ix hu (e_ix hu (vr 0 rfl) (vr 2 rfl) (ix_tupI (a := ts[i]) i (by rw [hi]) ht)) e_int rfl) (as_cons (vr 3 rfl) as_nil)) ⟨_, _, rfl, rfl, good.arr i _ _ ht hx⟩))) rfl) fun σ H h3 => ?_)
    exact ss_nil (h3.wk ⟨rfl, rfl, trivial⟩)
  refine ss_cons (s_skip h2 (B.eq (b_gt (e_sum' [("arrivals", 3)] p eInts (fun a => [(3, eInts a)]) (fun a => ((a.length : Nat) : Int)) g.fr (gg_of (k := 1) (p := ("need_pattern", none)) g rfl rfl rfl hr rfl nd 0 rfl hcode rfl) (gsc_of (by kernel_rfl)) (i_tup (vr 1 rfl)) (fun a ha s H code fp q go => gd_name 3 nd)
    (fun a ha s H code fp q go hroom => E.eq (e_len g.fr (vr 3 rfl)) (by simp)) ) (e_gint rfl m_MOST_JOBS ⟨_, rfl⟩)) ?_) fun σ H h3 => ?_)
  · have := good.jobs
    simp only [decide_eq_false_iff_not]
    omega
  · obtain ⟨W', a⟩ := h3
    exact ss_nil (fin0 hq rfl .non H W' a (by rw [Rep]))
end
end Ev31
/-! ## WE -/
set_option maxHeartbeats 4000000
namespace Ev31
open PySem PySem.Spec PyProof.Rows L2 Gx Dv
section
variable {P : Program} {w : World} {K : PySem.W.Frag} {mg : Str → Option Value} {base h : Heap}
theorem get_ix {α : Type} {l : List α} {k : Nat} (h : k < l.length) : l[k]? = some l[k] := List.getElem?_eq_getElem h
/-! is_locked -/
def R_is_locked (ds : List D) (d : D) : Prop := ∃ t : Task, ds = [eTask t] ∧ d = .bl true ∧ GoodT t
abbrev n_is_locked : List Str := ["value", "some", "section", "k", "j"]
theorem sc_is_locked : FnScope n_is_locked ["value"] (defScope s_is_locked) := ⟨rfl, rfl, rfl, by decide +kernel, rfl, by decide +kernel, by decide +kernel⟩
theorem ok_is_locked (g : Pg w K mg base h) : FnC P w K mg base (TT K) "is_locked" 6 R_is_locked := by
  have c_is_in : FnC P w K mg base (TT K) "is_in" 1 RIsIn := ok_is_in g
  have c_is_section : FnC P w K mg base (TT K) "is_section" 2 R_is_section := ok_is_section g
  have c_fit : FnC P w K mg base (TT K) "fit" 1 RFit := ok_fit g
  obtain ⟨t1, m_MOST_COST⟩ := g.i_MOST_COST
  obtain ⟨t2, m_MOST_TIME⟩ := g.i_MOST_TIME
  obtain ⟨t3, m_MOST_SECTIONS⟩ := g.i_MOST_SECTIONS
  obtain ⟨fd, F⟩ := g.d_is_locked
  refine fnC_of F g.a_is_locked sc_is_locked (fun ds d ⟨x0, e, _⟩ => by rw [e]; rfl) (fun _ _ _ _ _ _ us hl => match us, hl with | [_], _ => rfl) ?_
  intro cdv A outer s H0 Q Ex0 ds d W hcd hr hR hq σ H hat
  have hu := hu_of hr
  have nd := sc_is_locked.nd
  obtain ⟨t, rfl, rfl, good⟩ := hR
  have h0 : At K (TT K) [⟨[], H0, W, none⟩] [.d (eTask t), .un, .un, .un, .un] σ H := hat
  have hcode : cdv = .ref (He.cT K ("is_locked", none)).1 := hcd.symm.trans (code_at F)
  have hfew := good.few
  refine ss_cons (s_skip h0 (B.eq (b_bw (bw_or (b_not (b_val (e_isi (u := "tuple") g.fr (vr 0 rfl) g.fr.tuple rfl rfl))) fun _ => (bw_or (b_ne (e_len g.fr (vr 0 rfl)) e_int) fun _ => (bw_or1 (b_not (b_val (e_call c_is_in (hr.mono (by decide)) (as_cons (e_ix hu (vr 0 rfl) e_int rfl) (as_cons e_int (as_cons (e_gint rfl m_MOST_COST ⟨_, rfl⟩) as_nil))) ⟨_, _, _, rfl, rfl⟩))))))) ?_) fun σ H h1 => ?_)
  · rw [good.cost]
    rfl
  refine ss_cons (s_skip h1 (B.eq (b_bw (bw_or (b_not (b_val (e_call c_is_in (hr.mono (by decide)) (as_cons (e_ix hu (vr 0 rfl) e_int rfl) (as_cons e_int (as_cons (e_gint rfl m_MOST_TIME ⟨_, rfl⟩) as_nil))) ⟨_, _, _, rfl, rfl⟩))) fun _ => (bw_or (b_not (b_val (e_isi (u := "tuple") g.fr (e_ix hu (vr 0 rfl) e_int rfl) g.fr.tuple rfl rfl))) fun _ => (bw_or1 (b_gt (e_len g.fr (e_ix hu (vr 0 rfl) e_int rfl)) (e_gint rfl m_MOST_SECTIONS ⟨_, rfl⟩)))))) ?_) fun σ H h2 => ?_)
  · rw [good.gap]
    simp
    omega
  refine ss_cons (s_asg h2 (ee_sh (e_ix hu (vr 0 rfl) e_int rfl)) (fun σ H h3 => ?_) (i := 1) nd rfl (Or.inr rfl))
  refine ss_cons (s_skip h3 (B.eq (b_not (b_val (e_all' [("section", 2)] t.2.2 eSec (fun a => [(2, eSec a)]) (fun _ => true) g.fr (gg_of (k := 2) (p := ("is_locked", none)) g rfl rfl rfl hr rfl nd 1 rfl hcode rfl) (gsc_of (by kernel_rfl)) (by omega) (i_tup (vr 1 rfl)) (fun a ha s H code fp q go => gd_name 2 nd)
    (fun a ha s H code fp q go hroom => (e_call c_is_section (hroom.mono (by decide)) (as_cons (e_ix (by have := hroom.un; omega) (vr 0 rfl) e_int rfl) (as_cons (vr 2 rfl) as_nil)) ⟨_, _, rfl, rfl, good.sec a ha⟩))))) ?_) fun σ H h4 => ?_)
  · simp
  refine ss_cons (s_skip h4 (B.eq (b_val (e_any' [("k", 3)] (List.range (t.2.2.length - 1)) (fun k => .int (k : Nat)) (fun k => [(3, .int (k : Nat))]) (fun _ => false) g.fr (gg_of (k := 2) (p := ("is_locked", none)) g rfl rfl rfl hr rfl nd 1 rfl hcode rfl) (gsc_of (by kernel_rfl)) (by simp; omega) ?_ (fun a ha s H code fp q go => gd_name 3 nd)
    (fun k ha s H code fp q go hroom => ?_))) ?_) fun σ H h5 => ?_)
  · exact i_rngZ g.fr (e_sub (e_len g.fr (vr 1 rfl)) e_int) (by simp) (by simp; omega)
  · have h1 := List.mem_range.mp ha
    have ea := get_ix (show k < t.2.2.length by omega)
    have eb := get_ix (show k + 1 < t.2.2.length by omega)
    have hx := good.asc k _ _ ea eb
    exact E.eq (e_geT (ns := lS _) (ms := lS _) (by have := hroom.un; omega) (E.eq (e_ix (by have := hroom.un; omega) (vr 1 rfl) (vr 3 rfl) (ix_tup ea)) rfl) (E.eq (e_ix (by have := hroom.un; omega) (vr 1 rfl) (e_add (vr 3 rfl) e_int) (ix_tupI (k + 1) (by omega) eb)) rfl)) (congrArg D.bl hx)
  · simp
  refine ss_cons (s_ret h5 (ee_sh (e_all2' [("k", 3), ("j", 4)] [3] [4] (List.range t.2.2.length) (fun k => .int (k : Nat)) (fun k => [(3, .int (k : Nat))]) (fun k => List.range k) (fun _ j => .int (j : Nat)) (fun _ j => [(4, .int (j : Nat))]) (fun _ _ => true)
    g.fr (gg_of (k := 2) (p := ("is_locked", none)) g rfl rfl rfl hr rfl nd 1 rfl hcode rfl) (gsc_of (by kernel_rfl)) (i_rng g.fr (E.eq (e_len g.fr (vr 1 rfl)) (by simp)) (by omega)) 4 ?_ (fun a ha s H code fp q go => gd_name 3 nd) (fun a ha s H code fp q go hroom => i_rng g.fr (vr 3 rfl) ?_) (fun a ha j hj s H code fp q go => gd_name 4 nd)
    (fun a ha j hj s H code fp q go hroom => ?_))) (fin0 hq ?_))
  · intro a ha
    have := List.mem_range.mp ha
    simp
    omega
  · have := List.mem_range.mp ha
    omega
  · have h1 := List.mem_range.mp ha
    have h2 := List.mem_range.mp hj
    have ea := get_ix h1
    have ej := get_ix (show j < t.2.2.length by omega)
    exact E.eq (e_call c_fit (hroom.mono (by decide)) (as_cons (e_ix (by have := hroom.un; omega) (vr 1 rfl) (vr 4 rfl) (ix_tup ej)) (as_cons (e_ix (by have := hroom.un; omega) (vr 1 rfl) (vr 3 rfl) (ix_tup ea)) as_nil)) ⟨_, _, rfl, rfl⟩) (congrArg D.bl (good.fits j a _ _ h2 ej ea))
  · simp
end
end Ev31
/-! ## DvM -/
set_option maxHeartbeats 4000000
/-! Judgements by data: two names at once. -/
namespace Dv
open PySem PySem.Spec PyProof.Rows L2 Gx
section
variable {X : Cx} {T : TbL} {bs : List Bas} {Γ : List Sl} {W : List Addr} {σ : L2.St} {H H' : Hp} {De : Ends} {a b c : Expr} {x y z : Str} {i j k : Nat} {da db dc : D} {l m : List D} {px py pz pt pos : Pos} {kt k2 : Nat} {pt2 : Pos} {q : Addr}
theorem cons_eval {es : List Expr} {Q : List V → Hp → Prop} (hs : starEach (a :: es) X.env = (false, eval a X.env) :: starEach es X.env) (h : rE X a σ H fun v H1 => rA X es σ H1 fun vs H2 => Q (v :: vs) H2) : rA X (a :: es) σ H Q := of_pa (pa_cons pe_r pa_r hs) h
theorem nil_eval {Q : List V → Hp → Prop} (h : Q [] H) : rA X [] σ H Q := of_pa pa_nil h
/-- the slots' readings, a new object being owned -/
theorem AtW.prN {K : PySem.W.Frag} (h : AtW K T bs Γ W σ H) (hq : Nw H q) (e : Ex T H H') (ho : ∃ o, H' q = some o ∧ Mu o) : Pr K T (q :: W) H' (sh Γ) σ :=
  h.pr.late (Mx.of e) (cons_new hq) fun x hx => by
    rcases List.mem_cons.mp hx with z | z
    · obtain ⟨o, h1, h2⟩ := ho
      exact ⟨o, by rw [z]; exact h1, fun ps w => by rw [w] at h2; exact h2⟩
    · exact (h.al.ex e) x z
theorem s_par {i j : Nat} (h : At X.K T bs Γ σ H) (hc : X.calm = true) (hN : X.N.Nodup) (ha : EE X T Γ a da) (hb : EE X T Γ b db) (k : ∀ σ' H', At X.K T bs ((Γ.set i (.d da)).set j (.d db)) σ' H' → De.nx σ' H')
    (hw : swappedStores [.Tuple [.Name x px, .Name y py] kt pt] (.Tuple [a, b] k2 pt2) X.env = pure (some [x, y])) (hi : X.N[i]? = some x := by rfl) (hj : X.N[j]? = some y := by rfl) (hij : i ≠ j := by decide) (hx : X.env.scope.names.lookup x = some .local := by rfl) (hy : X.env.scope.names.lookup y = some .local := by rfl)
    (hs : swapsWithSole [.Tuple [.Name x px, .Name y py] kt pt] (.Tuple [a, b] k2 pt2) pos.line X.env = pure false := by rfl) (h1 : starEach [a, b] X.env = (false, eval a X.env) :: starEach [b] X.env := by rfl) (h2 : starEach [b] X.env = (false, eval b X.env) :: starEach [] X.env := by rfl) :
    rS X (.Assign [.Tuple [.Name x px, .Name y py] kt pt] (.Tuple [a, b] k2 pt2) pos) De σ H := let ⟨W, w⟩ := h
  of_ps (ps_par hc hN hi hj hij hx hy pa_r hw hs) (cons_eval h1 (w.run ha fun u H1 e1 r1 => cons_eval h2 ((w.ex e1).run hb fun v H2 e2 r2 => nil_eval ⟨u, v, rfl, k _ _ ⟨W, (((w.ex e1).ex e2).put (r1.ex e2)).put r2⟩⟩)))
/-- the first a new list that is owned -/
theorem s_parN {i j : Nat} (h : At X.K T bs Γ σ H) (hc : X.calm = true) (hN : X.N.Nodup) (ha : NN X T Γ a l) (hb : E X T (sh Γ) b db) (k : ∀ σ' H', At X.K T bs ((Γ.set i (.own 0 (.lst l))).set j (.d db)) σ' H' → De.nx σ' H')
    (hw : swappedStores [.Tuple [.Name x px, .Name y py] kt pt] (.Tuple [a, b] k2 pt2) X.env = pure (some [x, y])) (hi : X.N[i]? = some x := by rfl) (hj : X.N[j]? = some y := by rfl) (hij : i ≠ j := by decide) (hx : X.env.scope.names.lookup x = some .local := by rfl) (hy : X.env.scope.names.lookup y = some .local := by rfl)
    (hs : swapsWithSole [.Tuple [.Name x px, .Name y py] kt pt] (.Tuple [a, b] k2 pt2) pos.line X.env = pure false := by rfl) (h1 : starEach [a, b] X.env = (false, eval a X.env) :: starEach [b] X.env := by rfl) (h2 : starEach [b] X.env = (false, eval b X.env) :: starEach [] X.env := by rfl) :
    rS X (.Assign [.Tuple [.Name x px, .Name y py] kt pt] (.Tuple [a, b] k2 pt2) pos) De σ H := let ⟨W, w⟩ := h
  of_ps (ps_par hc hN hi hj hij hx hy pa_r hw hs) (cons_eval h1 (w.runN ha fun q xs H1 n e1 g1 r1 => cons_eval h2 (hb (q :: W) σ H1 (w.prN n e1 ⟨_, g1, trivial⟩) _ fun v H2 e2 r2 => nil_eval ⟨.ref q, v, rfl, k _ _ ⟨q :: W, ((w.putOwn n e1 g1 r1).ex e2).put r2⟩⟩)))
/-- the first a new dict that is owned -/
theorem s_parD {i j : Nat} {dp : Pos} (h : At X.K T bs Γ σ H) (hc : X.calm = true) (hN : X.N.Nodup) (hb : E X T (sh Γ) b db) (k : ∀ σ' H', At X.K T bs ((Γ.set i (.own 0 (mkD [] fun _ => .no))).set j (.d db)) σ' H' → De.nx σ' H')
    (hw : swappedStores [.Tuple [.Name x px, .Name y py] kt pt] (.Tuple [.Dict [] [] dp, b] k2 pt2) X.env = pure (some [x, y])) (hi : X.N[i]? = some x := by rfl) (hj : X.N[j]? = some y := by rfl) (hij : i ≠ j := by decide) (hx : X.env.scope.names.lookup x = some .local := by rfl) (hy : X.env.scope.names.lookup y = some .local := by rfl)
    (hs : swapsWithSole [.Tuple [.Name x px, .Name y py] kt pt] (.Tuple [.Dict [] [] dp, b] k2 pt2) pos.line X.env = pure false := by rfl) (h1 : starEach [.Dict [] [] dp, b] X.env = (false, eval (.Dict [] [] dp) X.env) :: starEach [b] X.env := by rfl) (h2 : starEach [b] X.env = (false, eval b X.env) :: starEach [] X.env := by rfl) :
    rS X (.Assign [.Tuple [.Name x px, .Name y py] kt pt] (.Tuple [.Dict [] [] dp, b] k2 pt2) pos) De σ H := let ⟨W, w⟩ := h
  of_ps (ps_par hc hN hi hj hij hx hy pa_r hw hs) (cons_eval h1 (of_pe pe_dnewK fun q hq => cons_eval h2 (hb (q :: W) σ _ (w.prN (H' := upd H q (.dK [])) (Nw.of hq) (Ex.new hq) ⟨_, upd_same, trivial⟩) _ fun v H2 e2 r2 =>
    nil_eval ⟨.ref q, v, rfl, k _ _ ⟨q :: W, ((w.putOwnD (ks := []) (l := []) (Nw.of hq) (Ex.new hq) upd_same rfl .nil).ex e2).put r2⟩⟩)))
end
end Dv
namespace Dv
open PySem PySem.Spec PyProof.Rows L2 Gx
section
variable {X : Cx} {T : TbL} {Γ : List (Option D)} {a b : Expr} {d : D} {l m : List D} {pos p : Pos}
/-- a list, a tuple as a test -/
theorem b_seq (h : E X T Γ a d) (hs : seqOf d = some l) (he : ∀ whole, isTrue a X.env whole = (do let v ← whole; standAt a.pos; holding [v] (truthy v)) := by intro _; rfl) : B X T Γ a (!l.isEmpty) := fun W σ H P Q k =>
  of_pt (pt_truth pe_r he) (h W σ H P _ fun x H1 e1 r1 => by
    refine ⟨!l.isEmpty, ?_, k H1 e1⟩
    have em : ∀ {xs : List V}, Reps X.K W H1 l xs → xs.isEmpty = l.isEmpty := fun {xs} r => by
      have := r.length
      cases xs <;> cases l <;> simp_all
    cases d <;> first
      | (cases hs; done)
      | (cases hs
         rw [Rep] at r1
         obtain ⟨t, xs, rfl, hq, hr⟩ := r1
         first
           | exact .inr (.inl ⟨xs, hq, by rw [em hr]⟩)
           | exact .inl ⟨xs, hq.sq, by rw [em hr]⟩))
end
end Dv
/-! ## WF -/
set_option maxHeartbeats 4000000
namespace Ev31
open PySem PySem.Spec PyProof.Rows L2 Gx Dv
section
variable {P : Program} {w : World} {K : PySem.W.Frag} {mg : Str → Option Value} {base h : Heap}
/-! need_locked -/
def R_need_locked (ds : List D) (d : D) : Prop := ∃ ts : List Task, ds = [eTasks ts] ∧ d = .no ∧ GoodTs ts
abbrev n_need_locked : List Str := ["tasks", "index", "task"]
theorem sc_need_locked : FnScope n_need_locked ["tasks"] (defScope s_need_locked) := ⟨rfl, rfl, rfl, by decide +kernel, rfl, by decide +kernel, by decide +kernel⟩
theorem ok_need_locked (g : Pg w K mg base h) : FnC P w K mg base (TT K) "need_locked" 7 R_need_locked := by
  have c_is_locked : FnC P w K mg base (TT K) "is_locked" 6 R_is_locked := ok_is_locked g
  obtain ⟨t1, m_MOST_LOCKED⟩ := g.i_MOST_LOCKED
  obtain ⟨fd, F⟩ := g.d_need_locked
  refine fnC_of F g.a_need_locked sc_need_locked (fun ds d ⟨x0, e, _⟩ => by rw [e]; rfl) (fun _ _ _ _ _ _ us hl => match us, hl with | [_], _ => rfl) ?_
  intro cdv A outer s H0 Q Ex0 ds d W hcd hr hR hq σ H hat
  have hu := hu_of hr
  have nd := sc_need_locked.nd
  obtain ⟨ts, rfl, rfl, good⟩ := hR
  have h0 : At K (TT K) [⟨[], H0, W, none⟩] [.d (eTasks ts), .un, .un] σ H := hat
  refine ss_cons (s_skip h0 (B.eq (b_bw (bw_or (b_not (b_val (e_isi (u := "tuple") g.fr (vr 0 rfl) g.fr.tuple rfl rfl))) fun _ => (bw_or1 (b_not (b_chain op_le op_le o_I0b (fun _ => o_I0b) e_int (e_len g.fr (vr 0 rfl)) (fun _ => (e_gint rfl m_MOST_LOCKED ⟨_, rfl⟩))))))) ?_) fun σ H h1 => ?_)
  · have h1 := good.least
    have h2 := good.most
    simp
    omega
  refine ss_cons (s_for (as := ts.zipIdx) (ed := fun q => D.tup [.int (q.2 : Nat), eTask q.1]) (ps := fun q => [(1, .int (q.2 : Nat)), (2, eTask q.1)]) (fun i => [.d (eTasks ts), .un, .un]) rfl h1 (i_enumT' g.fr (vr 0 rfl)) ⟨rfl, trivial⟩ (fun i a hia => gd_two 1 2 rfl nd) (fun b0 i a σ H hia h2 => ?_) fun σ H h2 => ?_)
  · obtain ⟨hi, hx⟩ := Dv.zip_get hia
    refine ss_cons (s_skip h2 (B.eq (b_not (b_val (e_call c_is_locked (hr.mono (by decide)) (as_cons (vr 2 rfl) as_nil) ⟨_, rfl, rfl, good.all _ (List.mem_of_getElem? hx)⟩))) rfl) fun σ H h3 => ?_)
    exact ss_nil (h3.wk ⟨rfl, trivial⟩)
  · obtain ⟨W', a⟩ := h2
    exact ss_nil (fin0 hq rfl .non H W' a (by rw [Rep]))
/-! need_protocol -/

def R_need_protocol (ds : List D) (d : D) : Prop := ∃ (ts : List Task) (p : List (List Int)) (pr : Str), ds = [eTasks ts, ePat p, .str pr] ∧ d = .no ∧ GoodTs ts ∧ GoodPat ts p ∧ pr ∈ prots
abbrev n_need_protocol : List Str := ["tasks", "pattern", "protocol"]
theorem sc_need_protocol : FnScope n_need_protocol ["tasks", "pattern", "protocol"] (defScope s_need_protocol) := ⟨rfl, rfl, rfl, by decide +kernel, rfl, by decide +kernel, by decide +kernel⟩
theorem ok_need_protocol (g : Pg w K mg base h) : FnC P w K mg base (TT K) "need_protocol" 8 R_need_protocol := by
  have c_need_locked : FnC P w K mg base (TT K) "need_locked" 7 R_need_locked := ok_need_locked g
  have c_need_pattern : FnC P w K mg base (TT K) "need_pattern" 5 R_need_pattern := ok_need_pattern g
  have c_plain_tasks : FnC P w K mg base (TT K) "plain_tasks" 1 R_plain_tasks := ok_plain_tasks g
  obtain ⟨fd, F⟩ := g.d_need_protocol
  refine fnC_of F g.a_need_protocol sc_need_protocol (fun ds d ⟨x0, x1, x2, e, _⟩ => by rw [e]; rfl) (fun _ _ _ _ _ _ us hl => match us, hl with | [_, _, _], _ => rfl) ?_
  intro cdv A outer s H0 Q Ex0 ds d W hcd hr hR hq σ H hat
  have hu := hu_of hr
  have nd := sc_need_protocol.nd
  obtain ⟨ts, p, pr, rfl, rfl, gt, gp, hpr⟩ := hR
  have h0 : At K (TT K) [⟨[], H0, W, none⟩] [.d (eTasks ts), .d (ePat p), .d (.str pr)] σ H := hat
  refine ss_cons (s_drop h0 (ee_sh (e_call c_need_locked (hr.mono (by decide)) (as_cons (vr 0 rfl) as_nil) ⟨_, rfl, rfl, gt⟩)) fun σ H h1 => ?_)
  refine ss_cons (s_drop h1 (ee_sh (e_call c_need_pattern (hr.mono (by decide)) (as_cons (e_call c_plain_tasks (hr.mono (by decide)) (as_cons (vr 0 rfl) as_nil) ⟨_, rfl, rfl, by have := gt.most; omega⟩) (as_cons (vr 1 rfl) as_nil)) ⟨_, _, rfl, rfl, gp⟩)) fun σ H h2 => ?_)
  refine ss_cons (s_skip h2 (B.eq (b_bw (bw_or (b_not (b_val (e_isi (u := "str") g.fr (vr 2 rfl) g.fr.str rfl rfl))) fun _ => (bw_or1 (b_nin (vr 2 rfl) (e_gstr (ss := prots) rfl g.a_PROTOCOLS g.prot) rfl rfl (xs := prots.map V.str) rfl rfl rfl)))) ?_) fun σ H h3 => ?_)
  · have : inV (.str pr) (prots.map V.str) = true := by
      unfold inV
      rw [List.any_eq_true]
      exact ⟨.str pr, List.mem_map.mpr ⟨pr, hpr, rfl⟩, by simp [eqV]⟩
    rw [this]
    rfl
  · obtain ⟨W', a⟩ := h3
    exact ss_nil (fin0 hq rfl .non H W' a (by rw [Rep]))
end
end Ev31
/-! ## M1 -/
set_option maxHeartbeats 4000000
/-! ceilings, worst sections: plain. -/
namespace Ev31
open PySem L2 Dv
theorem ceil_ix {ts : List Task} {l : Int} (h : 0 ≤ l ∧ l ≤ 3) : ixF (.lst ((ceilings ts).map eOpt)) (.int l) = some (eOpt (top_ ts l)) := by
  have : l = 0 ∨ l = 1 ∨ l = 2 ∨ l = 3 := by omega
  rcases this with rfl | rfl | rfl | rfl <;> rfl
theorem top_head (l : Int) : ∀ (ts : List Task) (k : Nat), topFrom l k ts = (((ts.zipIdx k).filter fun q => hasLock q.1 l).map (·.2)).head?
  | [], _ => rfl
  | t :: ts, k => by
    unfold topFrom
    rw [List.zipIdx_cons]
    by_cases h : hasLock t l = true
    · rw [if_pos h, List.filter_cons_of_pos (by simpa using h)]
      rfl
    · rw [if_neg h, List.filter_cons_of_neg (by simpa using h)]
      exact top_head l ts (k + 1)
theorem topFrom_some {l : Int} : ∀ {ts : List Task} {k i : Nat} {t : Task}, ts[i]? = some t → hasLock t l = true → ∃ j, topFrom l k ts = some j ∧ j ≤ k + i
  | [], _, _, _, h, _ => by simp at h
  | u :: ts, k, i, t, h, hl => by
    unfold topFrom
    by_cases hu : hasLock u l = true
    · exact ⟨k, by rw [if_pos hu], Nat.le_add_right _ _⟩
    · rw [if_neg hu]
      cases i with
      | zero =>
        cases h
        exact (hu hl).elim
      | succ i =>
        obtain ⟨j, h1, h2⟩ := topFrom_some (k := k + 1) (by simpa using h) hl
        exact ⟨j, h1, by omega⟩
theorem has_mem {t : Task} {s : Sec} (h : s ∈ t.2.2) : hasLock t s.2.2 = true := by
  unfold hasLock
  rw [List.any_eq_true]
  exact ⟨s, h, by simp⟩
/-- the lock's ceiling is at most k -/
def topLe (ts : List Task) (l : Int) (k : Nat) : Bool := match top_ ts l with
  | some j => decide (j ≤ k)
  | none => false
abbrev Best := Option (Int × Nat × Sec)
def eBest : Best → D
  | none => .no
  | some b => .tup [.int b.1, .int b.2.1, eSec b.2.2]
def better (b : Best) (s : Sec) : Bool := match b with
  | none => true
  | some b => decide (b.1 < s.2.1)
def wstep (ts : List Task) (task k : Nat) (b : Best) (s : Sec) : Best := if topLe ts s.2.2 task && better b s then some (s.2.1, k, s) else b
def wrow (ts : List Task) (task : Nat) (b : Best) (k : Nat) : Best := (secs ts k).foldl (wstep ts task k) b
def worst (ts : List Task) (task : Nat) : Best := (List.range' (task + 1) (ts.length - (task + 1))).foldl (wrow ts task) none
def wblock (ts : List Task) (task : Nat) : Int := match worst ts task with
  | none => 0
  | some b => b.1 - 1
theorem foldl_snoc {α β : Type} {f : β → α → β} {b : β} {l : List α} {i : Nat} {a : α} (h : l[i]? = some a) : (l.take (i + 1)).foldl f b = f ((l.take i).foldl f b) a := by
  rw [List.take_add_one, h]
  simp
end Ev31
/-! ## WG -/
set_option maxHeartbeats 4000000
namespace Ev31
open PySem PySem.Spec PyProof.Rows L2 Gx Dv
section
variable {P : Program} {w : World} {K : PySem.W.Frag} {mg : Str → Option Value} {base h : Heap}
/-! ceilings_of -/
theorem first_ix {F : List (Task × Nat)} {k : Nat} (h : (F.map (·.2)).head? = some k) : ixF (.lst (F.map fun q => D.int (q.2 : Nat))) (.int 0) = some (.int k) := by
  cases F with
  | nil => cases h
  | cons q F =>
    simp only [List.map_cons, List.head?_cons, Option.some.injEq] at h
    rw [← h]
    exact ix_lst (as := q :: F) (e := fun q : Task × Nat => D.int (q.2 : Nat)) (k := 0) rfl
def R_ceilings_of (ds : List D) (d : D) : Prop := ∃ ts : List Task, ds = [eTasks ts] ∧ d = .lst ((ceilings ts).map eOpt) ∧ ts.length ≤ 1000 ∧ ∀ t ∈ ts, t.2.2.length ≤ 1000
abbrev n_ceilings_of : List Str := ["tasks", "found", "lock", "some", "k", "task", "section"]
theorem sc_ceilings_of : FnScope n_ceilings_of ["tasks"] (defScope s_ceilings_of) := ⟨rfl, rfl, rfl, by decide +kernel, rfl, by decide +kernel, by decide +kernel⟩
theorem ok_ceilings_of (g : Pg w K mg base h) : FnC P w K mg base (TT K) "ceilings_of" 6 R_ceilings_of := by
  obtain ⟨t1, m_LOCKS⟩ := g.i_LOCKS
  obtain ⟨fd, F⟩ := g.d_ceilings_of
  refine fnC_of F g.a_ceilings_of sc_ceilings_of (fun ds d ⟨x0, e, _⟩ => by rw [e]; rfl) (fun _ _ _ _ _ _ us hl => match us, hl with | [_], _ => rfl) ?_
  intro cdv A outer s H0 Q Ex0 ds d W hcd hr hR hq σ H hat
  have hu := hu_of hr
  have nd := sc_ceilings_of.nd
  obtain ⟨ts, rfl, rfl, hz, hz2⟩ := hR
  have hcode : cdv = .ref (He.cT K ("ceilings_of", none)).1 := hcd.symm.trans (code_at F)
  have h0 : At K (TT K) [⟨[], H0, W, none⟩] [.d (eTasks ts), .un, .un, .un, .un, .un, .un] σ H := hat
  refine ss_cons (s_new h0 (nn_sh (n_lst as_nil)) (fun σ H h1 => ?_) (i := 1) nd rfl (Or.inl rfl))
  refine ss_cons (s_for (as := List.range 4) (ed := fun k => .int (k : Nat)) (ps := fun a => [(2, .int (a : Nat))]) (fun i => [.d (eTasks ts), .own 1 (.lst (((ceilings ts).take i).map eOpt)), .un, .un, .un, .un, .un]) rfl h1 (i_rngZ g.fr (e_gint rfl m_LOCKS ⟨_, rfl⟩) rfl (by omega)) ⟨rfl, rfl, trivial⟩ (fun i a hia => gd_name 2 nd) (fun b0 i a σ H hia h2 => ?_) fun σ H h2 => ?_)
  · have hi : a = i ∧ i < 4 := by
      obtain ⟨h1, h2⟩ := List.getElem?_eq_some_iff.mp hia
      simp at h1 h2
      exact ⟨h2.symm, h1⟩
    obtain ⟨rfl, hi⟩ := hi
    refine ss_cons (s_lc (i := 3) [("k", 4), ("task", 5)] ts.zipIdx (fun q => D.tup [.int (q.2 : Nat), eTask q.1]) (fun q => [(4, .int (q.2 : Nat)), (5, eTask q.1)]) (fun q => hasLock q.1 (a : Nat)) (fun q => .int (q.2 : Nat)) h2 rfl nd (blk_of (by kernel_rfl)) (by simp; omega) (i_enumT' g.fr (vr 0 rfl)) (fun a ha s H C cl fp => gd_two 4 5 rfl nd)
      (fun q ha s H C cl fp => bs_one (b_val (e_any' [("section", 6)] q.1.2.2 eSec (fun a => [(6, eSec a)]) (fun s => decide (V.int s.2.2 = V.int (a : Nat))) g.fr (gg_of (k := 1) (p := ("ceilings_of", none)) g rfl rfl rfl (hr.mono (by decide)) rfl nd 2 rfl hcode rfl) (gsc_of (by kernel_rfl)) (by have := hz2 q.1 (List.mem_of_getElem? (zip_mem ha)); omega) (i_tup (e_ix hu (vr 5 rfl) e_int rfl)) (fun a ha s H code fp q go => gd_name 6 nd)
        (fun s ha s H code fp q go hroom => (e_eq (e_ix (by have := hroom.un; omega) (vr 6 rfl) e_int rfl) (vr 2 rfl))))))
      (fun a ha hb s H C cl fp => (vr 4 rfl)) (fun σ H h3 => ?_) rfl)
    refine ss_cons (s_app h3 (i := 1) rfl (ee_sh (d := eOpt (top_ ts (a : Nat))) (e_ifx (b_seq (vr 3 rfl) rfl) (fun hb => ?_) fun hb => E.eq e_no ?_)) ?_ (fun σ H h4 => ?_) rfl (Or.inl rfl))
    · have e := top_head (a : Nat) ts 0
      cases q : top_ ts (a : Nat) with
      | none =>
        rw [show topFrom (a : Nat) 0 ts = none from q] at e
        have e2 := List.head?_eq_none_iff.mp e.symm
        rw [List.map_eq_nil_iff] at e2
        rw [e2] at hb
        cases hb
      | some k =>
        rw [show topFrom (a : Nat) 0 ts = some k from q] at e
        exact e_ix hu (vr 3 rfl) e_int (first_ix e.symm)
    · have e := top_head (a : Nat) ts 0
      cases q : top_ ts (a : Nat) with
      | none => rfl
      | some k =>
        rw [show topFrom (a : Nat) 0 ts = some k from q] at e
        cases hF : ts.zipIdx.filter (fun q => hasLock q.1 (a : Nat)) with
        | nil =>
          rw [hF] at e
          cases e
        | cons x F =>
          rw [hF] at hb
          cases hb
    · simp [ceilings]
      omega
    · refine ss_nil (h4.wk ⟨rfl, ?_, trivial⟩)
      have : a = 0 ∨ a = 1 ∨ a = 2 ∨ a = 3 := by omega
      rcases this with rfl | rfl | rfl | rfl <;> rfl
  · have h3 := h2.frz (i := 1) rfl
    refine ss_cons (s_ret h3 (ee_sh (vr 1 rfl)) (fin0 hq ?_))
    rfl
end
end Ev31
/-! ## WH -/
set_option maxHeartbeats 4000000
namespace Ev31
open PySem PySem.Spec PyProof.Rows L2 Gx Dv
section
variable {P : Program} {w : World} {K : PySem.W.Frag} {mg : Str → Option Value} {base h : Heap}
/-! worst_section -/
def R_worst_section (ds : List D) (d : D) : Prop := ∃ (ts : List Task) (task : Nat), ds = [eTasks ts, .int task] ∧ d = eBest (worst ts task) ∧ GoodTs ts ∧ task < ts.length
abbrev n_worst_section : List Str := ["tasks", "task", "tops", "best", "k", "section"]
theorem sc_worst_section : FnScope n_worst_section ["tasks", "task"] (defScope s_worst_section) := ⟨rfl, rfl, rfl, by decide +kernel, rfl, by decide +kernel, by decide +kernel⟩
theorem ok_worst_section (g : Pg w K mg base h) : FnC P w K mg base (TT K) "worst_section" 7 R_worst_section := by
  have c_ceilings_of : FnC P w K mg base (TT K) "ceilings_of" 6 R_ceilings_of := ok_ceilings_of g
  obtain ⟨fd, F⟩ := g.d_worst_section
  refine fnC_of F g.a_worst_section sc_worst_section (fun ds d ⟨x0, x1, e, _⟩ => by rw [e]; rfl) (fun _ _ _ _ _ _ us hl => match us, hl with | [_, _], _ => rfl) ?_
  intro cdv A outer s H0 Q Ex0 ds d W hcd hr hR hq σ H hat
  have hu := hu_of hr
  have nd := sc_worst_section.nd
  obtain ⟨ts, task, rfl, rfl, good, htask⟩ := hR
  have h0 : At K (TT K) [⟨[], H0, W, none⟩] [.d (eTasks ts), .d (.int task), .un, .un, .un, .un] σ H := hat
  have hlen := good.most
  refine ss_cons (s_par (i := 2) (j := 3) h0 rfl nd (ee_sh (e_call c_ceilings_of (hr.mono (by decide)) (as_cons (vr 0 rfl) as_nil) ⟨_, rfl, rfl, by omega, fun t ht => by have := (good.all t ht).few; omega⟩)) (ee_sh e_no) (fun σ H h1 => ?_) rfl)
  refine ss_cons (s_for (as := List.range' (task + 1) (ts.length - (task + 1))) (ed := fun k => .int (k : Nat)) (ps := fun k => [(4, .int (k : Nat))]) (fun i => [.d (eTasks ts), .d (.int task), .d (.lst ((ceilings ts).map eOpt)), .d (eBest (((List.range' (task + 1) (ts.length - (task + 1))).take i).foldl (wrow ts task) none)), .un, .un]) rfl h1
    (i_rngR (lo := task + 1) (hi := ts.length) g.fr (E.eq (e_add (vr 1 rfl) e_int) rfl) (E.eq (e_len g.fr (vr 0 rfl)) (by simp)) (by omega)) ⟨rfl, rfl, rfl, rfl, trivial⟩ (fun i a hia => gd_name 4 nd) (fun b0 i k σ H hia h2 => ?_) fun σ H h2 => ?_)
  · have hk : k < ts.length := by
      have := List.mem_range'.mp (List.mem_of_getElem? hia)
      omega
    have ek := get_ix hk
    have hsec : secs ts k = ts[k].2.2 := by
      unfold secs
      rw [List.getD_eq_getElem?_getD, ek]
      rfl
    have gk := good.all ts[k] (List.getElem_mem hk)
    refine ss_cons (s_for (as := ts[k].2.2) (ed := eSec) (ps := fun a => [(5, eSec a)]) (fun j => [.d (eTasks ts), .d (.int task), .d (.lst ((ceilings ts).map eOpt)), .d (eBest ((ts[k].2.2.take j).foldl (wstep ts task k) (((List.range' (task + 1) (ts.length - (task + 1))).take i).foldl (wrow ts task) none))), .d (.int (k : Nat)), .un]) rfl h2
      (i_tup (e_ix hu (e_ix hu (vr 0 rfl) (vr 4 rfl) (ix_tup ek)) e_int rfl)) ⟨rfl, rfl, rfl, rfl, rfl, trivial⟩ (fun i a hia => gd_name 5 nd) (fun b1 j sec σ H hja h3 => ?_) fun σ H h3 => ?_)
    · have hmem := List.mem_of_getElem? hja
      have hs := gk.sec sec hmem
      have hl : 0 ≤ sec.2.2 ∧ sec.2.2 ≤ 3 := by
        simp [isSec, isIn] at hs
        omega
      obtain ⟨tp, htp, _⟩ := topFrom_some (k := 0) ek (has_mem hmem)
      have htop : top_ ts sec.2.2 = some tp := htp
      rw [foldl_snoc hja]
      generalize (ts[k].2.2.take j).foldl (wstep ts task k) (((List.range' (task + 1) (ts.length - (task + 1))).take i).foldl (wrow ts task) none) = best at h3 ⊢
      refine ss_cons (s_if h3 (b := topLe ts sec.2.2 task && better best sec) (b_bw (bw_and (b_le (E.eq (e_ix hu (vr 2 rfl) (e_ix hu (vr 5 rfl) e_int rfl) (ceil_ix hl)) (by rw [htop]; rfl)) (vr 1 rfl) |>.eq (by unfold topLe; rw [htop]; simp)) fun _ => (bw_and1 ?_))) (fun hb σ H h4 => ?_) fun hb σ H h4 => ?_)
      · cases best with
        | none => exact B.eq (b_bw (bw_or (q := false) (b_is (vr 3 rfl) e_no) fun hx => (nomatch hx))) rfl
        | some b => exact B.eq (b_bw (bw_or (b_is (vr 3 rfl) e_no) fun _ => (bw_or1 (b_gt (e_ix hu (vr 5 rfl) e_int rfl) (e_ix hu (vr 3 rfl) e_int rfl))))) (by simp [isNo, eBest, better])
      · refine ss_cons (s_asg h4 (ee_sh (e_tup (as_cons (e_ix hu (vr 5 rfl) e_int rfl) (as_cons (vr 4 rfl) (as_cons (vr 5 rfl) as_nil))))) (fun σ H h5 => ?_) (i := 3) nd rfl (Or.inl rfl))
        refine ss_nil (ss_nil (h5.wk ⟨rfl, rfl, rfl, ?_, rfl, trivial⟩))
        unfold wstep
        rw [if_pos hb]
        rfl
      · refine ss_nil (ss_nil (h4.wk ⟨rfl, rfl, rfl, ?_, rfl, trivial⟩))
        unfold wstep
        rw [if_neg (by rw [hb]; exact Bool.false_ne_true)]
    · refine ss_nil (h3.wk ⟨rfl, rfl, rfl, ?_, trivial⟩)
      rw [foldl_snoc hia, List.take_length]
      show Sl.d (eBest (wrow ts task _ k)) = _
      unfold wrow
      rw [hsec]
      rfl
  · refine ss_cons (s_ret h2 (ee_sh (vr 3 rfl)) (fin0 hq ?_))
    rw [List.take_length]
    rfl
def R_worst_blocking (ds : List D) (d : D) : Prop := ∃ (ts : List Task) (task : Nat), ds = [eTasks ts, .int task] ∧ d = .int (wblock ts task) ∧ GoodTs ts ∧ task < ts.length
abbrev n_worst_blocking : List Str := ["tasks", "task", "best"]
theorem sc_worst_blocking : FnScope n_worst_blocking ["tasks", "task"] (defScope s_worst_blocking) := ⟨rfl, rfl, rfl, by decide +kernel, rfl, by decide +kernel, by decide +kernel⟩
theorem ok_worst_blocking (g : Pg w K mg base h) : FnC P w K mg base (TT K) "worst_blocking" 8 R_worst_blocking := by
  have c_need_locked : FnC P w K mg base (TT K) "need_locked" 7 R_need_locked := ok_need_locked g
  have c_need_task : FnC P w K mg base (TT K) "need_task" 2 R_need_task := ok_need_task g
  have c_worst_section : FnC P w K mg base (TT K) "worst_section" 7 R_worst_section := ok_worst_section g
  obtain ⟨fd, F⟩ := g.d_worst_blocking
  refine fnC_of F g.a_worst_blocking sc_worst_blocking (fun ds d ⟨x0, x1, e, _⟩ => by rw [e]; rfl) (fun _ _ _ _ _ _ us hl => match us, hl with | [_, _], _ => rfl) ?_
  intro cdv A outer s H0 Q Ex0 ds d W hcd hr hR hq σ H hat
  have hu := hu_of hr
  have nd := sc_worst_blocking.nd
  obtain ⟨ts, task, rfl, rfl, good, htask⟩ := hR
  have h0 : At K (TT K) [⟨[], H0, W, none⟩] [.d (eTasks ts), .d (.int task), .un] σ H := hat
  refine ss_cons (s_drop h0 (ee_sh (e_call c_need_locked (hr.mono (by decide)) (as_cons (vr 0 rfl) as_nil) ⟨_, rfl, rfl, good⟩)) fun σ H h1 => ?_)
  refine ss_cons (s_drop h1 (ee_sh (e_call c_need_task (hr.mono (by decide)) (as_cons (vr 0 rfl) (as_cons (vr 1 rfl) as_nil)) ⟨_, _, rfl, rfl, htask⟩)) fun σ H h2 => ?_)
  refine ss_cons (s_asg h2 (ee_sh (e_call c_worst_section (hr.mono (by decide)) (as_cons (vr 0 rfl) (as_cons (vr 1 rfl) as_nil)) ⟨_, _, rfl, rfl, good, htask⟩)) (fun σ H h3 => ?_) (i := 2) nd rfl (Or.inl rfl))
  refine ss_cons (s_ret h3 (ee_sh (d := .int (wblock ts task)) (e_ifx (b_is (vr 2 rfl) e_no) (fun hb => ?_) fun hb => ?_)) (fin0 hq rfl))
  all_goals unfold wblock
  all_goals cases hw : worst ts task with
    | none => first | exact e_int | (rw [hw] at hb; cases hb)
    | some b => first | (rw [hw] at hb; cases hb; done) | exact E.eq (e_sub (e_ix hu (vr 2 rfl) e_int rfl) e_int) rfl
end
end Ev31
/-! ## M2 -/
set_option maxHeartbeats 4000000
/-! The machine's state, plain. -/
namespace Ev31
open PySem L2 Dv
structure Lk where
  ts : List Task
  pat : List (List Int)
  pr : Str
  done : List Nat
  units : List Nat
def flds : List Str := ["tasks", "pattern", "protocol", "tops", "done", "units"]
def eLk (C : Addr) (S : Lk) : D := .obj C flds [eTasks S.ts, ePat S.pat, .str S.pr, .lst ((ceilings S.ts).map eOpt), .lst (S.done.map eNat), .lst (S.units.map eNat)]
structure Lk.Ok (S : Lk) : Prop where
  good : GoodTs S.ts
  pat : GoodPat S.ts S.pat
  prot : S.pr ∈ prots
  done : S.done.length = S.ts.length
  units : S.units.length = S.ts.length
def uAt (us : List Nat) (k : Nat) : Nat := us.getD k 0
def heldOf (ss : List Sec) (u : Nat) : List Int := (ss.filter fun s => decide (s.1 < (u : Int)) && decide ((u : Int) < s.1 + s.2.1)).map (·.2.2)
def wantOf (ss : List Sec) (u : Nat) : List Int := (ss.filter fun s => decide (V.int s.1 = V.int (u : Nat))).map (·.2.2)
def held (ts : List Task) (us : List Nat) (k : Nat) : List Int := heldOf (secs ts k) (uAt us k)
def wanted (ts : List Task) (us : List Nat) (k : Nat) : List Int := wantOf (secs ts k) (uAt us k)
/-- job number j of a with these arrivals is there at now -/
def rdyA (a : List Int) (j : Nat) (now : Nat) : Bool := decide (j < a.length) && decide (a.getD j 0 ≤ (now : Int))
def rdy (pat : List (List Int)) (done : List Nat) (now : Nat) (k : Nat) : Bool := rdyA (pat.getD k []) (uAt done k) now
def ready (pat : List (List Int)) (done : List Nat) (now : Nat) : List Nat := (List.range pat.length).filter (rdy pat done now)
def over (pat : List (List Int)) (done : List Nat) : Bool := pat.zipIdx.all fun q => decide (V.int (uAt done q.2 : Nat) = V.int (q.1.length : Nat))
def later (pat : List (List Int)) (now : Nat) : Bool := pat.any fun a => a.any fun x => decide ((now : Int) < x)
/-- whom task k waits for -/
def topHit (ts : List Task) (us : List Nat) (k j : Nat) : Bool := (held ts us j).any fun l => topLe ts l k
def wantHit (ts : List Task) (us : List Nat) (k j : Nat) : Bool := (held ts us j).any fun l => (wanted ts us k).contains l
def waits (pr : Str) (ts : List Task) (us : List Nat) (some : List Nat) (k : Nat) : List Nat :=
  if pr = "stack" then (if 0 < uAt us k then [] else some.filter fun j => decide (j ≠ k) && topHit ts us k j)
  else if (wanted ts us k).isEmpty then [] else if pr = "ceiling" then some.filter fun j => decide (j ≠ k) && topHit ts us k j
  else some.filter fun j => decide (j ≠ k) && wantHit ts us k j
theorem secs_get {ts : List Task} {k : Nat} (h : k < ts.length) : secs ts k = ts[k].2.2 := by
  unfold secs
  rw [List.getD_eq_getElem?_getD, List.getElem?_eq_getElem h]
  rfl
theorem uAt_get {us : List Nat} {k : Nat} (h : k < us.length) : us[k]? = some (uAt us k) := by
  unfold uAt
  rw [List.getD_eq_getElem?_getD, List.getElem?_eq_getElem h]
  rfl
end Ev31
/-! ## WI -/
set_option maxHeartbeats 4000000
namespace Ev31
open PySem PySem.Spec PyProof.Rows L2 Gx Dv
section
variable {P : Program} {w : World} {K : PySem.W.Frag} {mg : Str → Option Value} {base h : Heap}
theorem getD_ix {α : Type} {l : List α} {k : Nat} {d : α} (h : k < l.length) : l[k]? = some (l.getD k d) := by
  rw [List.getD_eq_getElem?_getD, List.getElem?_eq_getElem h]
  rfl
/-! held, wanted -/
def R_held (C : Addr) (ds : List D) (d : D) : Prop := ∃ (S : Lk) (k : Nat), ds = [eLk C S, .int k] ∧ d = .lst ((held S.ts S.units k).map .int) ∧ S.Ok ∧ k < S.ts.length
abbrev n_Locked_held : List Str := ["self", "task", "start", "length", "lock"]
theorem sc_Locked_held : FnScope n_Locked_held ["self", "task"] (defScope m_held) := ⟨rfl, rfl, rfl, by decide +kernel, rfl, by decide +kernel, by decide +kernel⟩
theorem ok_held (g : Pg w K mg base h) : MtC P w K mg base (TT K) (LkA K) "held" 1 (R_held (LkA K)) := by
  obtain ⟨fd, F⟩ := g.d_held
  refine mtC_of F g.cls g.a_held sc_Locked_held (fun ds d ⟨x0, x1, e, _⟩ => by rw [e]; rfl) (fun _ _ _ _ _ _ us hl => match us, hl with | [_, _], _ => rfl) ?_
  intro cdv A outer s H0 Q Ex0 ds d W hcd hr hR hq σ H hat
  have hu := hu_of hr
  have nd := sc_Locked_held.nd
  obtain ⟨S, k, rfl, rfl, ok, hk⟩ := hR
  have h0 : At K (TT K) [⟨[], H0, W, none⟩] [.d (eLk (LkA K) S), .d (.int k), .un, .un, .un] σ H := hat
  have ek := get_ix hk
  have eu := uAt_get (us := S.units) (k := k) (by rw [ok.units]; exact hk)
  have hf := (ok.good.all _ (List.getElem_mem hk)).few
  refine ss_cons (s_ret h0 (ee_sh (n_e (n_lc' [("start", 2), ("length", 3), ("lock", 4)] S.ts[k].2.2 eSec (fun a => [(2, .int a.1), (3, .int a.2.1), (4, .int a.2.2)]) (fun s => decide (s.1 < (uAt S.units k : Int)) && decide ((uAt S.units k : Int) < s.1 + s.2.1)) (fun s => .int s.2.2) rfl nd (blk_of (by kernel_rfl)) (by omega) (i_tup (e_ix hu (e_ix hu (e_fld g.cls g.n_tasks (vr 0 rfl) rfl) (vr 1 rfl) (ix_tup ek)) e_int rfl))
    (fun a ha s H C cl fp => gd_three 2 3 4 rfl nd) (fun a ha s H C cl fp => bs_one (b_chain op_lt op_lt o_I0b (fun _ => o_I0b) (vr 2 rfl) (e_ix hu (e_fld g.cls g.n_units (vr 0 rfl) rfl) (vr 1 rfl) (ix_lst eu)) (fun _ => (e_add (vr 2 rfl) (vr 3 rfl))))) (fun a ha hb s H C cl fp => (vr 4 rfl))))) (fin0 hq ?_))
  unfold held heldOf
  rw [secs_get hk, List.map_map]
  rfl
def R_wanted (C : Addr) (ds : List D) (d : D) : Prop := ∃ (S : Lk) (k : Nat), ds = [eLk C S, .int k] ∧ d = .lst ((wanted S.ts S.units k).map .int) ∧ S.Ok ∧ k < S.ts.length
abbrev n_Locked_wanted : List Str := ["self", "task", "start", "length", "lock"]
theorem sc_Locked_wanted : FnScope n_Locked_wanted ["self", "task"] (defScope m_wanted) := ⟨rfl, rfl, rfl, by decide +kernel, rfl, by decide +kernel, by decide +kernel⟩
theorem ok_wanted (g : Pg w K mg base h) : MtC P w K mg base (TT K) (LkA K) "wanted" 1 (R_wanted (LkA K)) := by
  obtain ⟨fd, F⟩ := g.d_wanted
  refine mtC_of F g.cls g.a_wanted sc_Locked_wanted (fun ds d ⟨x0, x1, e, _⟩ => by rw [e]; rfl) (fun _ _ _ _ _ _ us hl => match us, hl with | [_, _], _ => rfl) ?_
  intro cdv A outer s H0 Q Ex0 ds d W hcd hr hR hq σ H hat
  have hu := hu_of hr
  have nd := sc_Locked_wanted.nd
  obtain ⟨S, k, rfl, rfl, ok, hk⟩ := hR
  have h0 : At K (TT K) [⟨[], H0, W, none⟩] [.d (eLk (LkA K) S), .d (.int k), .un, .un, .un] σ H := hat
  have ek := get_ix hk
  have eu := uAt_get (us := S.units) (k := k) (by rw [ok.units]; exact hk)
  have hf := (ok.good.all _ (List.getElem_mem hk)).few
  refine ss_cons (s_ret h0 (ee_sh (n_e (n_lc' [("start", 2), ("length", 3), ("lock", 4)] S.ts[k].2.2 eSec (fun a => [(2, .int a.1), (3, .int a.2.1), (4, .int a.2.2)]) (fun s => decide (V.int s.1 = V.int (uAt S.units k : Nat))) (fun s => .int s.2.2) rfl nd (blk_of (by kernel_rfl)) (by omega) (i_tup (e_ix hu (e_ix hu (e_fld g.cls g.n_tasks (vr 0 rfl) rfl) (vr 1 rfl) (ix_tup ek)) e_int rfl))
    (fun a ha s H C cl fp => gd_three 2 3 4 rfl nd) (fun a ha s H C cl fp => bs_one (b_eq (vr 2 rfl) (e_ix hu (e_fld g.cls g.n_units (vr 0 rfl) rfl) (vr 1 rfl) (ix_lst eu)))) (fun a ha hb s H C cl fp => (vr 4 rfl))))) (fin0 hq ?_))
  unfold wanted wantOf
  rw [secs_get hk, List.map_map]
  rfl
/-! ready -/
def R_ready (C : Addr) (ds : List D) (d : D) : Prop := ∃ (S : Lk) (now : Nat), ds = [eLk C S, .int now] ∧ d = .lst ((ready S.pat S.done now).map eNat) ∧ S.Ok
abbrev n_Locked_ready : List Str := ["self", "now", "found", "k", "arrivals"]
theorem sc_Locked_ready : FnScope n_Locked_ready ["self", "now"] (defScope m_ready) := ⟨rfl, rfl, rfl, by decide +kernel, rfl, by decide +kernel, by decide +kernel⟩
theorem range_take {n i : Nat} (h : i ≤ n) : (List.range n).take i = List.range i := by
  rw [List.take_range, Nat.min_eq_left h]
theorem ok_ready (g : Pg w K mg base h) : MtC P w K mg base (TT K) (LkA K) "ready" 1 (R_ready (LkA K)) := by
  obtain ⟨fd, F⟩ := g.d_ready
  refine mtC_of F g.cls g.a_ready sc_Locked_ready (fun ds d ⟨x0, x1, e, _⟩ => by rw [e]; rfl) (fun _ _ _ _ _ _ us hl => match us, hl with | [_, _], _ => rfl) ?_
  intro cdv A outer s H0 Q Ex0 ds d W hcd hr hR hq σ H hat
  have hu := hu_of hr
  have nd := sc_Locked_ready.nd
  obtain ⟨S, now, rfl, rfl, ok⟩ := hR
  have h0 : At K (TT K) [⟨[], H0, W, none⟩] [.d (eLk (LkA K) S), .d (.int now), .un, .un, .un] σ H := hat
  have hlen := ok.good.most
  have hpl := ok.pat.len
  refine ss_cons (s_new h0 (nn_sh (n_lst as_nil)) (fun σ H h1 => ?_) (i := 2) nd rfl (Or.inl rfl))
  refine ss_cons (s_for (as := S.pat.zipIdx) (ed := fun q => D.tup [.int (q.2 : Nat), eInts q.1]) (ps := fun q => [(3, .int (q.2 : Nat)), (4, eInts q.1)]) (fun i => [.d (eLk (LkA K) S), .d (.int now), .own 1 (.lst (((List.range i).filter (rdy S.pat S.done now)).map eNat)), .un, .un]) rfl h1 (i_enumT' g.fr (e_fld g.cls g.n_pattern (vr 0 rfl) rfl)) ⟨rfl, rfl, rfl, trivial⟩ (fun i a hia => gd_two 3 4 rfl nd) (fun b0 i q σ H hia h2 => ?_) fun σ H h2 => ?_)
  · obtain ⟨hi, hx⟩ := Dv.zip_get hia
    have hil : i < S.pat.length := (List.getElem?_eq_some_iff.mp hx).1
    have ed := uAt_get (us := S.done) (k := q.2) (by rw [ok.done, hi]; omega)
    have hp : S.pat.getD i [] = q.1 := by
      rw [List.getD_eq_getElem?_getD, hx]
      rfl
    have hr2 : rdy S.pat S.done now i = rdyA q.1 (uAt S.done q.2) now := by
      unfold rdy
      rw [hp, hi]
    refine ss_cons (s_if h2 (b := rdyA q.1 (uAt S.done q.2) now) (B.eq (b_bw (bw_and (b_lt (e_ix hu (e_fld g.cls g.n_done (vr 0 rfl) rfl) (vr 3 rfl) (ix_lst ed)) (e_len g.fr (vr 4 rfl))) fun hb => (bw_and1 (b_le (e_ix hu (vr 4 rfl) (e_ix hu (e_fld g.cls g.n_done (vr 0 rfl) rfl) (vr 3 rfl) (ix_lst ed)) (ix_tup (getD_ix (d := 0) ?_))) (vr 1 rfl))))) ?_) (fun hb σ H h3 => ?_) fun hb σ H h3 => ?_)
    · have hb := of_decide_eq_true hb
      simp at hb
      omega
    · simp [rdyA]
    · refine ss_cons (s_app h3 (i := 2) rfl (ee_sh (vr 3 rfl)) (by
        have := List.length_filter_le (rdy S.pat S.done now) (List.range i)
        simp at this ⊢
        omega) (fun σ H h4 => ?_) rfl (Or.inl rfl))
      refine ss_nil (ss_nil (h4.wk ⟨rfl, rfl, ?_, trivial⟩))
      rw [List.range_succ, List.filter_append, List.filter_cons_of_pos (by rw [hr2]; exact hb), List.map_append, hi]
      rfl
    · refine ss_nil (ss_nil (h3.wk ⟨rfl, rfl, ?_, trivial⟩))
      rw [List.range_succ, List.filter_append, List.filter_cons_of_neg (by rw [hr2, hb]; exact Bool.false_ne_true), List.filter_nil, List.append_nil]
  · have h3 := h2.frz (i := 2) rfl
    refine ss_cons (s_ret h3 (ee_sh (vr 2 rfl)) (fin0 hq ?_))
    rw [List.length_zipIdx]
    rfl
/-! is_over, has_later -/
def R_is_over (C : Addr) (ds : List D) (d : D) : Prop := ∃ S : Lk, ds = [eLk C S] ∧ d = .bl (over S.pat S.done) ∧ S.Ok
abbrev n_Locked_is_over : List Str := ["self", "k", "arrivals"]
theorem sc_Locked_is_over : FnScope n_Locked_is_over ["self"] (defScope m_is_over) := ⟨rfl, rfl, rfl, by decide +kernel, rfl, by decide +kernel, by decide +kernel⟩
theorem ok_is_over (g : Pg w K mg base h) : MtC P w K mg base (TT K) (LkA K) "is_over" 5 (R_is_over (LkA K)) := by
  obtain ⟨fd, F⟩ := g.d_is_over
  refine mtC_of F g.cls g.a_is_over sc_Locked_is_over (fun ds d ⟨x0, e, _⟩ => by rw [e]; rfl) (fun _ _ _ _ _ _ us hl => match us, hl with | [_], _ => rfl) ?_
  intro cdv A outer s H0 Q Ex0 ds d W hcd hr hR hq σ H hat
  have hu := hu_of hr
  have nd := sc_Locked_is_over.nd
  obtain ⟨S, rfl, rfl, ok⟩ := hR
  have hcode : cdv = .ref (He.cT K ("Locked", some "is_over")).1 := hcd.symm.trans (code_at F)
  have h0 : At K (TT K) [⟨[], H0, W, none⟩] [.d (eLk (LkA K) S), .un, .un] σ H := hat
  have hlen := ok.good.most
  have hpl := ok.pat.len
  refine ss_cons (s_ret h0 (ee_sh (e_all' [("k", 1), ("arrivals", 2)] S.pat.zipIdx (fun q => D.tup [.int (q.2 : Nat), eInts q.1]) (fun q => [(1, .int (q.2 : Nat)), (2, eInts q.1)]) (fun q => decide (V.int (uAt S.done q.2 : Nat) = V.int (q.1.length : Nat))) g.fr (gg_of (k := 1) (p := ("Locked", some "is_over")) g rfl rfl rfl hr rfl nd 3 rfl hcode rfl) (gsc_of (by kernel_rfl)) (by simp; omega)
    (i_enumT' g.fr (e_fld g.cls g.n_pattern (vr 0 rfl) rfl)) (fun a ha s H code fp q go => gd_two 1 2 rfl nd) (fun q ha s H code fp q' go hroom => ?_))) (fin0 hq rfl))
  have hx := zip_mem ha
  have hl := (List.getElem?_eq_some_iff.mp hx).1
  have ed := uAt_get (us := S.done) (k := q.2) (by rw [ok.done]; omega)
  exact E.eq (e_eq (e_ix (by have := hroom.un; omega) (e_fld g.cls g.n_done (vr 0 rfl) rfl) (vr 1 rfl) (ix_lst ed)) (e_len g.fr (vr 2 rfl))) (by simp)
def R_has_later (C : Addr) (ds : List D) (d : D) : Prop := ∃ (S : Lk) (now : Nat), ds = [eLk C S, .int now] ∧ d = .bl (later S.pat now) ∧ S.pat.length ≤ 1000 ∧ ∀ a ∈ S.pat, a.length ≤ 1000
abbrev n_Locked_has_later : List Str := ["self", "now", "arrivals", "arrival"]
theorem sc_Locked_has_later : FnScope n_Locked_has_later ["self", "now"] (defScope m_has_later) := ⟨rfl, rfl, rfl, by decide +kernel, rfl, by decide +kernel, by decide +kernel⟩
theorem ok_has_later (g : Pg w K mg base h) : MtC P w K mg base (TT K) (LkA K) "has_later" 5 (R_has_later (LkA K)) := by
  obtain ⟨fd, F⟩ := g.d_has_later
  refine mtC_of F g.cls g.a_has_later sc_Locked_has_later (fun ds d ⟨x0, x1, e, _⟩ => by rw [e]; rfl) (fun _ _ _ _ _ _ us hl => match us, hl with | [_, _], _ => rfl) ?_
  intro cdv A outer s H0 Q Ex0 ds d W hcd hr hR hq σ H hat
  have hu := hu_of hr
  have nd := sc_Locked_has_later.nd
  obtain ⟨S, now, rfl, rfl, hz, hz2⟩ := hR
  have hcode : cdv = .ref (He.cT K ("Locked", some "has_later")).1 := hcd.symm.trans (code_at F)
  have h0 : At K (TT K) [⟨[], H0, W, none⟩] [.d (eLk (LkA K) S), .d (.int now), .un, .un] σ H := hat
  refine ss_cons (s_ret h0 (ee_sh (e_any2' [("arrivals", 2), ("arrival", 3)] [2] [3] S.pat eInts (fun a => [(2, eInts a)]) (fun a => a) (fun _ x => .int x) (fun _ x => [(3, .int x)]) (fun _ x => decide ((now : Int) < x)) g.fr (gg_of (k := 1) (p := ("Locked", some "has_later")) g rfl rfl rfl hr rfl nd 4 rfl hcode rfl) (gsc_of (by kernel_rfl))
    (i_tup (e_fld g.cls g.n_pattern (vr 0 rfl) rfl)) 1000 hz2 (fun a ha s H code fp q go => gd_name 2 nd) (fun a ha s H code fp q go hroom => i_tup (vr 2 rfl)) (fun a ha x hx s H code fp q go => gd_name 3 nd) (fun a ha x hx s H code fp q go hroom => (e_gt (vr 3 rfl) (vr 1 rfl))))) (fin0 hq rfl))
end
end Ev31
/-! ## DvN -/
set_option maxHeartbeats 4000000
/-! Judgements by data: dict of a list of pairs, get, min by a key, a stored field. -/
namespace Dv
open PySem PySem.Spec PyProof.Rows L2 Gx
/-- a new dict -/
def ND (X : Cx) (T : TbL) (Γ : List (Option D)) (e : Expr) (ks : List Int) (f : Int → D) : Prop := ∀ W σ H, Pr X.K T W H Γ σ → ∀ Q : VK, (∀ p kvs H2, Nw H p → Ex T H H2 → H2 p = some (.dK kvs) → kvs.map (·.1) = ks.map Sum.inl → Reps X.K (p :: W) H2 (ks.map f) (kvs.map (·.2)) → Q (.ref p) H2) → rE X e σ H Q
theorem merge_nodup : ∀ (kvs acc : List (Key × V)), ((acc ++ kvs).map (·.1)).Nodup → mergeK acc kvs = acc ++ kvs
  | [], acc, _ => by simp [mergeK]
  | kv :: kvs, acc, h => by
    have h1 : valV acc kv.1 = none := by
      cases q : valV acc kv.1 with
      | none => rfl
      | some v =>
        have : (acc.any fun p => decide (p.1 = kv.1)) = true := by rw [valV_any, q]; rfl
        obtain ⟨p, hp, he⟩ := List.any_eq_true.mp this
        have he : p.1 = kv.1 := by simpa using he
        rw [List.map_append, List.map_cons] at h
        have := (List.nodup_append.mp h).2.2 p.1 (List.mem_map.mpr ⟨p, hp, rfl⟩) kv.1 (by simp)
        exact (this he).elim
    show mergeK (putK acc kv.1 kv.2) kvs = _
    rw [putK_new _ h1, merge_nodup kvs (acc ++ [(kv.1, kv.2)]) (by simpa using h)]
    simp
section
variable {X : Cx} {T : TbL} {Γ : List (Option D)} {a b c o : Expr} {d da db : D} {l m : List D} {pos p apos : Pos} {ks : List Int} {f : Int → D} {i j : Int}
theorem e_nd (h : ND X T Γ a ks f) : E X T Γ a (mkD ks f) := fun W σ H P Q q => h W σ H P Q fun p kvs H2 hp e h2 hk r => q _ H2 e ⟨p, kvs, rfl, P.al.nin hp, h2, hk, r.less fun x z => List.mem_cons_of_mem _ z⟩
theorem pairs_of {K : PySem.W.Frag} {W : List Addr} {H : Hp} : ∀ {ks : List Int} {xs : List V}, Reps K W H (ks.map fun k => D.tup [.int k, f k]) xs → ∃ (ps : List Addr) (kvs : List (Key × V)), xs = ps.map V.ref ∧ Paired (fun p kv => SqT K H p [kV kv.1, kv.2]) ps kvs ∧ kvs.map (·.1) = ks.map Sum.inl ∧ Reps K W H (ks.map f) (kvs.map (·.2))
  | [], _, r => ⟨[], [], r.nil_inv, .nil, rfl, .nil⟩
  | k :: ks, _, r => by
    obtain ⟨x, rr, ex, hx, ht⟩ := (show Reps K W H (D.tup [.int k, f k] :: _) _ from r).cons_inv
    obtain ⟨ps, kvs, e1, e2, e3, e4⟩ := pairs_of ht
    rw [Rep] at hx
    obtain ⟨q, ys, rfl, hq, hr⟩ := hx
    obtain ⟨u, v, rfl, hu, hv⟩ := hr.two_inv
    rw [Rep] at hu
    subst hu
    refine ⟨q :: ps, (.inl k, v) :: kvs, by rw [ex, e1]; rfl, .cons hq e2, by simp [e3], .cons hv e4⟩
/-- dict([(k, v), ..]) -/
theorem n_dict (fr : Fr X.mg) (hc : X.calm = true) (hn : ks.Nodup) (ha : E X T Γ a (.lst (ks.map fun k => D.tup [.int k, f k]))) (hg : Gl X "dict" := by rfl) (h1 : starEach [a] X.env = (false, eval a X.env) :: starEach [] X.env := by rfl) (hpl : (backTo pos (starEach [] X.env)).any (·.1) = false := by rfl) (hv : bootBuiltins "dict" = some (.type "dict") := by decide +kernel) :
    ND X T Γ (.Call (.Name "dict" p) [a] [] pos) ks f := fun W σ H P Q q =>
  of_pe (pe_callTy (call_dictP hc) hg fr.dict hv (pa_cons pe_r pa_nil h1) (by decide) (by decide) h1 hpl) (ha W σ H P _ fun v H1 e1 r1 => by
    rw [Rep] at r1
    obtain ⟨t, xs, rfl, hq, hr⟩ := r1
    obtain ⟨ps, kvs, e2, e3, e4, e5⟩ := pairs_of hr
    subst e2
    refine ⟨t, ps, kvs, rfl, hq.sq, e3, fun r hr => ?_⟩
    have hm : mergeK [] kvs = kvs := by
      rw [merge_nodup kvs [] (by
        rw [List.nil_append, e4]
        exact List.Pairwise.map _ (fun _ _ q z => q (Sum.inl.inj z)) hn)]
      rfl
    refine q r kvs _ ((Nw.of hr).back e1) (e1.trans (Ex.new hr)) (by rw [hm]; exact upd_same) e4 (e5.go (T := T) (Mx.of (Ex.new hr)) fun x z => ?_)
    rcases List.mem_cons.mp z with z | z
    · exact .inr (z ▸ Nw.of hr)
    · exact .inl z)
end
section
variable {X : Cx} {T : TbL} {De : Ends} {bs : List Bas} {Γ : List Sl} {σ : L2.St} {H : Hp} {e : Expr} {ks : List Int} {f : Int → D} {i : Nat} {x : Str} {pos p : Pos}
/-- x = dict(..), owned -/
theorem s_newD (h : At X.K T bs Γ σ H) (he : ND X T (sh Γ) e ks f) (k : ∀ σ' H', At X.K T bs (Γ.set i (.own 0 (mkD ks f))) σ' H' → De.nx σ' H') (hN : X.N.Nodup) (hi : X.N[i]? = some x) (hx : Loc X.env.scope x) (hs : swapsWith e (some (.Name x p)) pos.line X.env = pure false := by rfl) (hf : X.fn x = true ∨ X.env.scope.names.lookup x = some .local := by first | exact .inl rfl | exact .inr rfl) :
    rS X (.Assign [.Name x p] e pos) De σ H := let ⟨W, a⟩ := h
  of_ps (ps_set hN hi hx pe_r hs hf) (he W σ H a.pr _ fun p kvs H2 n e2 h2 hk r2 => k _ _ ⟨p :: W, a.putOwnD n e2 h2 hk r2⟩)
end
end Dv
/-! ## WJ -/
set_option maxHeartbeats 4000000
namespace Ev31
open PySem PySem.Spec PyProof.Rows L2 Gx Dv
section
variable {P : Program} {w : World} {K : PySem.W.Frag} {mg : Str → Option Value} {base h : Heap}
/-! waits -/
theorem held_ok {S : Lk} (ok : S.Ok) {k : Nat} (hk : k < S.ts.length) {l : Int} (hl : l ∈ held S.ts S.units k) : (0 ≤ l ∧ l ≤ 3) ∧ ∃ j, top_ S.ts l = some j ∧ j ≤ k := by
  unfold held heldOf at hl
  obtain ⟨s, hs, rfl⟩ := List.mem_map.mp hl
  have hm := (List.mem_filter.mp hs).1
  rw [secs_get hk] at hm
  have h1 := (ok.good.all _ (List.getElem_mem hk)).sec s hm
  obtain ⟨j, h2, h3⟩ := topFrom_some (k := 0) (get_ix hk) (has_mem hm)
  refine ⟨?_, j, h2, by omega⟩
  simp [isSec, isIn] at h1
  omega
theorem held_few {S : Lk} (ok : S.Ok) {k : Nat} (hk : k < S.ts.length) : (held S.ts S.units k).length ≤ 4 := by
  unfold held heldOf
  rw [List.length_map, secs_get hk]
  exact Nat.le_trans (List.length_filter_le _ _) (ok.good.all _ (List.getElem_mem hk)).few
theorem inV_ints (l : Int) (xs : List Int) : inV (.int l) (xs.map V.int) = xs.contains l := by
  unfold inV
  rw [List.any_map, List.contains_eq_any_beq]
  congr 1
  funext x
  show (x == l) = (l == x)
  by_cases e : x = l
  · rw [e]
  · rw [beq_eq_false_iff_ne.mpr e, beq_eq_false_iff_ne.mpr (Ne.symm e)]
theorem atom_ints (xs : List Int) : (xs.map D.int).map atom = (xs.map V.int).map some := by
  rw [List.map_map, List.map_map]
  rfl
theorem flat_ints (xs : List Int) : (xs.map V.int).all flatV = true := by
  rw [List.all_map, List.all_eq_true]
  intro x _
  rfl
theorem ne_nat (j k : Nat) : (!decide (V.int (j : Nat) = V.int (k : Nat))) = decide (j ≠ k) := by
  by_cases e : j = k
  · subst e
    simp
  · have : ¬ V.int (j : Nat) = V.int (k : Nat) := fun z => e (by
      injection z with z
      exact Int.ofNat.inj z)
    simp [this, e]
def R_waits (C : Addr) (ds : List D) (d : D) : Prop := ∃ (S : Lk) (k : Nat) (some : List Nat), ds = [eLk C S, .int k, .lst (some.map eNat)] ∧ d = .lst ((waits S.pr S.ts S.units some k).map eNat) ∧ S.Ok ∧ k < S.ts.length ∧ (∀ j ∈ some, j < S.ts.length) ∧ some.length ≤ 1000
abbrev n_Locked_waits : List Str := ["self", "task", "some", "k", "lock", "want"]
theorem sc_Locked_waits : FnScope n_Locked_waits ["self", "task", "some"] (defScope m_waits) := ⟨rfl, rfl, rfl, by decide +kernel, rfl, by decide +kernel, by decide +kernel⟩
theorem ok_waits (g : Pg w K mg base h) : MtC P w K mg base (TT K) (LkA K) "waits" 5 (R_waits (LkA K)) := by
  have c_held : MtC P w K mg base (TT K) (LkA K) "held" 1 (R_held (LkA K)) := ok_held g
  have c_wanted : MtC P w K mg base (TT K) (LkA K) "wanted" 1 (R_wanted (LkA K)) := ok_wanted g
  obtain ⟨fd, F⟩ := g.d_waits
  refine mtC_of F g.cls g.a_waits sc_Locked_waits (fun ds d ⟨x0, x1, x2, e, _⟩ => by rw [e]; rfl) (fun _ _ _ _ _ _ us hl => match us, hl with | [_, _, _], _ => rfl) ?_
  intro cdv A outer s H0 Q Ex0 ds d W hcd hr hR hq σ H hat
  have hu := hu_of hr
  have nd := sc_Locked_waits.nd
  obtain ⟨S, k, some, rfl, rfl, ok, hk, hsome, hz⟩ := hR
  have hcode : cdv = .ref (He.cT K ("Locked", Option.some "waits")).1 := hcd.symm.trans (code_at F)
  have h0 : At K (TT K) [⟨[], H0, W, none⟩] [.d (eLk (LkA K) S), .d (.int k), .d (.lst (some.map eNat)), .un, .un, .un] σ H := hat
  have eu := uAt_get (us := S.units) (k := k) (by rw [ok.units]; exact hk)
  refine ss_cons (s_if h0 (b := decide (S.pr = "stack")) (B.eq (b_eq (e_fld g.cls g.n_protocol (vr 0 rfl) rfl) e_str) (by simp)) (fun hb σ H h1 => ?_) fun hb σ H h1 => ?_)
  · have hb := of_decide_eq_true hb
    refine ss_cons (s_if h1 (b_gt (e_ix hu (e_fld g.cls g.n_units (vr 0 rfl) rfl) (vr 1 rfl) (ix_lst eu)) e_int) (fun hb2 σ H h2 => ?_) fun hb2 σ H h2 => ?_)
    · refine ss_cons (s_ret h2 (ee_sh (n_e (n_lst as_nil))) (fin0 hq ?_))
      have h3 : 0 < uAt S.units k := by
        have := of_decide_eq_true hb2
        omega
      unfold waits
      rw [if_pos hb, if_pos h3]
      rfl
    · have h3 : ¬ 0 < uAt S.units k := by
        have := of_decide_eq_false hb2
        omega
      refine ss_nil ?_
      refine ss_cons (s_ret h2 (ee_sh (n_e (n_lc' [("k", 3)] some eNat (fun a => [(3, eNat a)]) (fun j => decide (j ≠ k) && topHit S.ts S.units k j) eNat rfl nd (blk_of (by kernel_rfl)) (by omega) (i_lst (vr 2 rfl)) (fun a ha s H C cl fp => gd_name 3 nd)
        (fun j ha s H C cl fp => bs_one (B.eq (b_bw (bw_and (b_ne (vr 3 rfl) (vr 1 rfl)) fun _ => (bw_and1 (b_val (e_any' [("lock", 4)] (held S.ts S.units j) D.int (fun l => [(4, .int l)]) (fun l => topLe S.ts l k) g.fr (gg_of (k := 1) (p := ("Locked", Option.some "waits")) g rfl rfl rfl hr rfl nd 5 rfl hcode rfl) (gsc_of (by kernel_rfl)) (by have := held_few ok (hsome j ha); omega)
          (i_lst (e_meth c_held (hr.mono (by decide)) (vr 0 rfl) (as_cons (vr 3 rfl) as_nil) ⟨S, j, rfl, rfl, ok, hsome j ha⟩)) (fun a ha s H code fp q go => gd_name 4 nd) (fun l hl s H code fp q go hroom => ?_)))))) ?_)) (fun a ha hb s H C cl fp => (vr 3 rfl))))) (fin0 hq ?_))
      · obtain ⟨hr1, t, ht, _⟩ := held_ok ok (hsome j ha) hl
        exact E.eq (e_le (E.eq (e_ix (by have := hroom.un; omega) (e_fld g.cls g.n_tops (vr 0 rfl) rfl) (vr 4 rfl) (ceil_ix hr1)) (by rw [ht]; rfl)) (vr 1 rfl)) (by unfold topLe; rw [ht]; simp)
      · rw [ne_nat]
        rfl
      · unfold waits
        rw [if_pos hb, if_neg h3]
  · have hb := of_decide_eq_false hb
    refine ss_nil ?_
    refine ss_cons (s_asg h1 (ee_sh (e_meth c_wanted (hr.mono (by decide)) (vr 0 rfl) (as_cons (vr 1 rfl) as_nil) ⟨S, k, rfl, rfl, ok, hk⟩)) (fun σ H h2 => ?_) (i := 5) nd rfl (Or.inr rfl))
    refine ss_cons (s_if h2 (b := (wanted S.ts S.units k).isEmpty) (B.eq (b_not (b_seq (vr 5 rfl) rfl)) (by simp)) (fun hw σ H h3 => ?_) fun hw σ H h3 => ?_)
    · refine ss_cons (s_ret h3 (ee_sh (n_e (n_lst as_nil))) (fin0 hq ?_))
      unfold waits
      rw [if_neg hb, if_pos hw]
      rfl
    have hw' : ¬ (wanted S.ts S.units k).isEmpty = true := by rw [hw]; exact Bool.false_ne_true
    refine ss_nil ?_
    refine ss_cons (s_if h3 (b := decide (S.pr = "ceiling")) (B.eq (b_eq (e_fld g.cls g.n_protocol (vr 0 rfl) rfl) e_str) (by simp)) (fun hc σ H h4 => ?_) fun hc σ H h4 => ?_)
    · refine ss_cons (s_ret h4 (ee_sh (n_e (n_lc' [("k", 3)] some eNat (fun a => [(3, eNat a)]) (fun j => decide (j ≠ k) && topHit S.ts S.units k j) eNat rfl nd (blk_of (by kernel_rfl)) (by omega) (i_lst (vr 2 rfl)) (fun a ha s H C cl fp => gd_name 3 nd)
        (fun j ha s H C cl fp => bs_one (B.eq (b_bw (bw_and (b_ne (vr 3 rfl) (vr 1 rfl)) fun _ => (bw_and1 (b_val (e_any' [("lock", 4)] (held S.ts S.units j) D.int (fun l => [(4, .int l)]) (fun l => topLe S.ts l k) g.fr (gg_of (k := 1) (p := ("Locked", Option.some "waits")) g rfl rfl rfl hr rfl nd 5 rfl hcode rfl) (gsc_of (by kernel_rfl)) (by have := held_few ok (hsome j ha); omega)
          (i_lst (e_meth c_held (hr.mono (by decide)) (vr 0 rfl) (as_cons (vr 3 rfl) as_nil) ⟨S, j, rfl, rfl, ok, hsome j ha⟩)) (fun a ha s H code fp q go => gd_name 4 nd) (fun l hl s H code fp q go hroom => ?_)))))) ?_)) (fun a ha hb s H C cl fp => (vr 3 rfl))))) (fin0 hq ?_))
      · obtain ⟨hr1, t, ht, _⟩ := held_ok ok (hsome j ha) hl
        exact E.eq (e_le (E.eq (e_ix (by have := hroom.un; omega) (e_fld g.cls g.n_tops (vr 0 rfl) rfl) (vr 4 rfl) (ceil_ix hr1)) (by rw [ht]; rfl)) (vr 1 rfl)) (by unfold topLe; rw [ht]; simp)
      · rw [ne_nat]
        rfl
      · unfold waits
        rw [if_neg hb, if_neg hw', if_pos (of_decide_eq_true hc)]
    · refine ss_nil ?_
      refine ss_cons (s_ret h4 (ee_sh (n_e (n_lc' [("k", 3)] some eNat (fun a => [(3, eNat a)]) (fun j => decide (j ≠ k) && wantHit S.ts S.units k j) eNat rfl nd (blk_of (by kernel_rfl)) (by omega) (i_lst (vr 2 rfl)) (fun a ha s H C cl fp => gd_name 3 nd)
        (fun j ha s H C cl fp => bs_one (B.eq (b_bw (bw_and (b_ne (vr 3 rfl) (vr 1 rfl)) fun _ => (bw_and1 (b_val (e_any' [("lock", 4)] (held S.ts S.units j) D.int (fun l => [(4, .int l)]) (fun l => (wanted S.ts S.units k).contains l) g.fr (gg_of (k := 1) (p := ("Locked", Option.some "waits")) g rfl rfl rfl hr rfl nd 5 rfl hcode rfl) (gsc_of (by kernel_rfl)) (by have := held_few ok (hsome j ha); omega)
          (i_lst (e_meth c_held (hr.mono (by decide)) (vr 0 rfl) (as_cons (vr 3 rfl) as_nil) ⟨S, j, rfl, rfl, ok, hsome j ha⟩)) (fun a ha s H code fp q go => gd_name 4 nd) (fun l hl s H code fp q go hroom => ?_)))))) ?_)) (fun a ha hb s H C cl fp => (vr 3 rfl))))) (fin0 hq ?_))
      · exact E.eq (e_in (vr 4 rfl) (vr 5 rfl) rfl rfl (atom_ints _) rfl (flat_ints _)) (congrArg D.bl (inV_ints _ _))
      · rw [ne_nat]
        rfl
      · unfold waits
        rw [if_neg hb, if_neg hw', if_neg (of_decide_eq_false hc)]
end
end Ev31
/-! ## M3 -/
set_option maxHeartbeats 4000000
/-! Current priorities, plain. -/
namespace Ev31
open PySem L2 Dv
def updN (c : Nat → Nat) (j v : Nat) : Nat → Nat := fun i => if i = j then v else c i
def minTop (ts : List Task) (us : List Nat) (k : Nat) : Nat := (held ts us k).foldl (fun m l => min m ((top_ ts l).getD k)) k
def lowStep (ts : List Task) (us : List Nat) (c : Nat → Nat) (k : Nat) : Nat → Nat := updN c k (minTop ts us k)
def inh0 (k : Nat) (c : Nat → Nat) (o : Nat) : Nat → Nat := updN c o (min (c o) (c k))
def inh1 (ws : Nat → List Nat) (c : Nat → Nat) (k : Nat) : Nat → Nat := (ws k).foldl (inh0 k) c
def inhT (some : List Nat) (ws : Nat → List Nat) (c : Nat → Nat) (_ : Nat) : Nat → Nat := some.foldl (inh1 ws) c
def cur1 (pr : Str) (ts : List Task) (us : List Nat) (some : List Nat) : Nat → Nat := if pr = "stack" then some.foldl (lowStep ts us) (fun k => k) else fun k => k
def inhP (pr : Str) : Bool := inV (.str pr) [.str "inherit", .str "ceiling"]
def currents (pr : Str) (ts : List Task) (us : List Nat) (some : List Nat) (ws : Nat → List Nat) : Nat → Nat :=
  if inhP pr then some.foldl (inhT some ws) (cur1 pr ts us some) else cur1 pr ts us some
/-! as data -/
def ki (some : List Nat) : List Int := some.map fun (k : Nat) => (k : Int)
def fD (c : Nat → Nat) : Int → D := fun i => .int (c i.toNat : Nat)
def wD (ws : Nat → List Nat) : Int → D := fun i => .lst ((ws i.toNat).map eNat)
theorem mem_ki {some : List Nat} {k : Nat} : (k : Int) ∈ ki some ↔ k ∈ some := by
  unfold ki
  rw [List.mem_map]
  exact ⟨fun ⟨a, h1, h2⟩ => (Int.ofNat.inj h2) ▸ h1, fun h => ⟨k, h, rfl⟩⟩
theorem mkD_congr {ks : List Int} {f g : Int → D} (h : ∀ k ∈ ks, f k = g k) : mkD ks f = mkD ks g := by
  unfold mkD
  rw [List.map_congr_left h]
theorem put_fD {some : List Nat} {c : Nat → Nat} {j v : Nat} (h : j ∈ some) : mkD (insK (ki some) (j : Int)) (updF (fD c) (j : Int) (.int (v : Nat))) = mkD (ki some) (fD (updN c j v)) := by
  unfold insK
  rw [if_pos (mem_ki.mpr h)]
  refine mkD_congr fun k hk => ?_
  obtain ⟨i, _, rfl⟩ := List.mem_map.mp hk
  unfold updF fD updN
  by_cases e : i = j
  · subst e
    simp
  · have : ¬ (i : Int) = j := fun z => e (Int.ofNat.inj z)
    simp [this, e]
theorem ix_fD {some : List Nat} {c : Nat → Nat} {j : Nat} (h : j ∈ some) : ixF (mkD (ki some) (fD c)) (.int (j : Nat)) = Option.some (.int (c j : Nat)) := ix_dct (mem_ki.mpr h)
theorem ix_wD {some : List Nat} {ws : Nat → List Nat} {j : Nat} (h : j ∈ some) : ixF (mkD (ki some) (wD ws)) (.int (j : Nat)) = Option.some (.lst ((ws j).map eNat)) := ix_dct (mem_ki.mpr h)
theorem foldl_min_le {f : Int → Nat} : ∀ (ls : List Int) (m : Nat), ls.foldl (fun m l => min m (f l)) m ≤ m ∧ (∀ l ∈ ls, ls.foldl (fun m l => min m (f l)) m ≤ f l) ∧ (ls.foldl (fun m l => min m (f l)) m = m ∨ ∃ l ∈ ls, ls.foldl (fun m l => min m (f l)) m = f l)
  | [], m => ⟨Nat.le_refl _, fun l h => absurd h (by simp), .inl rfl⟩
  | l :: ls, m => by
    obtain ⟨h1, h2, h3⟩ := foldl_min_le (f := f) ls (min m (f l))
    simp only [List.foldl_cons]
    refine ⟨by omega, fun x hx => ?_, ?_⟩
    · rcases List.mem_cons.mp hx with rfl | hx
      · omega
      · exact h2 x hx
    · rcases h3 with h3 | ⟨x, hx, h3⟩
      · rcases Nat.le_total m (f l) with q | q
        · exact .inl (by omega)
        · exact .inr ⟨l, List.mem_cons_self, by omega⟩
      · exact .inr ⟨x, List.mem_cons_of_mem _ hx, h3⟩
end Ev31
/-! ## WK -/
set_option maxHeartbeats 4000000
namespace Ev31
open PySem PySem.Spec PyProof.Rows L2 Gx Dv
section
variable {P : Program} {w : World} {K : PySem.W.Frag} {mg : Str → Option Value} {base h : Heap}
/-! currents -/
def R_currents (C : Addr) (ds : List D) (d : D) : Prop := ∃ (S : Lk) (some : List Nat) (ws : Nat → List Nat), ds = [eLk C S, .lst (some.map eNat), mkD (ki some) (wD ws)] ∧ d = mkD (ki some) (fD (currents S.pr S.ts S.units some ws)) ∧
  S.Ok ∧ (∀ j ∈ some, j < S.ts.length) ∧ some.length ≤ 1000 ∧ some.Nodup ∧ (∀ k ∈ some, ∀ j ∈ ws k, j ∈ some)
abbrev n_Locked_currents : List Str := ["self", "some", "waits", "found", "k", "lock", "turn", "other"]
theorem sc_Locked_currents : FnScope n_Locked_currents ["self", "some", "waits"] (defScope m_currents) := ⟨rfl, rfl, rfl, by decide +kernel, rfl, by decide +kernel, by decide +kernel⟩
theorem ki_nodup {some : List Nat} (h : some.Nodup) : (ki some).Nodup := List.Pairwise.map _ (fun _ _ q z => q (Int.ofNat.inj z)) h
theorem minTop_is {S : Lk} (ok : S.Ok) {k : Nat} (hk : k < S.ts.length) : IsMin ((k : Int) :: (held S.ts S.units k).map fun l => (((top_ S.ts l).getD k : Nat) : Int)) (minTop S.ts S.units k : Nat) := by
  obtain ⟨h1, h2, h3⟩ := foldl_min_le (f := fun l => (top_ S.ts l).getD k) (held S.ts S.units k) k
  refine ⟨?_, fun y hy => ?_⟩
  · rcases h3 with h3 | ⟨l, hl, h3⟩
    · unfold minTop
      rw [h3]
      exact List.mem_cons_self
    · unfold minTop
      rw [h3]
      exact List.mem_cons_of_mem _ (List.mem_map.mpr ⟨l, hl, rfl⟩)
  · rcases List.mem_cons.mp hy with rfl | hy
    · unfold minTop
      exact Int.ofNat_le.mpr h1
    · obtain ⟨l, hl, rfl⟩ := List.mem_map.mp hy
      exact Int.ofNat_le.mpr (h2 l hl)
theorem ok_currents (g : Pg w K mg base h) : MtC P w K mg base (TT K) (LkA K) "currents" 2 (R_currents (LkA K)) := by
  have c_held : MtC P w K mg base (TT K) (LkA K) "held" 1 (R_held (LkA K)) := ok_held g
  obtain ⟨fd, F⟩ := g.d_currents
  refine mtC_of F g.cls g.a_currents sc_Locked_currents (fun ds d ⟨x0, x1, x2, e, _⟩ => by rw [e]; rfl) (fun _ _ _ _ _ _ us hl => match us, hl with | [_, _, _], _ => rfl) ?_
  intro cdv A outer s H0 Q Ex0 ds d W hcd hr hR hq σ H hat
  have hu := hu_of hr
  have nd := sc_Locked_currents.nd
  obtain ⟨S, some, ws, rfl, rfl, ok, hsome, hz, hnd, hws⟩ := hR
  have h0 : At K (TT K) [⟨[], H0, W, none⟩] [.d (eLk (LkA K) S), .d (.lst (some.map eNat)), .d (mkD (ki some) (wD ws)), .un, .un, .un, .un, .un] σ H := hat
  refine ss_cons (s_newD h0 (ks := ki some) (f := fD fun k => k) (n_dict g.fr rfl (ki_nodup hnd) (E.eq (n_e (n_lc' [("k", 4)] some eNat (fun a => [(4, eNat a)]) (fun _ => true) (fun k => .tup [.int (k : Nat), .int (k : Nat)]) rfl nd (blk_of (by kernel_rfl)) (by omega) (i_lst (vr 1 rfl)) (fun a ha s H C cl fp => gd_name 4 nd) (fun a ha s H C cl fp => bs_nil) (fun a ha hb s H C cl fp => (e_tup (as_cons (vr 4 rfl) (as_cons (vr 4 rfl) as_nil)))))) ?_)) (fun σ H h1 => ?_) (i := 3) nd rfl (Or.inl rfl))
  · rw [Dv.filter_all]
    unfold ki
    rw [List.map_map]
    rfl
  have Lm : some.length ≤ 1000 := hz
  refine ss_mid (fun σ H => At K (TT K) [⟨[], H0, W, none⟩] [.d (eLk (LkA K) S), .d (.lst (some.map eNat)), .d (mkD (ki some) (wD ws)), .own 0 (mkD (ki some) (fD (cur1 S.pr S.ts S.units some))), .un, .un, .un, .un] σ H) (s_if h1 (b := decide (S.pr = "stack")) (B.eq (b_eq (e_fld g.cls g.n_protocol (vr 0 rfl) rfl) e_str) (by simp)) (fun hb σ H h2 => ?_) fun hb σ H h2 => ?_) fun σ H h2 => ?_
  · refine ss_cons (s_for (as := some) (ed := eNat) (ps := fun a => [(4, eNat a)]) (fun i => [.d (eLk (LkA K) S), .d (.lst (some.map eNat)), .d (mkD (ki some) (wD ws)), .own 1 (mkD (ki some) (fD ((some.take i).foldl (lowStep S.ts S.units) fun k => k))), .un, .un, .un, .un]) rfl h2 (i_lst (vr 1 rfl)) ⟨rfl, rfl, rfl, rfl, trivial⟩ (fun i a hia => gd_name 4 nd) (fun b0 i k σ H hia h3 => ?_) fun σ H h3 => ?_)
    · have hm := List.mem_of_getElem? hia
      have hk := hsome k hm
      have hmin := minTop_is ok hk
      refine ss_cons (s_put hu h3 (i := 3) rfl (ee_sh (e_minL (ns := (k : Int) :: (held S.ts S.units k).map fun l => (((top_ S.ts l).getD k : Nat) : Int)) g.fr rfl (E.eq (n_e (n_lst (as_cons (vr 4 rfl) (as_star (n_e (n_lc' [("lock", 5)] (held S.ts S.units k) D.int (fun l => [(5, .int l)]) (fun _ => true) (fun l => .int (((top_ S.ts l).getD k : Nat) : Int)) rfl nd (blk_of (by kernel_rfl)) (by have := held_few ok hk; omega)
        (i_lst (e_meth c_held (hr.mono (by decide)) (vr 0 rfl) (as_cons (vr 4 rfl) as_nil) ⟨S, k, rfl, rfl, ok, hk⟩)) (fun a ha s H C cl fp => gd_name 5 nd) (fun a ha s H C cl fp => bs_nil) (fun l hl hb s H C cl fp => ?_))) as_nil)) ?_)) ?_) hmin)) (ee_sh (vr 4 rfl)) (by unfold ki; rw [List.length_map]; omega) (fun σ H h4 => ?_) rfl (Or.inl rfl))
      · obtain ⟨hr1, t, ht, _⟩ := held_ok ok hk hl
        exact E.eq (e_ix hu (e_fld g.cls g.n_tops (vr 0 rfl) rfl) (vr 5 rfl) (ceil_ix hr1)) (by rw [ht]; rfl)
      · have := held_few ok hk
        rw [Dv.filter_all]
        simp
        omega
      · rw [Dv.filter_all]
        simp [eNat]
      · refine ss_nil (h4.wk ⟨rfl, rfl, rfl, ?_, trivial⟩)
        rw [foldl_snoc hia]
        exact congrArg (Sl.own 1) (put_fD hm).symm
    · refine ss_nil (h3.wk ⟨rfl, rfl, rfl, ?_, trivial⟩)
      rw [List.take_length]
      unfold cur1
      rw [if_pos (of_decide_eq_true hb)]
      rfl
  · refine ss_nil (h2.wk ⟨rfl, rfl, rfl, ?_, trivial⟩)
    unfold cur1
    rw [if_neg (of_decide_eq_false hb)]
  refine ss_mid (fun σ H => At K (TT K) [⟨[], H0, W, none⟩] [.d (eLk (LkA K) S), .d (.lst (some.map eNat)), .d (mkD (ki some) (wD ws)), .own 0 (mkD (ki some) (fD (currents S.pr S.ts S.units some ws))), .un, .un, .un, .un] σ H) (s_if h2 (b := inhP S.pr) (b_in (e_fld g.cls g.n_protocol (vr 0 rfl) rfl) (e_tup (as_cons e_str (as_cons e_str as_nil))) rfl rfl rfl rfl rfl) (fun hb σ H h3 => ?_) fun hb σ H h3 => ?_) fun σ H h3 => ?_
  · refine ss_cons (s_for (as := some) (ed := eNat) (ps := fun a => [(6, eNat a)]) (fun i => [.d (eLk (LkA K) S), .d (.lst (some.map eNat)), .d (mkD (ki some) (wD ws)), .own 1 (mkD (ki some) (fD ((some.take i).foldl (inhT some ws) (cur1 S.pr S.ts S.units some)))), .un, .un, .un, .un]) rfl h3 (i_lst (vr 1 rfl)) ⟨rfl, rfl, rfl, rfl, trivial⟩ (fun i a hia => gd_name 6 nd) (fun b0 i k0 σ H hia h4 => ?_) fun σ H h4 => ?_)
    · generalize hc : (some.take i).foldl (inhT some ws) (cur1 S.pr S.ts S.units some) = c at h4
      refine ss_cons (s_for (as := some) (ed := eNat) (ps := fun a => [(4, eNat a)]) (fun j => [.d (eLk (LkA K) S), .d (.lst (some.map eNat)), .d (mkD (ki some) (wD ws)), .own 2 (mkD (ki some) (fD ((some.take j).foldl (inh1 ws) c))), .un, .un, .un, .un]) rfl h4 (i_lst (vr 1 rfl)) ⟨rfl, rfl, rfl, rfl, trivial⟩ (fun i a hia => gd_name 4 nd) (fun b1 j k σ H hja h5 => ?_) fun σ H h5 => ?_)
      · have hk := List.mem_of_getElem? hja
        have hwk : (ws k).length ≤ (ws k).length := Nat.le_refl _
        generalize hc2 : (some.take j).foldl (inh1 ws) c = c2 at h5
        refine ss_cons (s_for (as := ws k) (ed := eNat) (ps := fun a => [(7, eNat a)]) (fun l => [.d (eLk (LkA K) S), .d (.lst (some.map eNat)), .d (mkD (ki some) (wD ws)), .own 3 (mkD (ki some) (fD (((ws k).take l).foldl (inh0 k) c2))), .d (eNat k), .un, .un, .un]) rfl h5 (i_lst (e_ix hu (vr 2 rfl) (vr 4 rfl) (ix_wD hk))) ⟨rfl, rfl, rfl, rfl, rfl, trivial⟩ (fun i a hia => gd_name 7 nd) (fun b2 l o σ H hla h6 => ?_) fun σ H h6 => ?_)
        · have ho := hws k hk o (List.mem_of_getElem? hla)
          refine ss_cons (s_put hu h6 (i := 3) rfl (ee_al (E.eq (e_min2 g.fr rfl (as_cons (e_ix hu (vr 3 rfl) (vr 7 rfl) (ix_fD ho)) (as_cons (e_ix hu (vr 3 rfl) (vr 4 rfl) (ix_fD hk)) as_nil))) (show _ = D.int ((min (((ws k).take l).foldl (inh0 k) c2 o) (((ws k).take l).foldl (inh0 k) c2 k) : Nat) : Int) from congrArg D.int (by omega)))) (ee_sh (vr 7 rfl)) (by unfold ki; rw [List.length_map]; omega) (fun σ H h7 => ?_) rfl (Or.inl rfl))
          refine ss_nil (h7.wk ⟨rfl, rfl, rfl, ?_, rfl, trivial⟩)
          rw [foldl_snoc hla]
          exact congrArg (Sl.own 3) (put_fD ho).symm
        · refine ss_nil (h6.wk ⟨rfl, rfl, rfl, ?_, trivial⟩)
          rw [List.take_length, foldl_snoc hja, hc2]
          rfl
      · refine ss_nil (h5.wk ⟨rfl, rfl, rfl, ?_, trivial⟩)
        rw [List.take_length, foldl_snoc hia, hc]
        rfl
    · refine ss_nil (h4.wk ⟨rfl, rfl, rfl, ?_, trivial⟩)
      rw [List.take_length]
      unfold currents
      rw [if_pos hb]
      rfl
  · refine ss_nil (h3.wk ⟨rfl, rfl, rfl, ?_, trivial⟩)
    unfold currents
    rw [if_neg (by rw [hb]; exact Bool.false_ne_true)]
  have h4 := h3.frz (i := 3) rfl
  refine ss_cons (s_ret h4 (ee_sh (vr 3 rfl)) (fin0 hq rfl))
end
end Ev31
/-! ## DvO -/
set_option maxHeartbeats 4000000
/-! Judgements by data: min by a lambda that gives (int, bool, int). -/
namespace Dv
open PySem PySem.Spec PyProof.Rows L2 Gx
structure GL (X : Cx) (T : TbL) (c P : Addr) (k : Nat) : Prop where
  room : Room (k + 3) X.A
  calm : X.calm = true
  nodup : X.N.Nodup
  tab : LamX.TabB X.base X.mg c P
  code : X.env.code = .ref c
  mem : (P, X.env.qual ++ "<lambda>") ∈ T
  uniq : ∀ r ∈ T, r.1 = P → r.2 = X.env.qual ++ "<lambda>"
section
variable {X : Cx} {T : TbL} {Γ : List (Option D)} {α : Type} {e : Expr} {es : List Expr} {params : Arguments} {scope : Scope} {x : Str} {i k x1 : Nat} {c P : Addr} {p lpos kpos pos tpos : Pos} {d : D}
theorem e_minK (as : List α) (ed : α → D) (kf : α → KD) (i : Nat) (fr : Fr X.mg) (g : GL X T c P k) (ok : LSc X.N X.env.scope scope x i) (hne : as ≠ []) (he : E X T Γ e (.lst (as.map ed)))
    (hb : ∀ a ∈ as, ∀ (s : Shared) (H : Hp) (f c' : Addr) (A : Around), Room k A → As (lcx X s H (lEnv X scope s.heap.objs.size f c') A) T ((wiped Γ [i]).set i (some (ed a))) es [.int (kf a).1, .bl (kf a).2.1, .int (kf a).2.2])
    (hres : ∀ (j : Nat) (a : α), as[j]? = some a → Least (fun n => ((as[n]?).map kf).getD (0, false, 0)) j as.length → ed a = d)
    (hbind : ∀ cl pm c' ctv w, bindArgs (PySem.W.kla_fn "<lambda>" (X.env.qual ++ "<lambda>") params (.Tuple es x1 tpos) scope cl pm (.ref c') ctv) ⟨[w], []⟩ = pure [(x, w)] := by intro _ _ _ _ _; rfl) (hdef : defaultsOf params X.env = ([], []) := by rfl) (hgl : Gl X "min" := by rfl)
    (he1 : backTo pos (starEach [e] X.env) = (false, eval e X.env) :: backTo pos (starEach [] X.env) := by rfl) (hpl : (backTo pos (starEach [e] X.env)).any (·.1) = false := by rfl)
    (hk1 : backToKw pos (keywordEach [⟨some (Str.ofString "key"), .Lambda params (.Tuple es x1 tpos) scope lpos, kpos⟩] X.env) = [(some (Str.ofString "key"), eval (.Lambda params (.Tuple es x1 tpos) scope lpos) X.env >>= fun v => standAt pos >>= fun _ => pure v)] := by rfl) (hv : bootBuiltins "min" = some (.builtin "min") := by decide +kernel) :
    E X T Γ (.Call (.Name "min" p) [e] [⟨some (Str.ofString "key"), .Lambda params (.Tuple es x1 tpos) scope lpos, kpos⟩] pos) d := fun W σ H hP Q kq => by
  refine of_pe (pe_minK (te := rE X e) (tb := tTup fun σ H Q => ∀ (s : Shared) (H0 : Hp) (f c' : Addr) (A : Around), Room k A → rA (lcx X s H0 (lEnv X scope s.heap.objs.size f c') A) es σ H Q) g.room hgl fr.min g.calm g.nodup g.tab g.code g.mem g.uniq ok pe_r
    (fun s H0 f c' A hA => pe_tup ⟨fun pos2 pins s1 σ1 H1 Q1 I1 q1 => q1 s H0 f c' A hA pos2 pins s1 I1⟩) hbind hdef he1 hpl hk1 hv) (he W σ H hP _ fun v H1 e1 r1 => ?_)
  rw [Rep] at r1
  obtain ⟨l, xs, rfl, hq, hr⟩ := r1
  have hlen : xs.length = as.length := by rw [hr.length, List.length_map]
  have at_ : ∀ {j : Nat} {v : V}, xs[j]? = some v → ∃ a, as[j]? = some a ∧ Rep X.K W H1 (ed a) v := fun {j v} h => by
    have hj : j < as.length := by
      rw [← hlen]
      exact (List.getElem?_eq_some_iff.mp h).1
    obtain ⟨u, hu, ru⟩ := hr.get (i := j) (d := ed as[j]) (by rw [List.getElem?_map, List.getElem?_eq_getElem hj]; rfl)
    rw [h] at hu
    cases hu
    exact ⟨as[j], List.getElem?_eq_getElem hj, ru⟩
  refine ⟨l, xs, fun n => ((as[n]?).map kf).getD (0, false, 0), rfl, hq.sq, ?_, e1.tb hP.tb, fun H2 e2 => (hq.go (T := T) (Mx.of e2) fun x z => .inl z).sq, fun j v H2 hj e2 => ?_, fun j v H2 hj hl e2 => ?_⟩
  · rw [hlen]
    exact Nat.pos_of_ne_zero fun z => hne (List.eq_nil_of_length_eq_zero z)
  · obtain ⟨a, ha, ra⟩ := at_ hj
    intro s0 H0 f c' A hA
    have P2 : Pr X.K T W H2 ((wiped Γ [i]).set i (some (ed a))) ((L2.wipe σ [i]).set i (some v)) := ⟨(hP.al.ex e1).ex e2, (((hP.en.ex e1).ex e2).wipe [i]).put (ra.ex e2), e2.tb (e1.tb hP.tb)⟩
    refine hb a (List.mem_of_getElem? ha) s0 H0 f c' A hA W _ H2 P2 _ fun vs H3 e3 r3 => ?_
    obtain ⟨u1, u2, u3, ev, r1, r2, r4⟩ := r3.three_inv
    have r1 : u1 = .int (kf a).1 := by simpa only [Rep] using r1
    have r2 : u2 = .bl (kf a).2.1 := by simpa only [Rep] using r2
    have r4 : u3 = .int (kf a).2.2 := by simpa only [Rep] using r4
    subst r1 r2 r4 ev
    refine ⟨by show 3 ≤ sizeLine; decide, fun q hq => ⟨e3.trans (Ex.new hq), q, rfl, ?_⟩⟩
    show upd H3 q _ q = some (.tup (kdV (((as[j]?).map kf).getD (0, false, 0))))
    rw [upd_same, ha]
    rfl
  · obtain ⟨a, ha, ra⟩ := at_ hj
    rw [hlen] at hl
    have := hres j a ha hl
    rw [← this] at kq
    exact kq v H2 (e1.trans e2) (ra.ex e2)
end
def lscB (N : List Str) (sc scope : Scope) (x : Str) (i : Nat) : Bool :=
  blkB N sc scope [(x, i)] && (decide (scope.isCoroutine = false) && (decide (scope.isGenerator = false) && (decide (∀ y ∈ scope.names, y.2 ≠ NameKind.cell) && decide (scope.names.lookup x = some NameKind.local))))
theorem lsc_of {N : List Str} {sc scope : Scope} {x : Str} {i : Nat} (h : lscB N sc scope x i = true) : LSc N sc scope x i := by
  unfold lscB at h
  simp only [Bool.and_eq_true, decide_eq_true_eq] at h
  obtain ⟨h1, h2, h3, h4, h5⟩ := h
  exact ⟨blk_of h1, h2, h3, h4, h5⟩
end Dv
/-! ## M4 -/
set_option maxHeartbeats 4000000
/-! Who runs, plain. -/
namespace Ev31
open PySem L2 Dv Gx
def keyOf (us : List Nat) (c : Nat → Nat) (k : Nat) : KD := ((c k : Nat), decide (V.int (uAt us k : Nat) = V.int 0), (k : Nat))
def kleq (a b : KD) : Bool := !kLt b a
/-- the first with the least key -/
def argMin (kf : Nat → KD) : List Nat → Option Nat
  | [] => none
  | k :: ks => match argMin kf ks with
    | none => some k
    | some j => if kLt (kf j) (kf k) then some j else some k
def pickW (us : List Nat) (rd : List Nat) (ws : Nat → List Nat) (cu : Nat → Nat) : Option Nat := argMin (keyOf us cu) (rd.filter fun k => (ws k).isEmpty)
def pick (pr : Str) (ts : List Task) (us : List Nat) (rd : List Nat) : Option Nat := pickW us rd (waits pr ts us rd) (currents pr ts us rd (waits pr ts us rd))
theorem argMin_none {kf : Nat → KD} : ∀ {l : List Nat}, argMin kf l = none ↔ l = []
  | [] => by simp [argMin]
  | k :: ks => by
    unfold argMin
    cases argMin kf ks with
    | none => simp
    | some j => by_cases h : kLt (kf j) (kf k) = true <;> simp [h]
theorem argMin_mem {kf : Nat → KD} : ∀ {l : List Nat} {m : Nat}, argMin kf l = some m → m ∈ l
  | [], m, q => by simp [argMin] at q
  | x :: xs, m, q => by
    unfold argMin at q
    cases q2 : argMin kf xs with
    | none =>
      rw [q2] at q
      cases q
      exact List.mem_cons_self
    | some y =>
      rw [q2] at q
      have q : (if kLt (kf y) (kf x) = true then some y else some x) = some m := q
      by_cases e : kLt (kf y) (kf x) = true
      · rw [if_pos e] at q
        cases q
        exact List.mem_cons_of_mem _ (argMin_mem q2)
      · rw [if_neg e] at q
        cases q
        exact List.mem_cons_self
theorem kLt_irrefl (x : KD) : kLt x x = false := kLt_irr x
/-- the first least of the places is the one picked -/
theorem argMin_least {kf : Nat → KD} : ∀ {l : List Nat} {j a : Nat}, l[j]? = some a → Least (fun n => ((l[n]?).map kf).getD (0, false, 0)) j l.length → argMin kf l = some a
  | [], j, _, h, _ => by simp at h
  | k :: ks, 0, a, h, hl => by
    cases h
    unfold argMin
    cases q : argMin kf ks with
    | none => rfl
    | some m =>
      have hm : ∃ i : Nat, ks[i]? = some m := by
        obtain ⟨i, h1, h2⟩ := List.mem_iff_getElem.mp (argMin_mem q)
        exact ⟨i, by rw [List.getElem?_eq_getElem h1, h2]⟩
      obtain ⟨i, hi⟩ := hm
      have hlt := (List.getElem?_eq_some_iff.mp hi).1
      have := (hl.2 (i + 1) (by simp; omega)).1
      simp only [List.getElem?_cons_succ, hi, List.getElem?_cons_zero, Option.map_some, Option.getD_some] at this
      show (if kLt (kf m) (kf k) = true then some m else some k) = some k
      rw [this]
      rfl
  | k :: ks, j + 1, a, h, hl => by
    have h' : ks[j]? = some a := by simpa using h
    have hj := (List.getElem?_eq_some_iff.mp h').1
    have ih := argMin_least (kf := kf) h' ⟨hj, fun i hi => by
      have := hl.2 (i + 1) (by simp; omega)
      simp only [List.getElem?_cons_succ] at this
      exact ⟨this.1, fun q => this.2 (by omega)⟩⟩
    unfold argMin
    rw [ih]
    have := (hl.2 0 (by simp)).2 (by omega)
    simp only [List.getElem?_cons_succ, h', List.getElem?_cons_zero, Option.map_some, Option.getD_some] at this
    simp only [this, if_true]
end Ev31
/-! ## WL -/
set_option maxHeartbeats 4000000
namespace Ev31
open PySem PySem.Spec PyProof.Rows L2 Gx Dv
section
variable {P : Program} {w : World} {K : PySem.W.Frag} {mg : Str → Option Value} {base h : Heap}
theorem gl_of {X : Cx} {p : He.Defn} {k : Nat} (g : Pg w K mg base h) (hK : X.K = K) (hmg : X.mg = mg) (hb : X.base = base) (hr : Room (k + 3) X.A) (hc : X.calm = true) (hN : X.N.Nodup) (i : Nat) (hp : tf[i]? = some p) (hcode : X.env.code = .ref (He.cT K p).1) (hm : (TT K)[i]? = some ((He.cT K p).2, X.env.qual ++ "<lambda>")) :
    GL X (TT K) (He.cT K p).1 (He.cT K p).2 k := ⟨hr, hc, hN, by rw [hmg, hb]; exact g.tb p (List.mem_of_getElem? hp), hcode, List.mem_of_getElem? hm, uniq_of g.nd (List.mem_of_getElem? hm)⟩
/-! first -/
theorem waits_sub {pr : Str} {ts : List Task} {us : List Nat} {rd : List Nat} {k j : Nat} (h : j ∈ waits pr ts us rd k) : j ∈ rd ∧ j ≠ k := by
  unfold waits at h
  split at h
  · split at h
    · cases h
    · have := List.mem_filter.mp h
      simp at this
      exact ⟨this.1, this.2.1⟩
  · split at h
    · cases h
    · split at h
      all_goals
        have := List.mem_filter.mp h
        simp at this
        exact ⟨this.1, this.2.1⟩
theorem ready_lt {pat : List (List Int)} {done : List Nat} {now k : Nat} (h : k ∈ ready pat done now) : k < pat.length := by
  unfold ready at h
  exact List.mem_range.mp (List.mem_filter.mp h).1
theorem ready_nodup {pat : List (List Int)} {done : List Nat} {now : Nat} : (ready pat done now).Nodup := List.Pairwise.filter _ List.nodup_range
theorem ready_len {pat : List (List Int)} {done : List Nat} {now : Nat} : (ready pat done now).length ≤ pat.length := by
  unfold ready
  have := List.length_filter_le (rdy pat done now) (List.range pat.length)
  simpa using this
def R_first (C : Addr) (ds : List D) (d : D) : Prop := ∃ (S : Lk) (now : Nat), ds = [eLk C S, .int now] ∧ d = eOpt (pick S.pr S.ts S.units (ready S.pat S.done now)) ∧ S.Ok
abbrev n_Locked_first : List Str := ["self", "now", "some", "waits", "k", "current", "free"]
theorem sc_Locked_first : FnScope n_Locked_first ["self", "now"] (defScope m_first) := ⟨rfl, rfl, rfl, by decide +kernel, rfl, by decide +kernel, by decide +kernel⟩
theorem ok_first (g : Pg w K mg base h) : MtC P w K mg base (TT K) (LkA K) "first" 6 (R_first (LkA K)) := by
  have c_ready : MtC P w K mg base (TT K) (LkA K) "ready" 1 (R_ready (LkA K)) := ok_ready g
  have c_waits : MtC P w K mg base (TT K) (LkA K) "waits" 5 (R_waits (LkA K)) := ok_waits g
  have c_currents : MtC P w K mg base (TT K) (LkA K) "currents" 2 (R_currents (LkA K)) := ok_currents g
  obtain ⟨fd, F⟩ := g.d_first
  refine mtC_of F g.cls g.a_first sc_Locked_first (fun ds d ⟨x0, x1, e, _⟩ => by rw [e]; rfl) (fun _ _ _ _ _ _ us hl => match us, hl with | [_, _], _ => rfl) ?_
  intro cdv A outer s H0 Q Ex0 ds d W hcd hr hR hq σ H hat
  have hu := hu_of hr
  have nd := sc_Locked_first.nd
  obtain ⟨S, now, rfl, rfl, ok⟩ := hR
  have hcode : cdv = .ref (He.cT K ("Locked", some "first")).1 := hcd.symm.trans (code_at F)
  have h0 : At K (TT K) [⟨[], H0, W, none⟩] [.d (eLk (LkA K) S), .d (.int now), .un, .un, .un, .un, .un] σ H := hat
  have hpl := ok.pat.len
  have hml := ok.good.most
  refine ss_cons (s_asg h0 (ee_sh (e_meth c_ready (hr.mono (by decide)) (vr 0 rfl) (as_cons (vr 1 rfl) as_nil) ⟨S, now, rfl, rfl, ok⟩)) (fun σ H h1 => ?_) (i := 2) nd rfl (Or.inr rfl))
  have hnd := ready_nodup (pat := S.pat) (done := S.done) (now := now)
  have hlt : ∀ j ∈ ready S.pat S.done now, j < S.ts.length := fun j hj => by
    have := ready_lt hj
    omega
  have hz : (ready S.pat S.done now).length ≤ 1000 := by
    have := ready_len (pat := S.pat) (done := S.done) (now := now)
    omega
  unfold pick at hq
  generalize ready S.pat S.done now = rd at h1 hnd hlt hz hq
  refine ss_cons (s_asg h1 (ee_sh (d := mkD (ki rd) (wD (waits S.pr S.ts S.units rd))) (e_nd (n_dict g.fr rfl (ki_nodup hnd) (E.eq (n_e (n_lc' [("k", 4)] rd eNat (fun a => [(4, eNat a)]) (fun _ => true) (fun k => .tup [.int (k : Nat), .lst ((waits S.pr S.ts S.units rd k).map eNat)]) rfl nd (blk_of (by kernel_rfl)) (by omega) (i_lst (vr 2 rfl)) (fun a ha s H C cl fp => gd_name 4 nd) (fun a ha s H C cl fp => bs_nil)
    (fun k hk hb s H C cl fp => (e_tup (as_cons (vr 4 rfl) (as_cons (e_meth c_waits (hr.mono (by decide)) (vr 0 rfl) (as_cons (vr 4 rfl) (as_cons (vr 2 rfl) as_nil)) ⟨S, k, rd, rfl, rfl, ok, hlt k hk, hlt, hz⟩) as_nil)))))) ?_)))) (fun σ H h2 => ?_) (i := 3) nd rfl (Or.inr rfl))
  · rw [Dv.filter_all]
    unfold ki
    rw [List.map_map]
    rfl
  refine ss_cons (s_asg h2 (ee_sh (e_meth c_currents (hr.mono (by decide)) (vr 0 rfl) (as_cons (vr 2 rfl) (as_cons (vr 3 rfl) as_nil)) ⟨S, rd, _, rfl, rfl, ok, hlt, hz, hnd, fun k hk j hj => (waits_sub hj).1⟩)) (fun σ H h3 => ?_) (i := 5) nd rfl (Or.inr rfl))
  generalize hws : waits S.pr S.ts S.units rd = ws at h3 hq
  generalize hcu : currents S.pr S.ts S.units rd ws = cu at h3 hq
  unfold pickW at hq
  refine ss_cons (s_lc (i := 6) [("k", 4)] rd eNat (fun a => [(4, eNat a)]) (fun k => (ws k).isEmpty) eNat h3 rfl nd (blk_of (by kernel_rfl)) (by omega) (i_lst (vr 2 rfl)) (fun a ha s H C cl fp => gd_name 4 nd) (fun k hk s H C cl fp => bs_one (B.eq (b_not (b_seq (e_ix hu (vr 3 rfl) (vr 4 rfl) (ix_wD hk)) rfl)) (by simp))) (fun a ha hb s H C cl fp => (vr 4 rfl)) (fun σ H h4 => ?_) rfl)
  refine ss_cons (s_if h4 (b := (rd.filter fun k => (ws k).isEmpty).isEmpty) (B.eq (b_not (b_seq (vr 6 rfl) rfl)) (by simp)) (fun hb σ H h5 => ?_) fun hb σ H h5 => ?_)
  · refine ss_cons (s_ret h5 (ee_sh e_no) (fin0 hq ?_))
    have : argMin (keyOf S.units cu) (rd.filter fun k => (ws k).isEmpty) = none := argMin_none.mpr (List.isEmpty_iff.mp hb)
    rw [this]
    rfl
  · refine ss_nil ?_
    refine ss_cons (s_ret h5 (ee_sh (e_minK (rd.filter fun k => (ws k).isEmpty) eNat (keyOf S.units cu) 4 g.fr (gl_of (k := 1) (p := ("Locked", some "first")) g rfl rfl rfl (hr.mono (by decide)) rfl nd 6 rfl hcode rfl) (lsc_of (by kernel_rfl)) ?_ (vr 6 rfl) (fun k hk s H f c' A hA => ?_) ?_)) (fin0 hq rfl))
    · intro z
      rw [z] at hb
      cases hb
    · have hk1 := (List.mem_filter.mp hk).1
      have eu := uAt_get (us := S.units) (k := k) (by rw [ok.units]; exact hlt k hk1)
      exact as_cons (e_ix (by have := hA.un; show A.units + 1 < _; omega) (vr 5 rfl) (vr 4 rfl) (ix_fD hk1)) (as_cons (e_eq (e_ix (by have := hA.un; show A.units + 1 < _; omega) (e_fld g.cls g.n_units (vr 0 rfl) rfl) (vr 4 rfl) (ix_lst eu)) e_int) (as_cons (vr 4 rfl) as_nil))
    · intro j a ha hl
      rw [argMin_least ha hl]
      rfl
end
end Ev31
/-! ## M5 -/
set_option maxHeartbeats 4000000
/-! The state as an owned object; a unit's work. -/
namespace Ev31
open PySem L2 Dv
def oLk (C : Addr) (S : Lk) : D := .ob2 C flds [eTasks S.ts, ePat S.pat, .str S.pr, .lst ((ceilings S.ts).map eOpt)] [S.done.map eNat, S.units.map eNat]
theorem vw_oLk {C : Addr} {S : Lk} : vw (oLk C S) = eLk C S := rfl
def Lk.new (ts : List Task) (pat : List (List Int)) (pr : Str) : Lk := ⟨ts, pat, pr, ts.map fun _ => 0, ts.map fun _ => 0⟩
def cost (ts : List Task) (k : Nat) : Int := match ts[k]? with
  | some t => t.1
  | none => 0
def Lk.work (S : Lk) (k : Nat) : Lk :=
  if ((uAt S.units k : Nat) : Int) + 1 = cost S.ts k then { S with done := S.done.set k (uAt S.done k + 1), units := S.units.set k 0 } else { S with units := S.units.set k (uAt S.units k + 1) }
theorem cost_get {ts : List Task} {k : Nat} (h : k < ts.length) : cost ts k = ts[k].1 := by
  unfold cost
  rw [List.getElem?_eq_getElem h]
theorem Lk.new_ok {ts : List Task} {pat : List (List Int)} {pr : Str} (g : GoodTs ts) (p : GoodPat ts pat) (h : pr ∈ prots) : (Lk.new ts pat pr).Ok := ⟨g, p, h, by simp [Lk.new], by simp [Lk.new]⟩
theorem Lk.work_ok {S : Lk} {k : Nat} (h : S.Ok) : (S.work k).Ok := by
  unfold Lk.work
  split
  · exact ⟨h.good, h.pat, h.prot, by simpa using h.done, by simpa using h.units⟩
  · exact ⟨h.good, h.pat, h.prot, h.done, by simpa using h.units⟩
theorem set_eNat {l : List Nat} {k v : Nat} : (l.map eNat).set k (eNat v) = (l.set k v).map eNat := by
  rw [List.map_set]
end Ev31
/-! ## DvP -/
set_option maxHeartbeats 4000000
/-! Judgements by data: an object and rows that are owned. -/
namespace Dv
open PySem PySem.Spec PyProof.Rows L2 Gx

theorem putF_new {f : Str} {v : V} : ∀ {fs : List (Str × V)}, f ∉ fs.map (·.1) → putF f v fs = fs ++ [(f, v)]
  | [], _ => rfl
  | (g, x) :: r, h => by
    unfold putF
    rw [if_neg fun z => h (by simp [z]), putF_new fun z => h (by simp [z])]
    rfl
section
variable {K : PySem.W.Frag} {T : TbL} {bs : List Bas} {Γ : List Sl} {W : List Addr} {σ : L2.St} {H H' : Hp} {x y : D} {i m : Nat} {p q : Addr} {o : HO}
/-- a new object comes to what a slot owns -/
theorem AtV.grow {ft : Nat → List Addr} (h : AtV K T bs Γ W ft σ H) (hi : Γ[i]? = some (.own m x)) (hs : σ[i]? = some (some (.ref p))) (hp : p ∈ ft i) (hq : Nw H q) (e : Ex T H H') (hq2 : ∃ o, H' q = some o ∧ Mu o) (hu : Mu o)
    (hnew : p ≠ q → Mx T (q :: W) H' (upd H' p o) → OwnAt K (q :: W) (upd H' p o) p (ft i ++ [q]) y) : AtV K T bs (Γ.set i (.own m y)) (q :: W) (fun j => if i = j then ft i ++ [q] else ft j) σ (upd H' p o) := by
  obtain ⟨p', h1, hpW, h3, h4, h5⟩ := h.ow i m x hi
  rw [hs] at h1
  cases h1
  have pW := hpW p hp
  have qW : q ∉ W := h.al.nin hq
  have pq : p ≠ q := fun z => qW (z ▸ pW)
  obtain ⟨u, hu1, mu⟩ := h5.mu.1 p hp
  have hu2 : H' p = some u := ex_mu e hu1 mu
  have mm : Mx T [p] H' (upd H' p o) := Mx.mut hu2 mu (by simp)
  have mW : Mx T (q :: W) H' (upd H' p o) := mm.sub fun x hx => by rw [List.mem_singleton.mp hx]; exact List.mem_cons_of_mem _ pW
  have mW0 : Mx T W H (upd H' p o) := (Mx.of e).trans (mm.sub fun x hx => by rw [List.mem_singleton.mp hx]; exact pW)
  have own2 := hnew pq mW
  have hl : i < Γ.length := (List.getElem?_eq_some_iff.mp hi).1
  have nd : ∀ x, Sl.own m y ≠ .d x := fun x z => by cases z
  refine ⟨fun z hz => ?_, mm.tb (e.tb h.tb), fun b hb => ⟨((h.ba b hb).mx.trans (Mx.of e)).late mm fun x hx => ?_, fun x hx => ?_, fun x hx => List.mem_cons_of_mem _ ((h.ba b hb).sub x hx), (h.ba b hb).al, (h.ba b hb).bw⟩, by simpa using h.len, fun j z hz => ?_, fun j n z hz => ?_, fun j k a b z1 z2 hjk e1 e2 => ?_, fun m2 x2 b r e1 e2 e3 => ?_⟩
  · by_cases c : z = p
    · exact ⟨o, by rw [c, upd_same], fun ps w => by rw [w] at hu; exact hu⟩
    · rcases List.mem_cons.mp hz with w | w
      · obtain ⟨u2, a, b⟩ := hq2
        exact ⟨u2, by rw [upd_ne c, w]; exact a, fun ps v => by rw [v] at b; exact b⟩
      · obtain ⟨u2, a, b⟩ := (h.al.ex e) z w
        exact ⟨u2, by rw [upd_ne c]; exact a, b⟩
  · rw [List.mem_singleton.mp hx]
    have hb' : b ∈ bs.take m ∨ b ∈ bs.drop m := List.mem_append.mp (by rw [List.take_append_drop]; exact hb)
    exact hb'.elim (fun z => h3 b z p hp) fun z => .inr (h4 b z p hp)
  · rcases List.mem_cons.mp hx with z | z
    · exact .inr (z ▸ (h.ba b hb).nw h.al hq)
    · exact (h.ba b hb).new x z
  · obtain ⟨_, hz⟩ := set_d nd hz
    obtain ⟨v, e1, e2⟩ := h.sl j z hz
    exact ⟨v, e1, e2.go mW0 (cons_new hq)⟩
  · by_cases c : i = j
    · subst c
      rw [List.getElem?_set_self hl] at hz
      cases hz
      simp only [if_true]
      refine ⟨p, hs, fun r hr => ?_, fun b hb r hr => ?_, fun b hb r hr => ?_, own2⟩
      · rcases List.mem_append.mp hr with z | z
        · exact List.mem_cons_of_mem _ (hpW r z)
        · rw [List.mem_singleton.mp z]; exact List.mem_cons_self
      · rcases List.mem_append.mp hr with z | z
        · exact h3 b hb r z
        · rw [List.mem_singleton.mp z]; exact .inr ((h.ba b (List.mem_of_mem_take hb)).nw h.al hq)
      · rcases List.mem_append.mp hr with z | z
        · exact h4 b hb r z
        · rw [List.mem_singleton.mp z]; exact (h.ba b (List.mem_of_mem_drop hb)).nw h.al hq
    · rw [List.getElem?_set_ne c] at hz
      obtain ⟨q', e1, e2, e3, e4, e5⟩ := h.ow j n z hz
      simp only [if_neg c]
      refine ⟨q', e1, fun r hr => List.mem_cons_of_mem _ (e2 r hr), e3, e4, e5.go mW0 (cons_new hq) fun r hr o' ho' hm => ?_⟩
      have : r ≠ p := fun zz => h.ne i j m n x z c hi hz p hp (zz ▸ hr)
      rw [upd_ne this]
      exact ex_mu e ho' hm
  · have g : ∀ {j n : Nat} {z : D}, (Γ.set i (.own m y))[j]? = some (.own n z) → ∃ n' z', Γ[j]? = some (.own n' z') := fun {j n z} hz => by
      by_cases c : i = j
      · exact ⟨m, x, c ▸ hi⟩
      · rw [List.getElem?_set_ne c] at hz
        exact ⟨n, z, hz⟩
    obtain ⟨n1, z1', g1⟩ := g e1
    obtain ⟨n2, z2', g2⟩ := g e2
    have inW : ∀ {j n : Nat} {z : D}, Γ[j]? = some (.own n z) → ∀ r ∈ ft j, r ∈ W := fun {j n z} hz => by
      obtain ⟨_, _, w, _⟩ := h.ow j n z hz
      exact w
    intro r hr hr2
    by_cases c1 : i = j
    · have c2 : i ≠ k := fun w => hjk (c1.symm.trans w)
      simp only [if_pos c1] at hr
      simp only [if_neg c2] at hr2
      rcases List.mem_append.mp hr with w | w
      · exact h.ne i k m n2 x z2' c2 hi g2 r w hr2
      · rw [List.mem_singleton.mp w] at hr2
        exact qW (inW g2 q hr2)
    · simp only [if_neg c1] at hr
      by_cases c2 : i = k
      · simp only [if_pos c2] at hr2
        rcases List.mem_append.mp hr2 with w | w
        · exact h.ne i j m n1 x z1' c1 hi g1 r w hr
        · rw [List.mem_singleton.mp w] at hr
          exact qW (inW g1 q hr)
      · simp only [if_neg c2] at hr2
        exact h.ne j k n1 n2 z1' z2' hjk g1 g2 r hr hr2
  · by_cases c : i = 0
    · subst c
      rw [List.getElem?_set_self hl] at e1
      cases e1
      exact h.pn _ x b r hi e2 e3
    · rw [List.getElem?_set_ne c] at e1
      exact h.pn m2 x2 b r e1 e2 e3
end
section
variable {X : Cx} {T : TbL} {De : Ends} {bs : List Bas} {Γ : List Sl} {σ : L2.St} {H : Hp} {e ix : Expr} {d : D} {l : List D} {i m : Nat} {x f : Str} {pos p apos : Pos} {C : Addr} {ks : List Str} {l1 : List D} {l2 : List (List D)}
/-- x.f = e, a new field that is shared -/
theorem s_fldS (c : Cls X.K C) (n : NoAttr X.K C f) (h : At X.K T bs Γ σ H) (ho : Γ[i]? = some (.own m (.ob2 C ks l1 []))) (he : EE X T Γ e d) (hf : f ∉ ks) (hk : ks.length < 100) (k : ∀ σ' H', At X.K T bs (Γ.set i (.own m (.ob2 C (ks ++ [f]) (l1 ++ [d]) []))) σ' H' → De.nx σ' H')
    (hs : swapsWith e (some (.Attribute (.Name x p) f apos)) pos.line X.env = pure false) (hi : X.N[i]? = some x := by rfl) (hx : Vis X.env.scope x := by first | exact Or.inl rfl | exact Or.inr (Or.inl rfl) | exact Or.inr (Or.inr rfl)) (hd : (x == ("__debug__" : Str)) = false := by decide) (hcd : (x == ("__classdict__" : Str)) = false := by decide) :
    rS X (.Assign [.Attribute (.Name x p) f apos] e pos) De σ H := by
  obtain ⟨W, a⟩ := h
  refine of_ps (ps_fld (pe_var hi hx hd hcd) pe_r hs) (a.run he fun v H2 e2 r2 => ?_)
  obtain ⟨ft, a2⟩ := a.ex e2
  obtain ⟨q, hq, hW, h3, h4, h5⟩ := a2.ow i m _ ho
  obtain ⟨dx, fs, qs, vs, e1, nd, g1, g2, g3, g4, g5⟩ := id h5
  cases qs with
  | cons _ _ => obtain ⟨_, _, _, z, _⟩ := g5; cases z
  | nil =>
    have hfl : fs.length < 100 := by
      rw [← g2, List.length_map] at hk
      exact hk
    refine ⟨.ref q, hq, q, C, dx, fs, rfl, g1, c, n, by omega, k _ _ ⟨W, ft, ?_⟩⟩
    rw [putF_new (by rw [g2]; exact hf)]
    refine a2.mut ho hq (by rw [e1]; simp) trivial fun mx => ⟨dx, _, [], vs ++ [v], e1, nd, upd_same, by simp [g2], by simp at g3 ⊢; exact g3, (g4.append (.one r2)).mx mx, rfl⟩
theorem RowsAt.snoc {K : PySem.W.Frag} {W : List Addr} {H : Hp} {q : Addr} {dl : List D} {xs : List V} (hq : H q = some (.lst xs)) (hr : Reps K W H dl xs) : ∀ {qs : List Addr} {l : List (List D)}, RowsAt K W H qs l → RowsAt K W H (qs ++ [q]) (l ++ [dl])
  | [], l, h => by
    have h : l = [] := h
    rw [h]
    exact ⟨dl, [], xs, rfl, hq, hr, rfl⟩
  | a :: qs, l, h => by
    obtain ⟨d, r, ys, e, h1, h2, h3⟩ := h
    rw [e]
    exact ⟨d, r ++ [dl], ys, rfl, h1, h2, h3.snoc hq hr⟩
/-- x.f = a new list, owned -/
theorem s_fldN {dl : List D} (c : Cls X.K C) (n : NoAttr X.K C f) (h : At X.K T bs Γ σ H) (ho : Γ[i]? = some (.own m (.ob2 C ks l1 l2))) (he : NN X T Γ e dl) (hf : f ∉ ks) (hk : ks.length < 100) (k : ∀ σ' H', At X.K T bs (Γ.set i (.own m (.ob2 C (ks ++ [f]) l1 (l2 ++ [dl])))) σ' H' → De.nx σ' H')
    (hs : swapsWith e (some (.Attribute (.Name x p) f apos)) pos.line X.env = pure false) (hi : X.N[i]? = some x := by rfl) (hx : Vis X.env.scope x := by first | exact Or.inl rfl | exact Or.inr (Or.inl rfl) | exact Or.inr (Or.inr rfl)) (hd : (x == ("__debug__" : Str)) = false := by decide) (hcd : (x == ("__classdict__" : Str)) = false := by decide) :
    rS X (.Assign [.Attribute (.Name x p) f apos] e pos) De σ H := by
  obtain ⟨W, a⟩ := h
  refine of_ps (ps_fld (pe_var hi hx hd hcd) pe_r hs) (a.runN he fun r xs H2 nw e2 h2 r2 => ?_)
  obtain ⟨ft, a0⟩ := a
  obtain ⟨q, hq, hW, h3, h4, h5⟩ := a0.ow i m _ ho
  obtain ⟨dx, fs, qs, vs, e1, nd, g1, g2, g3, g4, g5⟩ := id h5
  have hfl : fs.length < 100 := by
    rw [← g2, List.length_map] at hk
    exact hk
  have g1' : H2 q = some (.ins C dx fs) := ex_mu e2 g1 trivial
  refine ⟨.ref q, hq, q, C, dx, fs, rfl, g1', c, n, by omega, k _ _ ⟨r :: W, (fun j => if i = j then ft i ++ [r] else ft j), ?_⟩⟩
  rw [putF_new (by rw [g2]; exact hf)]
  have rW : r ∉ W := a0.al.nin nw
  have rft : r ∉ ft i := fun z => rW (hW r z)
  refine a0.grow ho hq (by rw [e1]; simp) nw e2 ⟨_, h2, trivial⟩ trivial fun pq mx => ⟨dx, _, qs ++ [r], vs, by rw [e1]; rfl, ?_, upd_same, by simp [g2], by simp [g3], (g4.go (T := T) (Mx.of e2) (cons_new nw)).mx mx, ?_⟩
  · rw [List.nodup_append]
    exact ⟨nd, by simp, fun a ha b hb => by
      rw [List.mem_singleton.mp hb]
      exact fun z => rft (z ▸ ha)⟩
  · have g6 : RowsAt X.K (r :: W) (upd H2 q (.ins C dx (fs ++ [(f, .ref r)]))) qs l2 := by
      refine g5.go ((Mx.of (W := W) e2).trans (Mx.mut g1' trivial (hW q (by rw [e1]; simp)))) (cons_new nw) fun s hs o ho hm => ?_
      have : s ≠ q := fun z => by
        rw [e1] at nd
        exact (List.nodup_cons.mp nd).1 (z ▸ hs)
      rw [upd_ne this]
      exact ex_mu e2 ho hm
    exact g6.snoc (by rw [upd_ne (Ne.symm pq)]; exact h2) (r2.mx mx)
end
end Dv
/-! ## DvQ -/
set_option maxHeartbeats 4000000
/-! Judgements by data: writing into owned rows and fields. -/
namespace Dv
open PySem PySem.Spec PyProof.Rows L2 Gx

theorem lookup_ix {f : Str} : ∀ {fs : List (Str × V)} {n : Nat}, (fs.map (·.1))[n]? = some f → (∀ j, j < n → (fs.map (·.1))[j]? ≠ some f) → fs.lookup f = (fs.map (·.2))[n]?
  | [], n, h, _ => by simp at h
  | (g, v) :: fs, 0, h, _ => by
    simp at h
    subst h
    simp [List.lookup_cons]
  | (g, v) :: fs, n + 1, h, hn => by
    have h0 := hn 0 (by omega)
    have hgf : ¬ f = g := fun z => h0 (by simp [z])
    have : (f == g) = false := beq_eq_false_iff_ne.mpr hgf
    rw [List.lookup_cons, this]
    have := lookup_ix (fs := fs) (n := n) (by simpa using h) fun j hj => by
      have := hn (j + 1) (by omega)
      simpa using this
    simpa using this
section
variable {K : PySem.W.Frag} {T : TbL} {bs : List Bas} {Γ : List Sl} {W : List Addr} {σ : L2.St} {H H' : Hp} {i j m : Nat} {l1 dl : List D} {l2 : List (List D)} {C : Addr} {ks : List Str} {f : Str}
theorem RowsAt.get : ∀ {qs : List Addr} {l : List (List D)} {j : Nat} {dl : List D}, RowsAt K W H qs l → l[j]? = some dl → ∃ q xs, qs[j]? = some q ∧ H q = some (.lst xs) ∧ Reps K W H dl xs
  | [], l, j, dl, h, e => by
    have h : l = [] := h
    rw [h] at e
    simp at e
  | q :: qs, l, 0, dl, h, e => by
    obtain ⟨d, r, xs, el, h1, h2, _⟩ := h
    rw [el] at e
    cases e
    exact ⟨q, xs, rfl, h1, h2⟩
  | q :: qs, l, j + 1, dl, h, e => by
    obtain ⟨d, r, xs, el, _, _, h3⟩ := h
    rw [el] at e
    obtain ⟨q', xs', a, b⟩ := h3.get (j := j) (by simpa using e)
    exact ⟨q', xs', by simpa using a, b⟩
theorem RowsAt.put {q : Addr} {dl' : List D} {xs' : List V} (mx : Mx T W H (upd H q (.lst xs'))) (hr : Reps K W H dl' xs') : ∀ {qs : List Addr} {l : List (List D)} {j : Nat}, qs.Nodup → RowsAt K W H qs l → qs[j]? = some q → RowsAt K W (upd H q (.lst xs')) qs (l.set j dl')
  | [], l, j, _, h, e => by simp at e
  | a :: qs, l, 0, nd, h, e => by
    cases e
    obtain ⟨d, r, xs, el, h1, h2, h3⟩ := h
    rw [el]
    refine ⟨dl', r, xs', rfl, upd_same, hr.mx mx, h3.go mx (fun x hx => .inl hx) fun s hs o ho _ => ?_⟩
    have : s ≠ q := fun z => (List.nodup_cons.mp nd).1 (z ▸ hs)
    rw [upd_ne this]
    exact ho
  | a :: qs, l, j + 1, nd, h, e => by
    have e : qs[j]? = some q := by simpa using e
    obtain ⟨d, r, xs, el, h1, h2, h3⟩ := h
    rw [el]
    have : a ≠ q := fun z => (List.nodup_cons.mp nd).1 (z ▸ List.mem_of_getElem? e)
    exact ⟨d, r.set j dl', xs, rfl, by rw [upd_ne this]; exact h1, h2.mx mx, RowsAt.put mx hr (List.nodup_cons.mp nd).2 h3 e⟩
theorem AtW.row_ob (h : AtW K T bs Γ W σ H) (hi : Γ[i]? = some (.own m (.ob2 C ks l1 l2))) (hj : l2[j]? = some dl) (hf : ks[l1.length + j]? = some f) (hn : ∀ n, n < l1.length + j → ks[n]? ≠ some f) :
    ∃ p dx fs q xs, σ[i]? = some (some (.ref p)) ∧ H p = some (.ins C dx fs) ∧ fs.lookup f = some (.ref q) ∧ H q = some (.lst xs) ∧ Reps K W H dl xs ∧ ∀ dl' xs', Reps K W H dl' xs' → AtW K T bs (Γ.set i (.own m (.ob2 C ks l1 (l2.set j dl')))) W σ (upd H q (.lst xs')) := by
  obtain ⟨ft, a⟩ := h
  obtain ⟨p, hp, hW, h3, h4, h5⟩ := a.ow i m _ hi
  obtain ⟨dx, fs, qs, vs, e1, nd, g1, g2, g3, g4, g5⟩ := id h5
  obtain ⟨q, xs, c1, c2, c3⟩ := g5.get hj
  refine ⟨p, dx, fs, q, xs, hp, g1, ?_, c2, c3, fun dl' xs' hr => ⟨ft, ?_⟩⟩
  · rw [lookup_ix (n := l1.length + j) (by rw [g2]; exact hf) fun n hn' => by rw [g2]; exact hn n hn', g3, List.getElem?_append_right (by rw [g4.length]; omega), List.getElem?_map, g4.length]
    have : l1.length + j - l1.length = j := by omega
    rw [this, c1]
    rfl
  · have hq : q ∈ qs := List.mem_of_getElem? c1
    have ndq := (List.nodup_cons.mp (e1 ▸ nd)).2
    have pq : p ≠ q := fun z => (List.nodup_cons.mp (e1 ▸ nd)).1 (z ▸ hq)
    exact a.mut hi hp (by rw [e1]; simp [hq]) trivial fun mx => ⟨dx, fs, qs, vs, e1, nd, by rw [upd_ne pq]; exact g1, g2, g3, g4.mx mx, g5.put mx hr ndq c1⟩
theorem AtW.row_rw {l : List (List D)} (h : AtW K T bs Γ W σ H) (hi : Γ[i]? = some (.own m (.rws l))) (hj : l[j]? = some dl) :
    ∃ p vs q xs, σ[i]? = some (some (.ref p)) ∧ H p = some (.lst vs) ∧ vs[j]? = some (.ref q) ∧ vs.length = l.length ∧ H q = some (.lst xs) ∧ Reps K W H dl xs ∧ ∀ dl' xs', Reps K W H dl' xs' → AtW K T bs (Γ.set i (.own m (.rws (l.set j dl')))) W σ (upd H q (.lst xs')) := by
  obtain ⟨ft, a⟩ := h
  obtain ⟨p, hp, hW, h3, h4, h5⟩ := a.ow i m _ hi
  obtain ⟨qs, e1, nd, g1, g5⟩ := id h5
  obtain ⟨q, xs, c1, c2, c3⟩ := g5.get hj
  have len : ∀ {qs : List Addr} {l : List (List D)}, RowsAt K W H qs l → qs.length = l.length := by
    intro qs
    induction qs with
    | nil => intro l h; have h : l = [] := h; rw [h]; rfl
    | cons a qs ih => intro l h; obtain ⟨d, r, xs, el, _, _, h3⟩ := h; rw [el, List.length_cons, List.length_cons, ih h3]
  refine ⟨p, _, q, xs, hp, g1, by rw [List.getElem?_map, c1]; rfl, by rw [List.length_map, len g5], c2, c3, fun dl' xs' hr => ⟨ft, ?_⟩⟩
  have hq : q ∈ qs := List.mem_of_getElem? c1
  have ndq := (List.nodup_cons.mp (e1 ▸ nd)).2
  have pq : p ≠ q := fun z => (List.nodup_cons.mp (e1 ▸ nd)).1 (z ▸ hq)
  exact a.mut hi hp (by rw [e1]; simp [hq]) trivial fun mx => ⟨qs, e1, nd, by rw [upd_ne pq]; exact g1, g5.put mx hr ndq c1⟩
end
section
variable {X : Cx} {T : TbL} {De : Ends} {bs : List Bas} {Γ : List Sl} {σ : L2.St} {H : Hp} {e ix : Expr} {d : D} {dl : List D} {i j m t : Nat} {x f : Str} {pos p apos tpos : Pos} {C : Addr} {ks : List Str} {l1 : List D} {l2 : List (List D)}
/-- x.f[ix] = e -/
theorem s_fset (c : Cls X.K C) (n : NoAttr X.K C f) (h : At X.K T bs Γ σ H) (ho : Γ[i]? = some (.own m (.ob2 C ks l1 l2))) (hj : l2[j]? = some dl) (hf : ks[l1.length + j]? = some f) (hn : ∀ n, n < l1.length + j → ks[n]? ≠ some f) (he : EE X T Γ e d) (hx0 : EE X T Γ ix (.int (t : Nat))) (ht : t < dl.length)
    (k : ∀ σ' H', At X.K T bs (Γ.set i (.own m (.ob2 C ks l1 (l2.set j (dl.set t d))))) σ' H' → De.nx σ' H') (hi : X.N[i]? = some x := by rfl) (hx : Vis X.env.scope x := by first | exact Or.inl rfl | exact Or.inr (Or.inl rfl) | exact Or.inr (Or.inr rfl)) (hd : (x == ("__debug__" : Str)) = false := by decide) (hcd : (x == ("__classdict__" : Str)) = false := by decide)
    (hb : attributeBase (.Name x p) f X.env (eval (.Name x p) X.env) = eval (.Name x p) X.env := by rfl) (ha : ∀ v, assign (.Subscript (.Attribute (.Name x p) f apos) ix tpos) X.env v = (do
      let ov ← holding [v] (eval (.Attribute (.Name x p) f apos) X.env)
      let iv ← holding [v, ov] (eval ix X.env)
      standAt tpos
      holding [v, ov, iv] (setItem ov iv v)
      release [v, ov, iv] []) := by intro _; rfl)
    (hs : swapsWithSole [.Subscript (.Attribute (.Name x p) f apos) ix tpos] e pos.line X.env = pure false := by rfl) (hw : swappedStores [.Subscript (.Attribute (.Name x p) f apos) ix tpos] e X.env = pure none := by rfl)
    (h1 : (assignEach [.Subscript (.Attribute (.Name x p) f apos) ix tpos] X.env).map (·.2) = [assign (.Subscript (.Attribute (.Name x p) f apos) ix tpos) X.env] := by rfl) : rS X (.Assign [.Subscript (.Attribute (.Name x p) f apos) ix tpos] e pos) De σ H := by
  obtain ⟨W, a⟩ := h
  refine of_ps (ps_asg pe_r (pg_sub (pe_fld (pe_var hi hx hd hcd) hb) pe_r set_list ha) hs hw h1) (a.run he fun v H2 e2 r2 => ?_)
  obtain ⟨q0, dx, fs, q, xs, hq, g1, g2, g3, g4, g5⟩ := (a.ex e2).row_ob ho hj hf hn
  refine ⟨.ref q0, hq, q0, C, dx, fs, .ref q, rfl, g1, c, n, g2, (a.ex e2).run hx0 fun y H3 e3 r3 => ?_⟩
  obtain ⟨q0', dx', fs', q', xs', hq', g1', g2', g3', g4', g5'⟩ := ((a.ex e2).ex e3).row_ob ho hj hf hn
  have z1 : q0' = q0 := by
    rw [hq] at hq'
    cases hq'
    rfl
  have z2 : H3 q0 = some (.ins C dx fs) := ex_mu e3 g1 trivial
  rw [z1, z2] at g1'
  cases g1'
  rw [g2] at g2'
  cases g2'
  refine ⟨q, xs', t, t, rfl, r3, g3', ?_, k _ _ ⟨W, g5' _ _ (g4'.set t (r2.ex e3))⟩⟩
  unfold ixN
  rw [g4'.length, if_pos (by omega), if_pos (by omega)]
  simp
/-- x.f[ix], x.g[ix2] = a, b -/
theorem s_fset2 {a b ix2 : Expr} {da db : D} {dl2 : List D} {j2 t2 : Nat} {g : Str} {p2 apos2 tpos2 pt vt : Pos} {kt k2 : Nat} (hc : X.calm = true) (c : Cls X.K C) (n : NoAttr X.K C f) (n2 : NoAttr X.K C g) (h : At X.K T bs Γ σ H) (ho : Γ[i]? = some (.own m (.ob2 C ks l1 l2))) (hj : l2[j]? = some dl) (hf : ks[l1.length + j]? = some f) (hn : ∀ n, n < l1.length + j → ks[n]? ≠ some f)
    (hj2 : l2[j2]? = some dl2) (hf2 : ks[l1.length + j2]? = some g) (hn2 : ∀ n, n < l1.length + j2 → ks[n]? ≠ some g) (hjj : j ≠ j2) (he : EE X T Γ (.Tuple [a, b] k2 vt) (.tup [da, db])) (hx0 : ∀ Δ : List Sl, (∀ n, n ≠ i → Δ[n]? = Γ[n]?) → EE X T Δ ix (.int (t : Nat)) ∧ EE X T Δ ix2 (.int (t2 : Nat))) (ht : t < dl.length) (ht2 : t2 < dl2.length)
    (k : ∀ σ' H', At X.K T bs (Γ.set i (.own m (.ob2 C ks l1 ((l2.set j (dl.set t da)).set j2 (dl2.set t2 db))))) σ' H' → De.nx σ' H') (hi : X.N[i]? = some x := by rfl) (hx : Vis X.env.scope x := by first | exact Or.inl rfl | exact Or.inr (Or.inl rfl) | exact Or.inr (Or.inr rfl)) (hd : (x == ("__debug__" : Str)) = false := by decide) (hcd : (x == ("__classdict__" : Str)) = false := by decide)
    (hb : attributeBase (.Name x p) f X.env (eval (.Name x p) X.env) = eval (.Name x p) X.env := by rfl) (hb2 : attributeBase (.Name x p2) g X.env (eval (.Name x p2) X.env) = eval (.Name x p2) X.env := by rfl)
    (ha : ∀ v, assign (.Subscript (.Attribute (.Name x p) f apos) ix tpos) X.env v = (do
      let ov ← holding [v] (eval (.Attribute (.Name x p) f apos) X.env)
      let iv ← holding [v, ov] (eval ix X.env)
      standAt tpos
      holding [v, ov, iv] (setItem ov iv v)
      release [v, ov, iv] []) := by intro _; rfl)
    (ha2 : ∀ v, assign (.Subscript (.Attribute (.Name x p2) g apos2) ix2 tpos2) X.env v = (do
      let ov ← holding [v] (eval (.Attribute (.Name x p2) g apos2) X.env)
      let iv ← holding [v, ov] (eval ix2 X.env)
      standAt tpos2
      holding [v, ov, iv] (setItem ov iv v)
      release [v, ov, iv] []) := by intro _; rfl)
    (hl : (assignEach [.Subscript (.Attribute (.Name x p) f apos) ix tpos, .Subscript (.Attribute (.Name x p2) g apos2) ix2 tpos2] X.env).length = 2 := by rfl) (hst : (assignEach [.Subscript (.Attribute (.Name x p) f apos) ix tpos, .Subscript (.Attribute (.Name x p2) g apos2) ix2 tpos2] X.env).findIdx? (·.1) = none := by rfl)
    (hs3 : (assignEach [.Subscript (.Attribute (.Name x p) f apos) ix tpos, .Subscript (.Attribute (.Name x p2) g apos2) ix2 tpos2] X.env).map (·.2) = assign (.Subscript (.Attribute (.Name x p) f apos) ix tpos) X.env :: (assignEach [.Subscript (.Attribute (.Name x p2) g apos2) ix2 tpos2] X.env).map (·.2) := by rfl)
    (hs4 : (assignEach [.Subscript (.Attribute (.Name x p2) g apos2) ix2 tpos2] X.env).map (·.2) = assign (.Subscript (.Attribute (.Name x p2) g apos2) ix2 tpos2) X.env :: (assignEach [] X.env).map (·.2) := by rfl)
    (hs : swapsWithSole [.Tuple [.Subscript (.Attribute (.Name x p) f apos) ix tpos, .Subscript (.Attribute (.Name x p2) g apos2) ix2 tpos2] kt pt] (.Tuple [a, b] k2 vt) pos.line X.env = pure false := by rfl)
    (hw : swappedStores [.Tuple [.Subscript (.Attribute (.Name x p) f apos) ix tpos, .Subscript (.Attribute (.Name x p2) g apos2) ix2 tpos2] kt pt] (.Tuple [a, b] k2 vt) X.env = pure none := by rfl)
    (h1 : (assignEach [.Tuple [.Subscript (.Attribute (.Name x p) f apos) ix tpos, .Subscript (.Attribute (.Name x p2) g apos2) ix2 tpos2] kt pt] X.env).map (·.2) = [assign (.Tuple [.Subscript (.Attribute (.Name x p) f apos) ix tpos, .Subscript (.Attribute (.Name x p2) g apos2) ix2 tpos2] kt pt) X.env] := by rfl) :
    rS X (.Assign [.Tuple [.Subscript (.Attribute (.Name x p) f apos) ix tpos, .Subscript (.Attribute (.Name x p2) g apos2) ix2 tpos2] kt pt] (.Tuple [a, b] k2 vt) pos) De σ H := by
  obtain ⟨W, w⟩ := h
  refine of_ps (ps_asg pe_r (pg_tup (n := 2) hc (pgs_cons (pg_sub (pe_fld (pe_var hi hx hd hcd) hb) pe_r set_list ha) (pgs_cons (pg_sub (pe_fld (pe_var hi hx hd hcd) hb2) pe_r set_list ha2) pgs_nil hs4) hs3) hl hst) hs hw h1) (w.run he fun v H2 e2 r2 => ?_)
  rw [Rep] at r2
  obtain ⟨tp, xs, rfl, hq, hr⟩ := r2
  obtain ⟨u1, u2, rfl, r1, r3⟩ := hr.two_inv
  refine ⟨tp, [u1, u2], rfl, hq, rfl, u1, [u2], rfl, ?_⟩
  have w2 := w.ex e2
  have li : i < Γ.length := (List.getElem?_eq_some_iff.mp ho).1
  have step : ∀ {Γ' : List Sl} {H2 : Hp} {f : Str} {ix : Expr} {j t : Nat} {dl : List D} {d : D} {u : V} {l2 : List (List D)} {R : L2.St → Hp → Prop}, AtW X.K T bs Γ' W σ H2 → Γ'[i]? = some (.own m (.ob2 C ks l1 l2)) → NoAttr X.K C f → l2[j]? = some dl → ks[l1.length + j]? = some f → (∀ n, n < l1.length + j → ks[n]? ≠ some f) → EE X T Γ' ix (.int (t : Nat)) → t < dl.length → Rep X.K W H2 d u →
      (∀ H3, Mx T W H2 H3 → AtW X.K T bs (Γ'.set i (.own m (.ob2 C ks l1 (l2.set j (dl.set t d))))) W σ H3 → R σ H3) → gSub (tFld X.K (tVar i) f) (rE X ix) rSetL u σ H2 R := by
    intro Γ' H2 f ix j t dl d u l2 R w2 ho n hj hf hn hix ht r1 kk
    obtain ⟨q0, dx, fs, q, xs, hq, g1, g2, g3, g4, g5⟩ := w2.row_ob ho hj hf hn
    refine ⟨.ref q0, hq, q0, C, dx, fs, .ref q, rfl, g1, c, n, g2, w2.run hix fun y H3 e3 r3 => ?_⟩
    obtain ⟨q0', dx', fs', q', xs', hq', g1', g2', g3', g4', g5'⟩ := (w2.ex e3).row_ob ho hj hf hn
    have z1 : q0' = q0 := by
      rw [hq] at hq'
      cases hq'
      rfl
    have z2 : H3 q0 = some (.ins C dx fs) := ex_mu e3 g1 trivial
    rw [z1, z2] at g1'
    cases g1'
    rw [g2] at g2'
    cases g2'
    obtain ⟨ft, av⟩ := w2
    obtain ⟨p0, hp0, hW, _, _, h5⟩ := av.ow i m _ ho
    obtain ⟨dx2, fs2, qs2, vs2, e1, nd, k1, k2, k3, k4, k5⟩ := id h5
    obtain ⟨q9, xs9, c1, c2, c3⟩ := k5.get hj
    have hpp : p0 = q0 := by
      rw [hq] at hp0
      cases hp0
      rfl
    have hfs : fs2 = fs ∧ dx2 = dx := by
      rw [hpp, g1] at k1
      cases k1
      exact ⟨rfl, rfl⟩
    have hq9 : q9 = q := by
      have zz : fs.lookup f = some (.ref q9) := by
        rw [← hfs.1, lookup_ix (n := l1.length + j) (by rw [k2]; exact hf) fun n hn' => by rw [k2]; exact hn n hn', k3, List.getElem?_append_right (by rw [k4.length]; omega), List.getElem?_map, k4.length]
        have : l1.length + j - l1.length = j := by omega
        rw [this, c1]
        rfl
      rw [g2] at zz
      cases zz
      rfl
    have qW : q ∈ W := hW q (by rw [e1, ← hq9]; simp [List.mem_of_getElem? c1])
    refine ⟨q, xs', t, t, rfl, r3, g3', ?_, kk _ ((Mx.of e3).trans ((Mx.mut g3' trivial (by simp : q ∈ [q])).sub fun x hx => by rw [List.mem_singleton.mp hx]; exact qW)) (g5' _ _ (g4'.set t (r1.ex e3)))⟩
    unfold ixN
    rw [g4'.length, if_pos (by omega), if_pos (by omega)]
    simp
  refine step w2 ho n hj hf hn (hx0 Γ fun _ _ => rfl).1 ht r1 fun H3 mx w3 => ?_
  refine ⟨u2, [], rfl, ?_⟩
  refine step w3 (List.getElem?_set_self li) n2 (by rw [List.getElem?_set_ne hjj]; exact hj2) hf2 hn2 (hx0 _ fun z hz => List.getElem?_set_ne (Ne.symm hz)).2 ht2 (r3.mx mx) fun H4 _ w4 => ⟨rfl, ?_⟩
  rw [List.set_set] at w4
  exact k _ _ ⟨W, w4⟩
end
end Dv
/-! ## DvR -/
set_option maxHeartbeats 4000000
/-! Judgements by data: defs that change what their first argument owns. -/
namespace Dv
open PySem PySem.Spec PyProof.Rows L2 Gx

/-- the first argument is owned by the caller and may change: pre of it and of the rest; post of what it is then, and of the answer -/
def spW (K : PySem.W.Frag) (T : TbL) (pre : D → List D → Prop) (post : D → List D → D → D → Prop) : Sp := fun vs H Q _ => ∃ W ft p x ds vs', vs = .ref p :: vs' ∧ pre x ds ∧ Al W H ∧ LamX.Tabs T H ∧ (∀ q ∈ ft, q ∈ W) ∧ OwnAt K W H p ft x ∧ Reps K W H ds vs' ∧
  ∀ y d v H' W' ft', post x ds y d → Mx T ft H H' → Al W' H' → (∀ a ∈ W, a ∈ W') → (∀ a ∈ W', a ∈ W ∨ Nw H a) → (∀ q ∈ ft', q ∈ W') → (∀ q ∈ ft', q ∈ ft ∨ Nw H q) → OwnAt K W' H' p ft' y → Rep K W' H' d v → Q v H'
def FnW (P : Program) (w : World) (K : PySem.W.Frag) (mg : Str → Option Value) (base : Heap) (T : TbL) (x : Str) (lv : Nat) (pre : D → List D → Prop) (post : D → List D → D → D → Prop) : Prop :=
  ∃ f fd ps, mg x = some (.ref f) ∧ PySem.W.keepIn K (.ref f) = true ∧ Binds K fd ps [] ∧ FnOk P w K mg base CX0 lv f fd ps (spW K T pre post)
def MtW (P : Program) (w : World) (K : PySem.W.Frag) (mg : Str → Option Value) (base : Heap) (T : TbL) (C : Addr) (x : Str) (lv : Nat) (pre : D → List D → Prop) (post : D → List D → D → D → Prop) : Prop :=
  ∃ f fd ps, Cls K C ∧ Meth K C x f ∧ Binds K fd ps [] ∧ FnOk P w K mg base CX0 lv f fd ps (spW K T pre post)
/-- __init__ of the class called x -/
def MkW (P : Program) (w : World) (K : PySem.W.Frag) (mg : Str → Option Value) (base : Heap) (T : TbL) (x : Str) (C : Addr) (lv : Nat) (pre : D → List D → Prop) (post : D → List D → D → D → Prop) : Prop :=
  ∃ f fd ps, mg x = some (.ref C) ∧ Mk K C f ∧ Binds K fd ps [] ∧ FnOk P w K mg base CX0 lv f fd ps (spW K T pre post)
section
variable {K : PySem.W.Frag} {T : TbL} {bs : List Bas} {Γ : List Sl} {W W' : List Addr} {σ : L2.St} {H H' : Hp} {x y : D} {i m : Nat} {p q : Addr} {o : HO}
/-- a callee had its way with what a slot owns -/
theorem AtV.call {ft : Nat → List Addr} {ft' : List Addr} (h : AtV K T bs Γ W ft σ H) (hi : Γ[i]? = some (.own m x)) (hs : σ[i]? = some (some (.ref p))) (mx : Mx T (ft i) H H') (al' : Al W' H') (sub : ∀ a ∈ W, a ∈ W') (new : ∀ a ∈ W', a ∈ W ∨ Nw H a)
    (hf : ∀ q ∈ ft', q ∈ W') (hn : ∀ q ∈ ft', q ∈ ft i ∨ Nw H q) (own : OwnAt K W' H' p ft' y) : AtV K T bs (Γ.set i (.own m y)) W' (fun j => if i = j then ft' else ft j) σ H' := by
  obtain ⟨p', h1, hpW, h3, h4, h5⟩ := h.ow i m x hi
  rw [hs] at h1
  cases h1
  have mW : Mx T W H H' := mx.sub hpW
  have hl : i < Γ.length := (List.getElem?_eq_some_iff.mp hi).1
  have nd : ∀ x, Sl.own m y ≠ .d x := fun x z => by cases z
  refine ⟨al', mx.tb h.tb, fun b hb => ⟨(h.ba b hb).mx.late mx fun x hx => ?_, fun x hx => ?_, fun x hx => sub _ ((h.ba b hb).sub x hx), (h.ba b hb).al, (h.ba b hb).bw⟩, by simpa using h.len, fun j z hz => ?_, fun j n z hz => ?_, fun j k a b z1 z2 hjk e1 e2 => ?_, fun m2 x2 b r e1 e2 e3 => ?_⟩
  · have hb' : b ∈ bs.take m ∨ b ∈ bs.drop m := List.mem_append.mp (by rw [List.take_append_drop]; exact hb)
    exact hb'.elim (fun z => h3 b z x hx) fun z => .inr (h4 b z x hx)
  · rcases new x hx with z | z
    · exact (h.ba b hb).new x z
    · exact .inr ((h.ba b hb).nw h.al z)
  · obtain ⟨_, hz⟩ := set_d nd hz
    obtain ⟨v, e1, e2⟩ := h.sl j z hz
    exact ⟨v, e1, e2.go mW new⟩
  · by_cases c : i = j
    · subst c
      rw [List.getElem?_set_self hl] at hz
      cases hz
      simp only [if_true]
      refine ⟨p, hs, hf, fun b hb r hr => ?_, fun b hb r hr => ?_, own⟩
      · rcases hn r hr with z | z
        · exact h3 b hb r z
        · exact .inr ((h.ba b (List.mem_of_mem_take hb)).nw h.al z)
      · rcases hn r hr with z | z
        · exact h4 b hb r z
        · exact (h.ba b (List.mem_of_mem_drop hb)).nw h.al z
    · rw [List.getElem?_set_ne c] at hz
      obtain ⟨q', e1, e2, e3, e4, e5⟩ := h.ow j n z hz
      simp only [if_neg c]
      refine ⟨q', e1, fun r hr => sub _ (e2 r hr), e3, e4, e5.go mW new fun r hr o' ho' hm => ?_⟩
      exact mx.ob _ _ ho' (fun ps zz => by rw [zz] at hm; exact hm) fun zz => absurd hr (h.ne i j m n x z c hi hz r zz)
  · have g : ∀ {j n : Nat} {z : D}, (Γ.set i (.own m y))[j]? = some (.own n z) → ∃ n' z', Γ[j]? = some (.own n' z') := fun {j n z} hz => by
      by_cases c : i = j
      · exact ⟨m, x, c ▸ hi⟩
      · rw [List.getElem?_set_ne c] at hz
        exact ⟨n, z, hz⟩
    obtain ⟨n1, z1', g1⟩ := g e1
    obtain ⟨n2, z2', g2⟩ := g e2
    have inW : ∀ {j n : Nat} {z : D}, Γ[j]? = some (.own n z) → ∀ r ∈ ft j, r ∈ W := fun {j n z} hz => by
      obtain ⟨_, _, w, _⟩ := h.ow j n z hz
      exact w
    intro r hr hr2
    by_cases c1 : i = j
    · have c2 : i ≠ k := fun w => hjk (c1.symm.trans w)
      simp only [if_pos c1] at hr
      simp only [if_neg c2] at hr2
      rcases hn r hr with w | w
      · exact h.ne i k m n2 x z2' c2 hi g2 r w hr2
      · exact h.al.nin w (inW g2 r hr2)
    · simp only [if_neg c1] at hr
      by_cases c2 : i = k
      · simp only [if_pos c2] at hr2
        rcases hn r hr2 with w | w
        · exact h.ne i j m n1 x z1' c1 hi g1 r w hr
        · exact h.al.nin w (inW g1 r hr)
      · simp only [if_neg c2] at hr2
        exact h.ne j k n1 n2 z1' z2' hjk g1 g2 r hr hr2
  · by_cases c : i = 0
    · subst c
      rw [List.getElem?_set_self hl] at e1
      cases e1
      exact h.pn _ x b r hi e2 e3
    · rw [List.getElem?_set_ne c] at e1
      exact h.pn m2 x2 b r e1 e2 e3
def entryO (N : List Str) (x : D) (ds : List D) : List Sl := .own 1 x :: (ds.map .d ++ List.replicate (N.length - (ds.length + 1)) .un)
theorem at_entryO {N : List Str} {ft : List Addr} {ds : List D} {vs : List V} (al : Al W H) (tb : LamX.Tabs T H) (hf : ∀ q ∈ ft, q ∈ W) (own : OwnAt K W H p ft x) (r : Reps K W H ds vs) : At K T [⟨ft, H, W, some p⟩] (entryO N x ds) (L2.start N (.ref p :: vs)) H := by
  have hl := r.length
  have g : ∀ {i : Nat} {s : Sl}, (entryO N x ds)[i]? = some s → (i = 0 ∧ s = .own 1 x) ∨ (∃ j d, i = j + 1 ∧ ds[j]? = some d ∧ s = .d d) ∨ s = .un := fun {i s} h => by
    unfold entryO at h
    cases i with
    | zero =>
      simp at h
      exact .inl ⟨rfl, h.symm⟩
    | succ i =>
      rw [List.getElem?_cons_succ, List.getElem?_append] at h
      split at h
      · rw [List.getElem?_map] at h
        cases q : ds[i]? with
        | none => rw [q] at h; cases h
        | some d => rw [q] at h; cases h; exact .inr (.inl ⟨i, d, rfl, q, rfl⟩)
      · rw [List.getElem?_replicate] at h
        split at h
        · cases h; exact .inr (.inr rfl)
        · cases h
  refine ⟨W, fun _ => ft, al, tb, fun b hb => ?_, ?_, fun i z h => ?_, fun i m z h => ?_, fun i j m n z z' hij h h' => ?_, fun m z b r _ e2 e3 => ?_⟩
  · rw [List.mem_singleton.mp hb]
    exact ⟨Mx.refl, fun x hx => .inl hx, fun x hx => hx, al, hf⟩
  · simp [entryO, L2.start, hl]
  · rcases g h with ⟨_, h2⟩ | ⟨j, d, e, h1, h2⟩ | h2
    · cases h2
    · cases h2
      obtain ⟨v, hv, rv⟩ := r.get h1
      refine ⟨v, ?_, rv⟩
      rw [e]
      unfold L2.start
      rw [List.getElem?_append_left (by simp; exact (List.getElem?_eq_some_iff.mp hv).1), List.getElem?_map, List.getElem?_cons_succ, hv]
      rfl
    · cases h2
  · rcases g h with ⟨e, h2⟩ | ⟨j, d, e, h1, h2⟩ | h2
    · cases h2
      rw [e]
      exact ⟨p, rfl, hf, fun b hb q hq => by
        have hb : b ∈ [(⟨ft, H, W, some p⟩ : Bas)] := List.mem_of_mem_take hb
        rw [List.mem_singleton.mp hb]
        exact .inl hq, fun b hb => by simp at hb, own⟩
    · cases h2
    · cases h2
  · rcases g h with ⟨e, h2⟩ | ⟨_, _, _, _, h2⟩ | h2
    · rcases g h' with ⟨e', _⟩ | ⟨_, _, _, _, h2'⟩ | h2'
      · exact absurd (e.trans e'.symm) hij
      · cases h2'
      · cases h2'
    · cases h2
    · cases h2
  · rw [List.mem_singleton.mp (List.mem_of_mem_take e2)] at e3
    cases e3
    rfl
end
section
variable {P : Program} {w : World} {K : PySem.W.Frag} {mg : Str → Option Value} {base : Heap} {T : TbL} {x qual : Str} {params : Arguments} {body : List Stmt} {scope : Scope} {f : Addr} {fd : FuncData} {N ps : List Str} {k : Nat} {pre : D → List D → Prop} {post : D → List D → D → D → Prop}
/-- what the body owes -/
abbrev Owe (K : PySem.W.Frag) (T : TbL) (W ft : List Addr) (p : Addr) (H0 : Hp) (post : D → D → Prop) (Q : VK) : Prop :=
  ∀ y d v H' W' ft', post y d → Mx T ft H0 H' → Al W' H' → (∀ a ∈ W, a ∈ W') → (∀ a ∈ W', a ∈ W ∨ Nw H0 a) → (∀ q ∈ ft', q ∈ W') → (∀ q ∈ ft', q ∈ ft ∨ Nw H0 q) → OwnAt K W' H' p ft' y → Rep K W' H' d v → Q v H'
abbrev BodyW (P : Program) (w : World) (K : PySem.W.Frag) (mg : Str → Option Value) (base : Heap) (T : TbL) (qual : Str) (body : List Stmt) (scope : Scope) (f : Addr) (fd : FuncData) (N : List Str) (k : Nat) (pre : D → List D → Prop) (post : D → List D → D → D → Prop) : Prop :=
  ∀ (cdv : Value) (A : Around) (outer : List Env) (s : Shared) (H0 : Hp) (Q : VK) (Ex0 : XK) (x : D) (ds : List D) (W ft : List Addr) (p : Addr), fd.code = cdv → Room k (A.deeper (envOfC qual scope s.heap.objs.size f cdv)) → pre x ds → Owe K T W ft p H0 (post x ds) Q →
    ∀ σ H, At K T [⟨ft, H0, W, some p⟩] (entryO N x ds) σ H → rSs (cxOf CX0 P w K mg base N qual scope f cdv A outer s H0 Ex0).nox body { nx := fun _ H' => Q .non H', rt := Q } σ H
theorem fnokW_of (F : FunD K x qual params body scope [] [] f fd) (S : FnScope N ps scope) (len : ∀ x ds, pre x ds → ds.length + 1 = ps.length) (hb : BodyW P w K mg base T qual body scope f fd N k pre post) : FnOk P w K mg base CX0 (k + 1) f fd ps (spW K T pre post) := by
  obtain ⟨oc, od, dV, kV, doc, pm, an, cdv, ct, osl, rfl, lk, hcd, _, _⟩ := F.ex
  refine fn_of lk hcd S (fun vs H Q E0 h => ?_) fun A outer s H vs Q E0 hr h => ?_
  · obtain ⟨W, ft, p, x, ds, vs', rfl, hp, al, tb, hf, own, r, _⟩ := h
    rw [List.length_cons, r.length, len x ds hp]
  · obtain ⟨W, ft, p, x, ds, vs', rfl, hp, al, tb, hf, own, r, hq⟩ := h
    exact ⟨_, PSs.nox pss_r, hb cdv A outer s H Q E0 x ds W ft p rfl hr hp hq _ _ (at_entryO al tb hf own r)⟩
theorem fnW_of {y : Str} (F : FunD K x qual params body scope [] [] f fd) (hm : mg y = some (.ref f)) (S : FnScope N ps scope) (len : ∀ x ds, pre x ds → ds.length + 1 = ps.length)
    (hbind : ∀ (kV doc pm : Value) (an : Option Addr) (cdv ct : Value) (us : List Value), us.length = ps.length → bindArgs (PySem.W.fnOf x qual params body scope .none kV doc pm an cdv ct) ⟨us, []⟩ = pure (ps.zip us)) (hb : BodyW P w K mg base T qual body scope f fd N k pre post) :
    FnW P w K mg base T y (k + 1) pre post := ⟨f, fd, ps, hm, F.kp, F.bindsN hbind, fnokW_of F S len hb⟩
theorem mtW_of {C : Addr} {y : Str} (F : FunD K x qual params body scope [] [] f fd) (hc : Cls K C) (hm : Meth K C y f) (S : FnScope N ps scope) (len : ∀ x ds, pre x ds → ds.length + 1 = ps.length)
    (hbind : ∀ (kV doc pm : Value) (an : Option Addr) (cdv ct : Value) (us : List Value), us.length = ps.length → bindArgs (PySem.W.fnOf x qual params body scope .none kV doc pm an cdv ct) ⟨us, []⟩ = pure (ps.zip us)) (hb : BodyW P w K mg base T qual body scope f fd N k pre post) :
    MtW P w K mg base T C y (k + 1) pre post := ⟨f, fd, ps, hc, hm, F.bindsN hbind, fnokW_of F S len hb⟩
theorem mkW_of {C : Addr} {y : Str} (F : FunD K x qual params body scope [] [] f fd) (hc : mg y = some (.ref C)) (hm : Mk K C f) (S : FnScope N ps scope) (len : ∀ x ds, pre x ds → ds.length + 1 = ps.length)
    (hbind : ∀ (kV doc pm : Value) (an : Option Addr) (cdv ct : Value) (us : List Value), us.length = ps.length → bindArgs (PySem.W.fnOf x qual params body scope .none kV doc pm an cdv ct) ⟨us, []⟩ = pure (ps.zip us)) (hb : BodyW P w K mg base T qual body scope f fd N k pre post) :
    MkW P w K mg base T y C (k + 1) pre post := ⟨f, fd, ps, hc, hm, F.bindsN hbind, fnokW_of F S len hb⟩
/-- the end: what is owed is paid -/
theorem finW {Γ : List Sl} {W ft : List Addr} {σ : L2.St} {p : Addr} {H0 : Hp} {y d d' : D} {Q : VK} {post : D → D → Prop} (k : Owe K T W ft p H0 post Q) (h0 : Γ[0]? = some (.own 1 y)) (hy : post y d') (e : d = d') (v : V) (H' : Hp) (W' : List Addr) (a : AtW K T [⟨ft, H0, W, some p⟩] Γ W' σ H') (r : Rep K W' H' d v) : Q v H' := by
  obtain ⟨f0, a⟩ := a
  have ok := a.ba _ List.mem_cons_self
  obtain ⟨p', h1, h2, h3, h4, h5⟩ := a.ow 0 1 y h0
  have hs := a.pn 1 y _ p h0 (by simp : (⟨ft, H0, W, some p⟩ : Bas) ∈ _) rfl
  rw [hs] at h1
  cases h1
  exact k y d' v H' W' (f0 0) hy ok.mx a.al ok.sub ok.new h2 (fun q hq => h3 ⟨ft, H0, W, some p⟩ (by simp) q hq) h5 (e ▸ r)
end
end Dv
/-! ## DvS -/
set_option maxHeartbeats 4000000
/-! Judgements by data: calls that change what a slot owns. -/
namespace Dv
open PySem PySem.Spec PyProof.Rows L2 Gx
section
variable {X : Cx} {T : TbL} {De : Ends} {bs : List Bas} {Γ : List Sl} {σ : L2.St} {H : Hp} {e : Expr} {es : List Expr} {d : D} {l ds : List D} {i j m lv : Nat} {x y z f : Str} {pos p py px apos cpos pt pt2 lp : Pos} {C : Addr} {ks : List Str} {l1 : List D} {l2 : List (List D)} {pre : D → List D → Prop} {post : D → List D → D → D → Prop} {kt k2 : Nat}
/-- x.f(e, ..), x an object that is owned -/
theorem s_callW {pl : Sem Bool} (F : MtW X.prog X.w X.K X.mg X.base T C f lv pre post) (hr : Room lv X.A) (h : At X.K T bs Γ σ H) (ho : Γ[i]? = some (.own m (.ob2 C ks l1 l2))) (ha : As X T (sh Γ) (e :: es) ds) (hp : pre (.ob2 C ks l1 l2) ds)
    (k : ∀ y d σ' H', post (.ob2 C ks l1 l2) ds y d → At X.K T bs (Γ.set i (.own m y)) σ' H' → De.nx σ' H') (hn : (ks.any fun k => f == k) = false := by decide)
    (hi : X.N[i]? = some x := by rfl) (hx : Vis X.env.scope x := by first | exact Or.inl rfl | exact Or.inr (Or.inl rfl) | exact Or.inr (Or.inr rfl)) (hd : (x == ("__debug__" : Str)) = false := by decide) (hcd : (x == ("__classdict__" : Str)) = false := by decide)
    (hst : starEach (e :: es) X.env = (false, eval e X.env) :: starEach es X.env := by rfl) (hpl : (backTo cpos (starEach es X.env)).any (·.1) = false := by rfl)
    (ht : eval (.Call (.Attribute (.Name x p) f apos) (e :: es) [] cpos) X.env = (eval (.Name x p) X.env >>= fun ov => standAt apos.atName >>= fun _ => holding [ov] (getMethod ov f pl) >>= fun z => callWith cpos z.1 z.2 (backTo cpos (starEach (e :: es) X.env)) (backToKw cpos (keywordEach [] X.env))) := by rfl)
    (hs : swapsWith (.Call (.Attribute (.Name x p) f apos) (e :: es) [] cpos) none pos.line X.env = pure false := by rfl) : rS X (.Expr (.Call (.Attribute (.Name x p) f apos) (e :: es) [] cpos) pos) De σ H := by
  obtain ⟨W, ft, a⟩ := h
  obtain ⟨q, hq, hW, _, _, own⟩ := a.ow i m _ ho
  obtain ⟨dx, fs, qs, vs, _, _, g1, g2, _⟩ := id own
  obtain ⟨fa, fd, ps, c, hm, hb, ok⟩ := F
  refine of_ps (ps_expr (pe_meth (pl := pl) (pe_var hi hx hd hcd) c hm ok hr hb .nil pass0 pa_r (E := E0) hst hpl ht) hs) ⟨.ref q, hq, q, dx, fs, rfl, g1, fNo_rep g2 hn, ha W σ H a.pr _ fun us H1 e1 r1 => ?_⟩
  have a1 := a.ex e1
  obtain ⟨q', hq', hW', _, _, own'⟩ := a1.ow i m _ ho
  rw [hq] at hq'
  cases hq'
  refine ⟨W, ft i, q, _, ds, us ++ [], rfl, hp, a1.al, a1.tb, hW, own', by rw [List.append_nil]; exact r1, fun y d v H' W' ft' hy mx al' sub new hf hn own2 _ => ?_⟩
  exact k y d _ _ hy ⟨W', _, a1.call ho hq mx al' sub new hf hn own2⟩
/-- x, y = C(e, ..), [] -/
theorem s_parMk (F : MkW X.prog X.w X.K X.mg X.base T z C lv pre post) (hr : Room (lv + 1) X.A) (h : At X.K T bs Γ σ H) (hc : X.calm = true) (hN : X.N.Nodup) (ha : As X T (sh Γ) (e :: es) ds) (hp : pre (.ob2 C [] [] []) ds) (hno : ∀ y d, post (.ob2 C [] [] []) ds y d → d = .no)
    (k : ∀ o d σ' H', post (.ob2 C [] [] []) ds o d → At X.K T bs ((Γ.set i (.own 0 o)).set j (.own 0 (.lst []))) σ' H' → De.nx σ' H')
    (hw : swappedStores [.Tuple [.Name x px, .Name y py] kt pt] (.Tuple [.Call (.Name z p) (e :: es) [] cpos, .List [] lp] k2 pt2) X.env = pure (some [x, y])) (hi : X.N[i]? = some x := by rfl) (hj : X.N[j]? = some y := by rfl) (hij : i ≠ j := by decide) (hx : X.env.scope.names.lookup x = some .local := by rfl) (hy : X.env.scope.names.lookup y = some .local := by rfl)
    (hg : Gl X z := by rfl) (hdb : (z == ("__debug__" : Str)) = false := by decide) (he : starEach (e :: es) X.env = (false, eval e X.env) :: starEach es X.env := by rfl) (hpl : (backTo cpos (starEach es X.env)).any (·.1) = false := by rfl)
    (hs : swapsWithSole [.Tuple [.Name x px, .Name y py] kt pt] (.Tuple [.Call (.Name z p) (e :: es) [] cpos, .List [] lp] k2 pt2) pos.line X.env = pure false := by rfl)
    (h1 : starEach [.Call (.Name z p) (e :: es) [] cpos, .List [] lp] X.env = (false, eval (.Call (.Name z p) (e :: es) [] cpos) X.env) :: starEach [.List [] lp] X.env := by rfl) (h2 : starEach [.List [] lp] X.env = (false, eval (.List [] lp) X.env) :: starEach [] X.env := by rfl) :
    rS X (.Assign [.Tuple [.Name x px, .Name y py] kt pt] (.Tuple [.Call (.Name z p) (e :: es) [] cpos, .List [] lp] k2 pt2) pos) De σ H := by
  obtain ⟨W, ft, a⟩ := h
  obtain ⟨fa, fd, ps, hmg, M, hb, ok⟩ := F
  refine of_ps (ps_par hc hN hi hj hij hx hy pa_r hw hs) (cons_eval h1 (of_pe (pe_make M ok hr hg hmg hb .nil pass0 pa_r (E := E0) hdb he hpl) (ha W σ H a.pr _ fun us H1 e1 r1 => fun q dx hq hdx hne => ?_)))
  have a1 := a.ex e1
  have eH : Ex T H1 (upd (upd H1 dx (.own q)) q (.ins C dx [])) := (Ex.new hdx).trans (Ex.new (by rw [upd_ne (Ne.symm hne)]; exact hq))
  have nq := Nw.of hq
  generalize hH2 : upd (upd H1 dx (.own q)) q (.ins C dx []) = H2 at eH
  have hq2 : H2 q = some (.ins C dx []) := by rw [← hH2, upd_same]
  refine ⟨q :: W, [q], q, _, ds, us ++ [], rfl, hp, ?_, eH.tb a1.tb, fun r hr => by rw [List.mem_singleton.mp hr]; exact List.mem_cons_self, ⟨dx, [], [], [], rfl, by simp, hq2, rfl, rfl, .nil, rfl⟩, by rw [List.append_nil]; exact r1.go (Mx.of eH) (cons_new nq), fun o d v H' W' ft' ho mx al' sub new hf hn own r => ?_⟩
  · intro r hr
    rcases List.mem_cons.mp hr with zz | zz
    · exact ⟨_, by rw [zz]; exact hq2, fun ps w => by cases w⟩
    · exact (a1.al.ex eH) r zz
  · have hv : v = .non := by
      rw [hno o d ho] at r
      exact r
    refine ⟨hv, ?_⟩
    have e2 : Ex T H1 H' := (Mx.late (V := []) (Mx.of eH) mx fun r hr => .inr (by rw [List.mem_singleton.mp hr]; exact nq)).ex
    have nf : ∀ r ∈ ft', Nw H1 r := fun r hr => by
      rcases hn r hr with w | w
      · rw [List.mem_singleton.mp w]; exact nq
      · exact w.back eH
    have own2 : OwnAt X.K (ft' ++ W) H' q ft' o := own.go (T := T) (H := H') Mx.refl (fun r hr => by
      rcases List.mem_append.mp hr with w | w
      · exact .inl (hf r w)
      · exact .inl (sub r (List.mem_cons_of_mem _ w))) fun _ _ o ho _ => ho
    refine cons_eval h2 (of_pe (pe_lst pa_nil) ⟨by simp, fun t ht => nil_eval ⟨.ref q, .ref t, rfl, ?_⟩⟩)
    have b1 := AtV.putOwn (i := i) a1 nf e2 own2
    have b2 := AtW.putOwn (i := j) (l := []) (xs := []) ⟨_, b1⟩ (Nw.of ht) (Ex.new ht) upd_same .nil
    exact k o d _ _ ho ⟨_, b2⟩
/-- x, y = C(e, ..), [], by way of a tuple -/
theorem s_parMkT (F : MkW X.prog X.w X.K X.mg X.base T z C lv pre post) (hr : Room (lv + 1) X.A) (h : At X.K T bs Γ σ H) (hc : X.calm = true) (hN : X.N.Nodup) (ha : As X T (sh Γ) (e :: es) ds) (hp : pre (.ob2 C [] [] []) ds) (hno : ∀ y d, post (.ob2 C [] [] []) ds y d → d = .no)
    (k : ∀ o d σ' H', post (.ob2 C [] [] []) ds o d → At X.K T bs ((Γ.set i (.own 0 o)).set j (.own 0 (.lst []))) σ' H' → De.nx σ' H')
    (hw : swappedStores [.Tuple [.Name x px, .Name y py] kt pt] (.Tuple [.Call (.Name z p) (e :: es) [] cpos, .List [] lp] k2 pt2) X.env = pure none := by rfl) (hi : X.N[i]? = some x := by rfl) (hj : X.N[j]? = some y := by rfl) (hx : Loc X.env.scope x := by first | exact Or.inl rfl | exact Or.inr rfl) (hy : Loc X.env.scope y := by first | exact Or.inl rfl | exact Or.inr rfl) (hfx : X.fn x = true ∨ X.env.scope.names.lookup x = some .local := by first | exact .inl rfl | exact .inr rfl) (hfy : X.fn y = true ∨ X.env.scope.names.lookup y = some .local := by first | exact .inl rfl | exact .inr rfl)
    (hn2 : (assignEach [.Name x px, .Name y py] X.env).length = 2 := by rfl) (hst2 : (assignEach [.Name x px, .Name y py] X.env).findIdx? (·.1) = none := by rfl)
    (hs3 : (assignEach [.Name x px, .Name y py] X.env).map (·.2) = assign (.Name x px) X.env :: (assignEach [.Name y py] X.env).map (·.2) := by rfl) (hs4 : (assignEach [.Name y py] X.env).map (·.2) = assign (.Name y py) X.env :: (assignEach [] X.env).map (·.2) := by rfl)
    (hs5 : (assignEach [.Tuple [.Name x px, .Name y py] kt pt] X.env).map (·.2) = [assign (.Tuple [.Name x px, .Name y py] kt pt) X.env] := by rfl)
    (hg : Gl X z := by rfl) (hdb : (z == ("__debug__" : Str)) = false := by decide) (he : starEach (e :: es) X.env = (false, eval e X.env) :: starEach es X.env := by rfl) (hpl : (backTo cpos (starEach es X.env)).any (·.1) = false := by rfl)
    (hs : swapsWithSole [.Tuple [.Name x px, .Name y py] kt pt] (.Tuple [.Call (.Name z p) (e :: es) [] cpos, .List [] lp] k2 pt2) pos.line X.env = pure false := by rfl)
    (h1 : starEach [.Call (.Name z p) (e :: es) [] cpos, .List [] lp] X.env = (false, eval (.Call (.Name z p) (e :: es) [] cpos) X.env) :: starEach [.List [] lp] X.env := by rfl) (h2 : starEach [.List [] lp] X.env = (false, eval (.List [] lp) X.env) :: starEach [] X.env := by rfl) :
    rS X (.Assign [.Tuple [.Name x px, .Name y py] kt pt] (.Tuple [.Call (.Name z p) (e :: es) [] cpos, .List [] lp] k2 pt2) pos) De σ H := by
  obtain ⟨W, ft, a⟩ := h
  obtain ⟨fa, fd, ps, hmg, M, hb, ok⟩ := F
  refine of_ps (ps_asg (pe_tup pa_r) (pg_tup (n := 2) hc (pgs_cons (pg_name hN hi hx hfx) (pgs_cons (pg_name hN hj hy hfy) pgs_nil hs4) hs3) hn2 hst2) hs hw hs5) (cons_eval h1 (of_pe (pe_make M ok hr hg hmg hb .nil pass0 pa_r (E := E0) hdb he hpl) (ha W σ H a.pr _ fun us H1 e1 r1 => fun q dx hq hdx hne => ?_)))
  have a1 := a.ex e1
  have eH : Ex T H1 (upd (upd H1 dx (.own q)) q (.ins C dx [])) := (Ex.new hdx).trans (Ex.new (by rw [upd_ne (Ne.symm hne)]; exact hq))
  have nq := Nw.of hq
  generalize hH2 : upd (upd H1 dx (.own q)) q (.ins C dx []) = H2 at eH
  have hq2 : H2 q = some (.ins C dx []) := by rw [← hH2, upd_same]
  refine ⟨q :: W, [q], q, _, ds, us ++ [], rfl, hp, ?_, eH.tb a1.tb, fun r hr => by rw [List.mem_singleton.mp hr]; exact List.mem_cons_self, ⟨dx, [], [], [], rfl, by simp, hq2, rfl, rfl, .nil, rfl⟩, by rw [List.append_nil]; exact r1.go (Mx.of eH) (cons_new nq), fun o d v H' W' ft' ho mx al' sub new hf hn own r => ?_⟩
  · intro r hr
    rcases List.mem_cons.mp hr with zz | zz
    · exact ⟨_, by rw [zz]; exact hq2, fun ps w => by cases w⟩
    · exact (a1.al.ex eH) r zz
  · have hv : v = .non := by
      rw [hno o d ho] at r
      exact r
    refine ⟨hv, ?_⟩
    have e2 : Ex T H1 H' := (Mx.late (V := []) (Mx.of eH) mx fun r hr => .inr (by rw [List.mem_singleton.mp hr]; exact nq)).ex
    have nf : ∀ r ∈ ft', Nw H1 r := fun r hr => by
      rcases hn r hr with w | w
      · rw [List.mem_singleton.mp w]; exact nq
      · exact w.back eH
    have own2 : OwnAt X.K (ft' ++ W) H' q ft' o := own.go (T := T) (H := H') Mx.refl (fun r hr => by
      rcases List.mem_append.mp hr with w | w
      · exact .inl (hf r w)
      · exact .inl (sub r (List.mem_cons_of_mem _ w))) fun _ _ o ho _ => ho
    refine cons_eval h2 (of_pe (pe_lst pa_nil) ⟨by simp, fun t ht => nil_eval ⟨Nat.le_of_ble_eq_true rfl, fun tp htp => ?_⟩⟩)
    have b1 := AtV.putOwn (i := i) a1 nf e2 own2
    have b2 := AtW.putOwn (i := j) (l := []) (xs := []) ⟨_, b1⟩ (Nw.of ht) (Ex.new ht) upd_same .nil
    exact ⟨tp, [.ref q, .ref t], rfl, .inl (.inl upd_same), rfl, .ref q, [.ref t], rfl, .ref t, [], rfl, rfl, k o d _ _ ho ⟨_, b2.ex (Ex.new htp)⟩⟩
end
end Dv
/-! ## WM -/
set_option maxHeartbeats 4000000
namespace Ev31
open PySem PySem.Spec PyProof.Rows L2 Gx Dv
section
variable {P : Program} {w : World} {K : PySem.W.Frag} {mg : Str → Option Value} {base h : Heap}
theorem sh_of {Δ : List Sl} {i : Nat} {x : D} (h : Δ[i]? = some (.d x)) : (sh Δ)[i]? = some (some x) := by
  rw [List.getElem?_map, h]
  rfl
theorem work_yes {S : Lk} {k : Nat} (h : k < S.ts.length) (e : decide (V.int ((uAt S.units k : Nat) + 1 : Nat) = V.int S.ts[k].1) = true) : S.work k = { S with done := S.done.set k (uAt S.done k + 1), units := S.units.set k 0 } := by
  have e := of_decide_eq_true e
  unfold Lk.work
  rw [cost_get h, if_pos (by injection e with e)]
theorem work_no {S : Lk} {k : Nat} (h : k < S.ts.length) (e : decide (V.int ((uAt S.units k : Nat) + 1 : Nat) = V.int S.ts[k].1) = false) : S.work k = { S with units := S.units.set k (uAt S.units k + 1) } := by
  have e := of_decide_eq_false e
  unfold Lk.work
  rw [cost_get h, if_neg (fun z => e (by rw [← z]; rfl))]
abbrev n_Locked___init__ : List Str := ["self", "tasks", "pattern", "protocol", "task"]
theorem sc_Locked___init__ : FnScope n_Locked___init__ ["self", "tasks", "pattern", "protocol"] (defScope m_init) := ⟨rfl, rfl, rfl, by decide +kernel, rfl, by decide +kernel, by decide +kernel⟩
theorem ok___init__ (g : Pg w K mg base h) {ts : List Task} {pat : List (List Int)} {pr : Str} (gt : GoodTs ts) : MkW P w K mg base (TT K) "Locked" (LkA K) 7 (fun x ds => x = .ob2 (LkA K) [] [] [] ∧ ds = [eTasks ts, ePat pat, .str pr]) (fun _ _ y d => d = .no ∧ y = oLk (LkA K) (Lk.new ts pat pr)) := by
  have c_ceilings_of : FnC P w K mg base (TT K) "ceilings_of" 6 R_ceilings_of := ok_ceilings_of g
  obtain ⟨fd, F⟩ := g.d___init__
  refine mkW_of F g.a_Locked g.makes sc_Locked___init__ (fun x ds ⟨_, e⟩ => by rw [e]; rfl) (fun _ _ _ _ _ _ us hl => match us, hl with | [_, _, _, _], _ => rfl) ?_
  rintro cdv A outer s H0 Q Ex0 x ds W ft p hcd hr ⟨rfl, rfl⟩ hq σ H hat
  have hu := hu_of hr
  have nd := sc_Locked___init__.nd
  have hm := gt.most
  have h0 : At K (TT K) [⟨ft, H0, W, some p⟩] [.own 1 (.ob2 (LkA K) [] [] []), .d (eTasks ts), .d (ePat pat), .d (.str pr), .un] σ H := hat
  refine ss_cons (s_fldS (i := 0) g.cls g.n_tasks h0 rfl (ee_sh (vr 1 rfl)) (by decide) (by decide) (fun σ H h1 => ?_) rfl)
  refine ss_cons (s_fldS (i := 0) g.cls g.n_pattern h1 rfl (ee_sh (vr 2 rfl)) (by decide) (by decide) (fun σ H h2 => ?_) rfl)
  refine ss_cons (s_fldS (i := 0) g.cls g.n_protocol h2 rfl (ee_sh (vr 3 rfl)) (by decide) (by decide) (fun σ H h3 => ?_) rfl)
  refine ss_cons (s_fldS (i := 0) g.cls g.n_tops h3 rfl (ee_sh (e_call c_ceilings_of (hr.mono (by decide)) (as_cons (vr 1 rfl) as_nil) ⟨ts, rfl, rfl, by omega, fun t ht => by have := (gt.all t ht).few; omega⟩)) (by decide) (by decide) (fun σ H h4 => ?_) rfl)
  refine ss_cons (s_fldN (i := 0) g.cls g.n_done h4 rfl (nn_sh (n_lc' [("task", 4)] ts eTask (fun a => [(4, eTask a)]) (fun _ => true) (fun _ => eNat 0) rfl nd (blk_of (by kernel_rfl)) (by omega) (i_tup (vr 1 rfl)) (fun a ha s H C cl fp => gd_name 4 nd) (fun a ha s H C cl fp => bs_nil) (fun a ha hb s H C cl fp => e_int))) (by decide) (by decide) (fun σ H h5 => ?_) rfl)
  refine ss_cons (s_fldN (i := 0) g.cls g.n_units h5 rfl (nn_sh (n_lc' [("task", 4)] ts eTask (fun a => [(4, eTask a)]) (fun _ => true) (fun _ => eNat 0) rfl nd (blk_of (by kernel_rfl)) (by omega) (i_tup (vr 1 rfl)) (fun a ha s H C cl fp => gd_name 4 nd) (fun a ha s H C cl fp => bs_nil) (fun a ha hb s H C cl fp => e_int))) (by decide) (by decide) (fun σ H h6 => ?_) rfl)
  refine ss_nil ?_
  obtain ⟨W', a⟩ := h6
  refine finW (d := .no) (d' := .no) (y := oLk (LkA K) (Lk.new ts pat pr)) hq ?_ ⟨rfl, rfl⟩ rfl .non _ W' a rfl
  rw [Dv.filter_all]
  unfold oLk Lk.new
  simp only [List.map_map]
  rfl
abbrev n_Locked_work : List Str := ["self", "task"]
theorem sc_Locked_work : FnScope n_Locked_work ["self", "task"] (defScope m_work) := ⟨rfl, rfl, rfl, by decide +kernel, rfl, by decide +kernel, by decide +kernel⟩
theorem ok_work (g : Pg w K mg base h) {S : Lk} {k : Nat} (ok : S.Ok) (hk : k < S.ts.length) : MtW P w K mg base (TT K) (LkA K) "work" 1 (fun x ds => x = oLk (LkA K) S ∧ ds = [.int (k : Nat)]) (fun _ _ y d => d = .no ∧ y = oLk (LkA K) (S.work k)) := by
  obtain ⟨fd, F⟩ := g.d_work
  refine mtW_of F g.cls g.a_work sc_Locked_work (fun x ds ⟨_, e⟩ => by rw [e]; rfl) (fun _ _ _ _ _ _ us hl => match us, hl with | [_, _], _ => rfl) ?_
  rintro cdv A outer s H0 Q Ex0 x ds W ft p hcd hr ⟨rfl, rfl⟩ hq σ H hat
  have hu := hu_of hr
  have nd := sc_Locked_work.nd
  have h0 : At K (TT K) [⟨ft, H0, W, some p⟩] [.own 1 (oLk (LkA K) S), .d (.int k)] σ H := hat
  have lu : k < S.units.length := by rw [ok.units]; exact hk
  have ld : k < S.done.length := by rw [ok.done]; exact hk
  have eu := uAt_get (us := S.units) (k := k) lu
  have ek := get_ix hk
  refine ss_cons (s_fset (i := 0) (j := 1) (t := k) (d := eNat (uAt S.units k + 1)) g.cls g.n_units h0 rfl rfl rfl (show ∀ n, n < 5 → flds[n]? ≠ some ("units" : Str) by decide) (ee_al (E.eq (e_add (e_ix hu (e_fld g.cls g.n_units (vr 0 rfl) rfl) (vr 1 rfl) (ix_lst eu)) e_int) (by rfl))) (ee_sh (vr 1 rfl)) (by simpa using lu) (fun σ H h1 => ?_))
  obtain ⟨u', hu'⟩ : ∃ u', u' = S.units.set k (uAt S.units k + 1) := ⟨_, rfl⟩
  rw [set_eNat, ← hu'] at h1
  have lu' : k < u'.length := by rw [hu', List.length_set]; exact lu
  have eu' : u'[k]? = some (uAt S.units k + 1) := by rw [hu', List.getElem?_set_self lu]
  have ed := uAt_get (us := S.done) (k := k) ld
  refine ss_cons (s_if h1 (b_eq (e_ix hu (e_fld g.cls g.n_units (vr 0 rfl) rfl) (vr 1 rfl) (ix_lst eu')) (e_ix hu (e_ix hu (e_fld g.cls g.n_tasks (vr 0 rfl) rfl) (vr 1 rfl) (ix_tup ek)) e_int rfl)) (fun hb σ H h2 => ?_) fun hb σ H h2 => ?_)
  · refine ss_cons (s_fset2 (i := 0) (j := 0) (j2 := 1) (t := k) (t2 := k) (da := eNat (uAt S.done k + 1)) (db := eNat 0) rfl g.cls g.n_done g.n_units h2 rfl rfl rfl (show ∀ n, n < 4 → flds[n]? ≠ some ("done" : Str) by decide) rfl rfl (show ∀ n, n < 5 → flds[n]? ≠ some ("units" : Str) by decide) (by decide)
      (ee_al (e_tup (as_cons (E.eq (e_add (e_ix hu (e_fld g.cls g.n_done (vr 0 rfl) rfl) (vr 1 rfl) (ix_lst ed)) e_int) (by rfl)) (as_cons e_int as_nil)))) (fun Δ hΔ => ⟨ee_sh (vr 1 (sh_of ((hΔ 1 (by decide)).trans rfl))), ee_sh (vr 1 (sh_of ((hΔ 1 (by decide)).trans rfl)))⟩) (by simpa using ld) (by simpa using lu') (fun σ H h3 => ?_))
    refine ss_nil (ss_nil ?_)
    obtain ⟨W', a⟩ := h3
    refine finW (d := .no) (d' := .no) (y := oLk (LkA K) (S.work k)) hq ?_ ⟨rfl, rfl⟩ rfl .non _ W' a rfl
    rw [work_yes hk hb]
    rw [hu']
    show some (Sl.own 1 (.ob2 (LkA K) flds _ [(S.done.map eNat).set k (eNat (uAt S.done k + 1)), ((S.units.set k (uAt S.units k + 1)).map eNat).set k (eNat 0)])) = _
    rw [set_eNat, set_eNat, List.set_set]
    rfl
  · refine ss_nil (ss_nil ?_)
    obtain ⟨W', a⟩ := h2
    refine finW (d := .no) (d' := .no) (y := oLk (LkA K) (S.work k)) hq ?_ ⟨rfl, rfl⟩ rfl .non _ W' a rfl
    rw [work_no hk hb, hu']
    rfl
end
end Ev31
/-! ## M6 -/
set_option maxHeartbeats 4000000
/-! The run of the program, plain. -/
namespace Ev31
open PySem L2 Dv
/-- the task that runs in a unit of time, none if none does -/
def next (S : Lk) (now : Nat) : Option Nat := pick S.pr S.ts S.units (ready S.pat S.done now)
def Lk.turn (S : Lk) : Option Nat → Lk
  | none => S
  | some k => S.work k
def loop : Nat → Lk → List (Option Nat) → Lk × List (Option Nat)
  | 0, S, f => (S, f)
  | n + 1, S, f => if over S.pat S.done then (S, f) else if (next S f.length).isNone && !later S.pat f.length then (S, f) else loop n (S.turn (next S f.length)) (f ++ [next S f.length])
def trim (f : List (Option Nat)) : List (Option Nat) := (f.reverse.dropWhile (·.isNone)).reverse
def lens (pat : List (List Int)) (done : List Nat) : List Nat := (pat.zipIdx.filter fun q => decide (((uAt done q.2 : Nat) : Int) < ((q.1.length : Nat) : Int))).map (·.2)
def runP (n : Nat) (S : Lk) : List (Option Nat) × List Nat := (trim (loop n S []).2, lens S.pat (loop n S []).1.done)
/-! it comes to an end -/
structure Lk.In (S : Lk) : Prop where
  ok : S.Ok
  low : ∀ k, k < S.ts.length → ((uAt S.units k : Nat) : Int) < cost S.ts k
def lastA (pat : List (List Int)) : Nat := (pat.flatten.map Int.toNat).foldr max 0
def restAt (pat : List (List Int)) (done units : List Nat) (k : Nat) : Nat := 21 * ((pat.getD k []).length - uAt done k) - uAt units k
def rest (S : Lk) : Nat := ((List.range S.ts.length).map (restAt S.pat S.done S.units)).sum
def mu (S : Lk) (now : Nat) : Nat := rest S + (lastA S.pat - now)
theorem uAt_set {us : List Nat} {k j v : Nat} (h : k < us.length) : uAt (us.set k v) j = if k = j then v else uAt us j := by
  unfold uAt
  rw [List.getD_eq_getElem?_getD, List.getD_eq_getElem?_getD, List.getElem?_set]
  split
  · rename_i e
    subst e
    simp [h]
  · rfl
theorem sum_lt {f g : Nat → Nat} {k : Nat} : ∀ {l : List Nat}, (∀ j ∈ l, g j ≤ f j) → k ∈ l → g k < f k → (l.map g).sum < (l.map f).sum
  | [], _, h, _ => by cases h
  | a :: l, hle, h, hlt => by
    have h0 := hle a List.mem_cons_self
    have hle' : ∀ j ∈ l, g j ≤ f j := fun j hj => hle j (List.mem_cons_of_mem _ hj)
    simp only [List.map_cons, List.sum_cons]
    have le : ∀ {l : List Nat}, (∀ j ∈ l, g j ≤ f j) → (l.map g).sum ≤ (l.map f).sum := by
      intro l
      induction l with
      | nil => intro _; simp
      | cons b l ih =>
        intro hh
        have := hh b List.mem_cons_self
        have := ih fun j hj => hh j (List.mem_cons_of_mem _ hj)
        simp only [List.map_cons, List.sum_cons]
        omega
    rcases List.mem_cons.mp h with e | h
    · subst e
      have := le hle'
      omega
    · have := sum_lt hle' h hlt
      omega
theorem foldr_max {l : List Nat} {a : Nat} (h : a ∈ l) : a ≤ l.foldr max 0 := by
  induction l with
  | nil => cases h
  | cons b l ih =>
    simp only [List.foldr_cons]
    rcases List.mem_cons.mp h with e | h
    · subst e
      omega
    · have := ih h
      omega
theorem later_lt {pat : List (List Int)} {now : Nat} (h : later pat now = true) : now < lastA pat := by
  unfold later at h
  rw [List.any_eq_true] at h
  obtain ⟨a, ha, h⟩ := h
  rw [List.any_eq_true] at h
  obtain ⟨x, hx, h⟩ := h
  have h := of_decide_eq_true h
  have : x.toNat ≤ lastA pat := foldr_max (List.mem_map.mpr ⟨x, List.mem_flatten.mpr ⟨a, ha, hx⟩, rfl⟩)
  omega
theorem next_ready {S : Lk} {now k : Nat} (h : next S now = some k) : k ∈ ready S.pat S.done now := by
  unfold next pick pickW at h
  have := argMin_mem h
  exact (List.mem_filter.mp this).1
end Ev31
/-! ## M7 -/
set_option maxHeartbeats 4000000
namespace Ev31
open PySem L2 Dv
theorem good_cost {ts : List Task} {k : Nat} (g : GoodTs ts) (h : k < ts.length) : 1 ≤ cost ts k ∧ cost ts k ≤ 20 := by
  have := (g.all _ (List.getElem_mem h)).cost
  rw [cost_get h]
  unfold isIn at this
  simp at this
  omega
theorem ready_get {pat : List (List Int)} {done : List Nat} {now k : Nat} (h : k ∈ ready pat done now) : k < pat.length ∧ uAt done k < (pat.getD k []).length := by
  unfold ready at h
  obtain ⟨h1, h2⟩ := List.mem_filter.mp h
  unfold rdy rdyA at h2
  rw [Bool.and_eq_true] at h2
  exact ⟨List.mem_range.mp h1, of_decide_eq_true h2.1⟩
theorem Lk.work_ts {S : Lk} {k : Nat} : (S.work k).ts = S.ts ∧ (S.work k).pat = S.pat ∧ (S.work k).pr = S.pr := by
  unfold Lk.work
  split <;> exact ⟨rfl, rfl, rfl⟩
theorem Lk.In.work {S : Lk} {k now : Nat} (h : S.In) (hk : k ∈ ready S.pat S.done now) : (S.work k).In ∧ rest (S.work k) < rest S := by
  obtain ⟨h1, h2⟩ := ready_get hk
  have hts : k < S.ts.length := by rw [← h.ok.pat.len]; exact h1
  have lu : k < S.units.length := by rw [h.ok.units]; exact hts
  have ld : k < S.done.length := by rw [h.ok.done]; exact hts
  have gc := good_cost h.ok.good hts
  have hlow := h.low k hts
  by_cases c : ((uAt S.units k : Nat) : Int) + 1 = cost S.ts k
  · have e : S.work k = { S with done := S.done.set k (uAt S.done k + 1), units := S.units.set k 0 } := by
      unfold Lk.work
      rw [if_pos c]
    refine ⟨⟨Lk.work_ok h.ok, fun j hj => ?_⟩, ?_⟩
    · rw [e] at hj ⊢
      show ((uAt (S.units.set k 0) j : Nat) : Int) < cost S.ts j
      rw [uAt_set lu]
      have := good_cost h.ok.good hj
      have := h.low j hj
      split <;> omega
    · rw [e]
      unfold rest
      refine sum_lt (k := k) (fun j _ => ?_) (List.mem_range.mpr hts) ?_
      · unfold restAt
        show 21 * ((S.pat.getD j []).length - uAt (S.done.set k (uAt S.done k + 1)) j) - uAt (S.units.set k 0) j ≤ _
        rw [uAt_set lu, uAt_set ld]
        split
        · rename_i z
          subst z
          omega
        · exact Nat.le_refl _
      · unfold restAt
        show 21 * ((S.pat.getD k []).length - uAt (S.done.set k (uAt S.done k + 1)) k) - uAt (S.units.set k 0) k < _
        rw [uAt_set lu, uAt_set ld, if_pos rfl, if_pos rfl]
        omega
  · have e : S.work k = { S with units := S.units.set k (uAt S.units k + 1) } := by
      unfold Lk.work
      rw [if_neg c]
    refine ⟨⟨Lk.work_ok h.ok, fun j hj => ?_⟩, ?_⟩
    · rw [e] at hj ⊢
      show ((uAt (S.units.set k (uAt S.units k + 1)) j : Nat) : Int) < cost S.ts j
      rw [uAt_set lu]
      have := h.low j hj
      split
      · rename_i z
        subst z
        omega
      · exact this
    · rw [e]
      unfold rest
      refine sum_lt (k := k) (fun j _ => ?_) (List.mem_range.mpr hts) ?_
      · unfold restAt
        show 21 * ((S.pat.getD j []).length - uAt S.done j) - uAt (S.units.set k (uAt S.units k + 1)) j ≤ _
        rw [uAt_set lu]
        split
        · rename_i z
          subst z
          omega
        · exact Nat.le_refl _
      · unfold restAt
        show 21 * ((S.pat.getD k []).length - uAt S.done k) - uAt (S.units.set k (uAt S.units k + 1)) k < _
        rw [uAt_set lu, if_pos rfl]
        omega
theorem turn_in {S : Lk} {now : Nat} (h : S.In) : (S.turn (next S now)).In := by
  cases e : next S now with
  | none => exact h
  | some k => exact (h.work (next_ready e)).1
theorem turn_mu {S : Lk} {now : Nat} (h : S.In) (hl : ((next S now).isNone && !later S.pat now) = false) : mu (S.turn (next S now)) (now + 1) < mu S now := by
  cases e : next S now with
  | none =>
    rw [e] at hl
    have hl : later S.pat now = true := by simpa using hl
    have := later_lt hl
    unfold mu
    show rest S + (lastA S.pat - (now + 1)) < _
    omega
  | some k =>
    have := (h.work (next_ready e)).2
    unfold mu
    show rest (S.work k) + (lastA (S.work k).pat - (now + 1)) < _
    rw [Lk.work_ts.2.1]
    omega
theorem new_in {ts : List Task} {pat : List (List Int)} {pr : Str} (g : GoodTs ts) (p : GoodPat ts pat) (h : pr ∈ prots) : (Lk.new ts pat pr).In := ⟨Lk.new_ok g p h, fun k hk => by
  have hk : k < ts.length := hk
  have e : uAt (Lk.new ts pat pr).units k = 0 := by
    unfold uAt Lk.new
    rw [List.getD_eq_getElem?_getD, List.getElem?_map]
    cases ts[k]? <;> rfl
  rw [e]
  have := (good_cost g hk).1
  show (0 : Int) < cost ts k
  omega⟩
/-! trim -/
theorem trim_nil : trim [] = [] := rfl
theorem trim_snoc {f : List (Option Nat)} {x : Option Nat} : trim (f ++ [x]) = if x.isNone then trim f else f ++ [x] := by
  unfold trim
  rw [List.reverse_append]
  show (List.dropWhile _ (x :: f.reverse)).reverse = _
  rw [List.dropWhile_cons]
  cases x <;> simp
end Ev31
namespace Ev31
open PySem L2 Dv
def lastO (f : List (Option Nat)) : Option Nat := f.getLast?.getD none
theorem ix_last {f : List (Option Nat)} (h : f ≠ []) : ixF (.lst (f.map eOpt)) (.int (-1)) = some (eOpt (lastO f)) := by
  have hp : 0 < f.length := List.length_pos_iff.mpr h
  show atI (f.map eOpt) (-1) = _
  unfold atI ixN
  rw [if_neg (by decide), if_pos (by rw [List.length_map]; omega)]
  show (f.map eOpt)[((-1 : Int) + ((f.map eOpt).length : Nat)).toNat]? = _
  rw [List.length_map, show ((-1 : Int) + (f.length : Nat)).toNat = f.length - 1 by omega, List.getElem?_map, lastO, List.getLast?_eq_getElem?, List.getElem?_eq_getElem (by omega)]
  rfl
theorem drop_eOpt {f : List (Option Nat)} : (f.map eOpt).dropLast = f.dropLast.map eOpt := by
  rw [List.dropLast_eq_take, List.dropLast_eq_take, List.map_take, List.length_map]
theorem snoc_last {f : List (Option Nat)} (h : f ≠ []) : f = f.dropLast ++ [lastO f] := by
  have e := List.dropLast_concat_getLast h
  unfold lastO
  rw [List.getLast?_eq_some_getLast h]
  exact e.symm
theorem trim_yes {f : List (Option Nat)} (h : (!f.isEmpty && (lastO f).isNone) = true) : f ≠ [] ∧ trim f.dropLast = trim f := by
  rw [Bool.and_eq_true] at h
  have hf : f ≠ [] := by
    intro z
    rw [z] at h
    exact absurd h.1 (by decide)
  refine ⟨hf, ?_⟩
  conv => rhs; rw [snoc_last hf, trim_snoc, if_pos h.2]
theorem trim_no {f : List (Option Nat)} (h : (!f.isEmpty && (lastO f).isNone) = false) : trim f = f := by
  by_cases hf : f = []
  · rw [hf]
    rfl
  · have h2 : (lastO f).isNone = false := by
      cases f with
      | nil => exact absurd rfl hf
      | cons a f => simpa using h
    conv => lhs; rw [snoc_last hf, trim_snoc, if_neg (by rw [h2]; exact Bool.false_ne_true), ← snoc_last hf]
theorem zip_mem2 {pat : List (List Int)} {q : List Int × Nat} (h : q ∈ pat.zipIdx) : q.2 < pat.length := by
  obtain ⟨a, k⟩ := q
  have := List.mem_zipIdx h
  simp at this
  exact this.1
end Ev31
/-! ## DvT -/
set_option maxHeartbeats 4000000
/-! Judgements by data: pop, a negative number. -/
namespace Dv
open PySem PySem.Spec PyProof.Rows L2 Gx
theorem Reps.dropLast {K : PySem.W.Frag} {W : List Addr} {H : Hp} : ∀ {l : List D} {xs : List V}, Reps K W H l xs → Reps K W H l.dropLast xs.dropLast
  | [], xs, h => by
    have h : xs = [] := h
    rw [h]
    exact .nil
  | [d], xs, h => by
    obtain ⟨x, r, rfl, rx, rr⟩ := h
    have rr : r = [] := rr
    rw [rr]
    exact .nil
  | d :: d2 :: l, xs, h => by
    obtain ⟨x, r, rfl, rx, rr⟩ := h
    obtain ⟨x2, r2, rfl, rx2, rr2⟩ := id rr
    exact .cons rx rr.dropLast
section
variable {X : Cx} {T : TbL} {De : Ends} {bs : List Bas} {Γ : List Sl} {G : List (Option D)} {σ : L2.St} {H : Hp} {a : Expr} {l : List D} {i m : Nat} {n : Int} {x : Str} {pos p apos cpos : Pos}
theorem e_neg (h : E X T G a (.int n)) : E X T G (.UnaryOp .USub a pos) (.int (-n)) := fun W σ H P Q k => of_pe (pe_un un_neg pe_r) (h W σ H P _ fun v H1 e1 r1 => by
  have r1 : v = .int n := r1
  rw [r1]
  exact ⟨n, rfl, k _ H1 e1 rfl⟩)
/-- x.pop() -/
theorem s_pop (h : At X.K T bs Γ σ H) (ho : Γ[i]? = some (.own m (.lst l))) (hz : l ≠ []) (k : ∀ σ' H', At X.K T bs (Γ.set i (.own m (.lst l.dropLast))) σ' H' → De.nx σ' H') (hi : X.N[i]? = some x := by rfl) (hx : Vis X.env.scope x := by first | exact Or.inl rfl | exact Or.inr (Or.inl rfl) | exact Or.inr (Or.inr rfl))
    (hd : (x == ("__debug__" : Str)) = false := by decide) (hcd : (x == ("__classdict__" : Str)) = false := by decide) (hs : swapsWith (.Call (.Attribute (.Name x p) "pop" apos) [] [] cpos) none pos.line X.env = pure false := by rfl)
    (hbase : attributeBase (.Name x p) "pop" X.env (eval (.Name x p) X.env) = eval (.Name x p) X.env := by rfl) (hline : (apos.endLine == cpos.line) = true := by rfl) :
    rS X (.Expr (.Call (.Attribute (.Name x p) "pop" apos) [] [] cpos) pos) De σ H := by
  obtain ⟨W, a⟩ := h
  obtain ⟨q, xs, hq, hxs, hr⟩ := a.own ho
  have hlen := hr.length
  have hpos : 0 < l.length := List.length_pos_iff.mpr hz
  have hy : xs[xs.length - 1]? = some xs[xs.length - 1] := List.getElem?_eq_getElem (by omega)
  refine of_ps (ps_expr (pe_bm0 PySem.F.plainAttrs_list PySem.F.slot_list_pop PySem.F.type_list_pop mt_pop (pe_var hi hx hd hcd) hbase hline) hs) ⟨.ref q, hq, own_tyV hxs, ?_⟩
  exact ⟨q, xs, _, rfl, rfl, hxs, hy, k _ _ ⟨W, a.mutL ho hq hr.dropLast⟩⟩
end
end Dv
/-! ## WN -/
set_option maxHeartbeats 4000000
namespace Ev31
open PySem PySem.Spec PyProof.Rows L2 Gx Dv
section
variable {P : Program} {w : World} {K : PySem.W.Frag} {mg : Str → Option Value} {base h : Heap}
theorem imm_eOpt {x : Option Nat} : imm (eOpt x) = true := by cases x <;> rfl
theorem isNo_eOpt {x : Option Nat} : isNo (eOpt x) = x.isNone := by cases x <;> rfl
theorem few_arr {ts : List Task} {p : List (List Int)} (g : GoodPat ts p) {a : List Int} (h : a ∈ p) : a.length ≤ 40 := by
  have hj := g.jobs
  have : ∀ {p : List (List Int)}, a ∈ p → ((a.length : Nat) : Int) ≤ (p.map fun a => ((a.length : Nat) : Int)).sum := by
    intro p
    induction p with
    | nil => intro h; cases h
    | cons b p ih =>
      intro h
      simp only [List.map_cons, List.sum_cons]
      have nn : ∀ p : List (List Int), 0 ≤ (p.map fun a => ((a.length : Nat) : Int)).sum := by
        intro p
        induction p with
        | nil => simp
        | cons b p ih => simp only [List.map_cons, List.sum_cons]; omega
      rcases List.mem_cons.mp h with rfl | h
      · have := nn p
        omega
      · have := ih h
        omega
  have := this h
  omega
def R_locked_units (N : Nat) (ds : List D) (d : D) : Prop := ∃ (ts : List Task) (pat : List (List Int)) (pr : Str), ds = [eTasks ts, ePat pat, .str pr] ∧
  d = .tup [.lst ((runP N (Lk.new ts pat pr)).1.map eOpt), .lst ((runP N (Lk.new ts pat pr)).2.map eNat)] ∧ GoodTs ts ∧ GoodPat ts pat ∧ pr ∈ prots ∧ mu (Lk.new ts pat pr) 0 < N ∧ N ≤ 1000
abbrev n_locked_units : List Str := ["tasks", "pattern", "protocol", "state", "found", "now", "task", "k", "arrivals"]
theorem sc_locked_units : FnScope n_locked_units ["tasks", "pattern", "protocol"] (defScope s_locked_units) := ⟨rfl, rfl, rfl, by decide +kernel, rfl, by decide +kernel, by decide +kernel⟩
theorem ok_locked_units (g : Pg w K mg base h) (N : Nat) : FnC P w K mg base (TT K) "locked_units" 9 (R_locked_units N) := by
  have c_is_over : MtC P w K mg base (TT K) (LkA K) "is_over" 5 (R_is_over (LkA K)) := ok_is_over g
  have c_has_later : MtC P w K mg base (TT K) (LkA K) "has_later" 5 (R_has_later (LkA K)) := ok_has_later g
  have c_first : MtC P w K mg base (TT K) (LkA K) "first" 6 (R_first (LkA K)) := ok_first g
  obtain ⟨fd, F⟩ := g.d_locked_units
  refine fnC_of F g.a_locked_units sc_locked_units (fun ds d ⟨x0, x1, x2, e, _⟩ => by rw [e]; rfl) (fun _ _ _ _ _ _ us hl => match us, hl with | [_, _, _], _ => rfl) ?_
  intro cdv A outer s H0 Q Ex0 ds d W hcd hr hR hq σ H hat
  have hu := hu_of hr
  have nd := sc_locked_units.nd
  obtain ⟨ts, pat, pr, rfl, rfl, gt, gp, hpr, hmu, hN⟩ := hR
  have h0 : At K (TT K) [⟨[], H0, W, none⟩] [.d (eTasks ts), .d (ePat pat), .d (.str pr), .un, .un, .un, .un, .un, .un] σ H := hat
  refine ss_cons (s_parMkT (i := 3) (j := 4) (ok___init__ g gt) (hr.mono (by decide)) h0 rfl nd (as_cons (vr 0 rfl) (as_cons (vr 1 rfl) (as_cons (vr 2 rfl) as_nil))) ⟨rfl, rfl⟩ (fun _ _ z => z.1) (fun o d σ H ho h1 => ?_))
  obtain ⟨rfl, rfl⟩ := ho
  generalize hR : loop N (Lk.new ts pat pr) [] = R at hq
  refine ss_mid (M := fun σ H => At K (TT K) [⟨[], H0, W, none⟩] [.d (eTasks ts), .d (ePat pat), .d (.str pr), .own 0 (oLk (LkA K) R.1), .own 0 (.lst (R.2.map eOpt)), .un, .un, .un, .un] σ H ∧ R.1.In ∧ R.1.pat = pat ∧ R.2.length ≤ N)
    (s_while (S := Lk × List (Option Nat)) (fun s => s.1.In ∧ s.1.pat = pat ∧ s.1.ts = ts ∧ ∃ n, mu s.1 s.2.length < n ∧ loop n s.1 s.2 = R ∧ s.2.length + n = N)
    (fun s => [.d (eTasks ts), .d (ePat pat), .d (.str pr), .own 0 (oLk (LkA K) s.1), .own 0 (.lst (s.2.map eOpt)), .un, .un, .un, .un]) (fun s => mu s.1 s.2.length) (fun s => !over s.1.pat s.1.done) (Lk.new ts pat pr, []) h1 ⟨new_in gt gp hpr, rfl, rfl, N, hmu, hR, by simp⟩ ⟨rfl, rfl, rfl, rfl, rfl, trivial⟩
    (fun s is => b_not (b_val (e_meth0 c_is_over (hr.mono (by decide)) (vr 3 rfl) ⟨s.1, rfl, rfl, is.1.ok⟩))) (fun s σ H is hcb h2 => ?_) fun s σ H is hcb h2 => ?_) fun σ H hM => ?_
  · obtain ⟨hin, hpat, hts, n, hn, hl, hlen⟩ := is
    obtain ⟨n, rfl⟩ : ∃ n', n = n' + 1 := ⟨n - 1, by omega⟩
    unfold loop at hl
    rw [if_neg (by simpa using hcb)] at hl
    refine ss_cons (s_asg h2 (d := .int (s.2.length : Nat)) (ee_al (E.eq (e_len g.fr (vr 4 rfl)) (by rw [List.length_map]))) (fun σ H h3 => ?_) (i := 5) nd rfl (Or.inl rfl))
    refine ss_cons (s_asg h3 (d := eOpt (next s.1 s.2.length)) (ee_al (e_meth c_first (hr.mono (by decide)) (vr 3 rfl) (as_cons (vr 5 rfl) as_nil) ⟨s.1, s.2.length, rfl, rfl, hin.ok⟩) imm_eOpt) (fun σ H h4 => ?_) (i := 6) nd rfl (Or.inl rfl))
    refine ss_cons (s_if h4 (b := (next s.1 s.2.length).isNone && !later s.1.pat s.2.length) (B.eq (b_bw (bw_and (b_is (vr 6 rfl) e_no) fun _ => (bw_and1 (b_not (b_val (e_meth c_has_later (hr.mono (by decide)) (vr 3 rfl) (as_cons (vr 5 rfl) as_nil) ⟨s.1, s.2.length, rfl, rfl, by rw [hpat, gp.len]; have := gt.most; omega, fun a ha => by have := few_arr gp (hpat ▸ ha); omega⟩)))))) (by rw [isNo_eOpt])) (fun hb σ H h5 => ?_) fun hb σ H h5 => ?_)
    · rw [if_pos hb] at hl
      subst hl
      exact ss_cons (s_break ⟨h5.wk ⟨rfl, rfl, rfl, rfl, rfl, trivial⟩, hin, hpat, (show s.2.length ≤ N by omega)⟩)
    · rw [if_neg (by rw [hb]; exact Bool.false_ne_true)] at hl
      refine ss_nil ?_
      have tin := turn_in (now := s.2.length) hin
      have tmu := turn_mu hin hb
      cases hx : next s.1 s.2.length with
      | none =>
        rw [hx] at h5 hl tin tmu
        refine ss_cons (s_if h5 (b := false) (B.eq (b_isn (vr 6 rfl) e_no) rfl) (fun hb => nomatch hb) fun hb σ H h6 => ss_nil ?_)
        refine ss_cons (s_app h6 (i := 4) rfl (ee_sh (vr 6 rfl)) (by simp; omega) (fun σ H h7 => ?_) rfl (Or.inl rfl))
        refine ss_nil ⟨(s.1.turn none, s.2 ++ [none]), ⟨tin, hpat, hts, n, ?_, hl, ?_⟩, ?_, ?_⟩
        · simp only [List.length_append, List.length_singleton]; omega
        · simp only [List.length_append, List.length_singleton]; omega
        · simp only [List.length_append, List.length_singleton]; exact tmu
        · have h7 := h7.wk (Δ := [.d (eTasks ts), .d (ePat pat), .d (.str pr), .own 0 (oLk (LkA K) s.1), .own 0 (.lst (s.2.map eOpt ++ [eOpt none])), .un, .un, .un, .un]) ⟨rfl, rfl, rfl, rfl, rfl, trivial⟩
          rw [show s.2.map eOpt ++ [eOpt none] = (s.2 ++ [none]).map eOpt by simp] at h7
          exact h7
      | some k =>
        have hrd := ready_get (next_ready hx)
        have hk : k < s.1.ts.length := by rw [← hin.ok.pat.len]; exact hrd.1
        rw [hx] at h5 hl tin tmu
        refine ss_cons (s_if h5 (b := true) (B.eq (b_isn (vr 6 rfl) e_no) rfl) (fun _ σ H h6 => ?_) fun hb => nomatch hb)
        refine ss_cons (s_callW (i := 3) (ok_work g hin.ok hk) (hr.mono (by decide)) h6 rfl (as_cons (vr 6 rfl) as_nil) ⟨rfl, rfl⟩ (fun y d σ H hy h7 => ?_))
        obtain ⟨rfl, rfl⟩ := hy
        refine ss_nil ?_
        refine ss_cons (s_app h7 (i := 4) rfl (ee_sh (vr 6 rfl)) (by simp; omega) (fun σ H h8 => ?_) rfl (Or.inl rfl))
        refine ss_nil ⟨(s.1.turn (some k), s.2 ++ [some k]), ⟨tin, Lk.work_ts.2.1.trans hpat, Lk.work_ts.1.trans hts, n, ?_, hl, ?_⟩, ?_, ?_⟩
        · simp only [List.length_append, List.length_singleton]; omega
        · simp only [List.length_append, List.length_singleton]; omega
        · simp only [List.length_append, List.length_singleton]; exact tmu
        · have h8 := h8.wk (Δ := [.d (eTasks ts), .d (ePat pat), .d (.str pr), .own 0 (oLk (LkA K) (s.1.work k)), .own 0 (.lst (s.2.map eOpt ++ [eOpt (some k)])), .un, .un, .un, .un]) ⟨rfl, rfl, rfl, rfl, rfl, trivial⟩
          rw [show s.2.map eOpt ++ [eOpt (some k)] = (s.2 ++ [some k]).map eOpt by simp] at h8
          exact h8
  · obtain ⟨hin, hpat, hts, n, hn, hl, hlen⟩ := is
    obtain ⟨n, rfl⟩ : ∃ n', n = n' + 1 := ⟨n - 1, by omega⟩
    unfold loop at hl
    rw [if_pos (by simpa using hcb)] at hl
    subst hl
    exact ⟨h2, hin, hpat, (show s.2.length ≤ N by omega)⟩
  · obtain ⟨h2, hin, hpat, hlen⟩ := hM
    refine ss_mid (M := fun σ H => At K (TT K) [⟨[], H0, W, none⟩] [.d (eTasks ts), .d (ePat pat), .d (.str pr), .own 0 (oLk (LkA K) R.1), .own 0 (.lst ((trim R.2).map eOpt)), .un, .un, .un, .un] σ H)
      (s_while (S := List (Option Nat)) (fun f => trim f = trim R.2 ∧ f.length ≤ N) (fun f => [.d (eTasks ts), .d (ePat pat), .d (.str pr), .own 0 (oLk (LkA K) R.1), .own 0 (.lst (f.map eOpt)), .un, .un, .un, .un]) (fun f => f.length) (fun f => !f.isEmpty && (lastO f).isNone) R.2 h2 ⟨rfl, hlen⟩ ⟨rfl, rfl, rfl, rfl, rfl, trivial⟩
      (fun f is => B.eq (b_bw (bw_and (b_seq (vr 4 rfl) rfl) fun hb => (bw_and1 (b_is (e_ix hu (vr 4 rfl) (e_neg e_int) (ix_last (f := f) (by intro z; rw [z] at hb; cases hb))) e_no)))) (by rw [isNo_eOpt]; simp)) (fun f σ H is hcb h3 => ?_) fun f σ H is hcb h3 => ?_) fun σ H h4 => ?_
    · obtain ⟨hne, htr⟩ := trim_yes hcb
      refine ss_cons (s_pop (i := 4) h3 rfl (by simpa using hne) (fun σ H h4 => ?_))
      have hlt : f.dropLast.length < f.length := by
        have := List.length_pos_iff.mpr hne
        rw [List.length_dropLast]
        omega
      rw [drop_eOpt] at h4
      exact ss_nil ⟨f.dropLast, ⟨htr.trans is.1, by omega⟩, hlt, h4⟩
    · have := trim_no hcb
      rw [← is.1, this]
      exact h3
    · have h5 := (h4.frz (i := 4) rfl).frz (i := 3) rfl
      have hpl := gp.len
      have hml := gt.most
      refine ss_cons (s_ret h5 (ee_sh (e_tup (as_cons (vr 4 rfl) (as_cons (n_e (n_lc' [("k", 7), ("arrivals", 8)] pat.zipIdx (fun q => D.tup [.int (q.2 : Nat), eInts q.1]) (fun q => [(7, .int (q.2 : Nat)), (8, eInts q.1)]) (fun q => decide (((uAt R.1.done q.2 : Nat) : Int) < ((q.1.length : Nat) : Int))) (fun q => eNat q.2) rfl nd (blk_of (by kernel_rfl)) (by simp; omega) (i_enumT' g.fr (vr 1 rfl)) (fun a ha s H C cl fp => gd_two 7 8 rfl nd)
        (fun a ha s H C cl fp => bs_one (B.eq (b_lt (e_ix hu (e_fld g.cls g.n_done (vr 3 rfl) rfl) (vr 7 rfl) (ix_lst (uAt_get (us := R.1.done) (k := a.2) (by rw [hin.ok.done, ← hin.ok.pat.len, hpat]; exact zip_mem2 ha)))) (e_len g.fr (vr 8 rfl))) (by simp))) (fun a ha hb s H C cl fp => (vr 7 rfl)))) as_nil)))) (fin0 hq ?_))
      unfold runP lens
      rw [hR, List.map_map]
      show D.tup _ = D.tup _
      rw [show (Lk.new ts pat pr).pat = pat from rfl]
      rfl
end
end Ev31
/-! ## M8 -/
set_option maxHeartbeats 4000000
/-! The rows of the program, plain. -/
namespace Ev31
open PySem L2 Dv
abbrev Row := List Nat
def eRow (r : Row) : D := .lst (r.map eNat)
def eRows (l : List Row) : D := .lst (l.map eRow)
def jin (c : Nat) (arr : List Int) (k : Nat) (n : Nat) (q : Option Nat × Nat) : Bool := match q.1 with
  | some j => decide (n / c < arr.length) && (decide (arr.getD (n / c) 0 ≤ (q.2 : Int)) && decide (k < j))
  | none => false
def jstep (c : Nat) (arr : List Int) (k : Nat) (st : List Row × Nat) (q : Option Nat × Nat) : List Row × Nat :=
  (if jin c arr k st.2 q then st.1.set (st.2 / c) (st.1.getD (st.2 / c) [] ++ [q.1.getD 0]) else st.1, st.2 + if q.1 = some k then 1 else 0)
def jrun (c : Nat) (arr : List Int) (k : Nat) (l : List (Option Nat × Nat)) : List Row × Nat := l.foldl (jstep c arr k) (List.replicate arr.length [], 0)
def rowsK (c : Nat) (arr : List Int) (k : Nat) (units : List (Option Nat)) : List Row := (jrun c arr k units.zipIdx).1
def rowsP (ts : List Task) (pat : List (List Int)) (units : List (Option Nat)) : List (List Row) := pat.zipIdx.map fun q => rowsK (cost ts q.2).toNat q.1 q.2 units
theorem jrun_snoc {c : Nat} {arr : List Int} {k : Nat} {l : List (Option Nat × Nat)} {q : Option Nat × Nat} : jrun c arr k (l ++ [q]) = jstep c arr k (jrun c arr k l) q := by
  unfold jrun
  rw [List.foldl_append]
  rfl
theorem jstep_len {c : Nat} {arr : List Int} {k : Nat} {st : List Row × Nat} {q : Option Nat × Nat} : (jstep c arr k st q).1.length = st.1.length := by
  unfold jstep
  split <;> simp
theorem jstep_row {c : Nat} {arr : List Int} {k n : Nat} {st : List Row × Nat} {q : Option Nat × Nat} (h : ∀ r ∈ st.1, r.length ≤ n) : ∀ r ∈ (jstep c arr k st q).1, r.length ≤ n + 1 := by
  intro r hr
  unfold jstep at hr
  split at hr
  · rcases List.mem_or_eq_of_mem_set hr with z | z
    · have := h r z
      omega
    · rw [z, List.length_append]
      have : (st.1.getD (st.2 / c) []).length ≤ n := by
        rw [List.getD_eq_getElem?_getD]
        cases e : st.1[st.2 / c]? with
        | none => simp
        | some x => exact h x (List.mem_of_getElem? e)
      rw [List.length_singleton]
      omega
  · have := h r hr
    omega
theorem jrun_inv {c : Nat} {arr : List Int} {k : Nat} : ∀ (l : List (Option Nat × Nat)) (st : List Row × Nat) (n : Nat), (∀ r ∈ st.1, r.length ≤ n) → (l.foldl (jstep c arr k) st).1.length = st.1.length ∧ ∀ r ∈ (l.foldl (jstep c arr k) st).1, r.length ≤ n + l.length
  | [], st, n, h => ⟨rfl, by simpa using h⟩
  | q :: l, st, n, h => by
    obtain ⟨h1, h2⟩ := jrun_inv (c := c) (arr := arr) (k := k) l (jstep c arr k st q) (n + 1) (jstep_row h)
    rw [List.foldl_cons]
    refine ⟨h1.trans jstep_len, fun r hr => ?_⟩
    have := h2 r hr
    rw [List.length_cons]
    omega
theorem jrun_ok {c : Nat} {arr : List Int} {k : Nat} (l : List (Option Nat × Nat)) : (jrun c arr k l).1.length = arr.length ∧ ∀ r ∈ (jrun c arr k l).1, r.length ≤ l.length := by
  have := jrun_inv (c := c) (arr := arr) (k := k) l (List.replicate arr.length [], 0) 0 (fun r hr => by rw [List.eq_of_mem_replicate hr]; simp)
  simp only [List.length_replicate, Nat.zero_add] at this
  exact this
theorem loop_len : ∀ (n : Nat) (S : Lk) (f : List (Option Nat)), (loop n S f).2.length ≤ n + f.length
  | 0, S, f => by simp [loop]
  | n + 1, S, f => by
    unfold loop
    split
    · show f.length ≤ _; omega
    · split
      · show f.length ≤ _; omega
      · have := loop_len n (S.turn (next S f.length)) (f ++ [next S f.length])
        simp at this
        omega
theorem trim_len (f : List (Option Nat)) : (trim f).length ≤ f.length := by
  unfold trim
  rw [List.length_reverse]
  have := (List.dropWhile_sublist (l := f.reverse) (·.isNone)).length_le
  simpa using this
theorem runP_len (n : Nat) (S : Lk) : (runP n S).1.length ≤ n := by
  have h1 := trim_len (loop n S []).2
  have h2 := loop_len n S []
  simp at h2
  unfold runP
  show (trim _).length ≤ n
  omega
end Ev31
/-! ## DvU -/
set_option maxHeartbeats 4000000
/-! Judgements by data: a list of new empty lists, [[] for x in ..]. -/
namespace Dv
open PySem PySem.Spec PyProof.Rows L2 Gx
theorem RowsAt.empty {K : PySem.W.Frag} {W : List Addr} {H : Hp} : ∀ {qs : List Addr}, (∀ q ∈ qs, H q = some (.lst [])) → RowsAt K W H qs (List.replicate qs.length [])
  | [], _ => rfl
  | q :: qs, h => ⟨[], List.replicate qs.length [], [], rfl, h q List.mem_cons_self, .nil, RowsAt.empty fun r hr => h r (List.mem_cons_of_mem _ hr)⟩
section
variable {X : Cx} {T : TbL} {Γ : List (Option D)} {α : Type} {as : List α} {ed : α → D} {ps : α → List (Nat × D)} {tg iter : Expr} {scope : Scope} {own : List (Str × Nat)} {pos lp : Pos}
theorem lcR_ok (hz : as.length ≤ 100000) (hi : I X T Γ tg iter (as.map ed)) (hg : ∀ a ∈ as, Ball X scope fun Z => Gd Z tg (ed a) (ps a)) (hp : ∀ a, (ps a).map (·.1) = own.map (·.2)) {W : List Addr} {σ : L2.St} {H : Hp} {Q : VK} (P : Pr X.K T W H Γ σ)
    (k : ∀ p qs H2, (∀ q ∈ p :: qs, Nw H q) → (p :: qs).Nodup → Ex T H H2 → H2 p = some (.lst (qs.map V.ref)) → (∀ q ∈ qs, H2 q = some (.lst [])) → qs.length = as.length → Q (.ref p) H2) :
    tLc (rI X tg iter) (gB X scope tg) (tB_ X scope []) (eB X scope (.List [] lp)) (own.map (·.2)) σ H Q := by
  refine hi W σ H P _ fun J H1 e1 it Dl hD => ?_
  have P1 : Pr X.K T W H1 Γ σ := P.ex e1
  have nD : Dl ∉ W := P1.al.nin (Nw.of hD)
  have hWD : ∀ x ∈ Dl :: W, x ∈ W ∨ Nw H1 x := cons_new (Nw.of hD)
  let Iv : Nat → Hp → Prop := fun i H2 => ∃ qs : List Addr, H2 Dl = some (.lst (qs.map V.ref)) ∧ (∀ q ∈ qs, H2 q = some (.lst [])) ∧ (∀ q ∈ qs, Nw H1 q) ∧ (Dl :: qs).Nodup ∧ qs.length = i ∧ Mx T [] H1 H2
  have hJ : (as.map ed).length = as.length := List.length_map ..
  refine ⟨fun i m H2 => m = as.length - i ∧ i ≤ as.length ∧ Iv i H2, ⟨as.length, by simp, Nat.zero_le _, [], upd_same, by simp, by simp, by simp, rfl, Mx.of (Ex.new hD)⟩, ?_⟩
  rintro i m H2 ⟨rfl, hle, qs, hacc, hqs, hnw, hnd, hlen, mx⟩
  have mW : Mx T W H1 H2 := mx.sub fun x hx => by cases hx
  by_cases hlt : i < as.length
  · refine .inr ⟨it.go i H2 mW (by rw [hJ]; exact hlt), Iv (i + 1), fun H' p => ⟨as.length - (i + 1), by omega, rfl, hlt, p⟩, fun v H3 hy => ?_⟩
    have ha : as[i]? = some as[i] := List.getElem?_eq_getElem hlt
    have hm : as[i] ∈ as := List.getElem_mem hlt
    obtain ⟨e3, r3⟩ := it.yld (Dl :: W) i (ed as[i]) H2 v H3 hWD mW (by rw [List.getElem?_map, ha]; rfl) hy
    have keep : ∀ {Ha Hb : Hp} {q : Addr} {acc : List V}, Ex T Ha Hb → Ha q = some (.lst acc) → Hb q = some (.lst acc) := fun e h => e.ob _ _ h fun ps y => by cases y
    have mx3 : Mx T [] H1 H3 := mx.trans (Mx.of e3)
    have P3 : Pr X.K T (Dl :: W) H3 (wiped Γ (own.map (·.2))) (L2.wipe σ (own.map (·.2))) := (P1.wipe _).late (mx3.sub fun x hx => by cases hx) hWD fun x hx => by
      rcases List.mem_cons.mp hx with z | z
      · exact ⟨_, by rw [z]; exact keep e3 hacc, fun ps y => by cases y⟩
      · exact (P1.al.ex mx3.ex) x z
    intro s0 H0 C cl fp
    refine gd_g (hg _ hm s0 H0 C cl fp) (hp _) (Dl :: W) _ H3 v P3 r3 _ fun σ4 sm P4 => ⟨sm.wipe (fun _ h => h), fun s1 H01 C1 cl1 fp1 => ?_⟩
    refine bs_nil (X := X.blk s1 H01 scope (compEnvC scope cl1 C1 X.env) fp1) (Dl :: W) σ4 H3 P4 _ fun H5 e5 => ?_
    show ∀ (s : Shared) (H0 : Hp) (C : Addr) (cl : List (Str × Addr)) (fp : List Addr), rE (X.blk s H0 scope (compEnvC scope cl C X.env) fp) (.List [] lp) σ4 H5 _
    intro s2 H02 C2 cl2 fp2
    refine of_pe (pe_lst pa_nil) ⟨Nat.zero_le _, fun t ht => ?_⟩
    have h5 : H5 Dl = some (.lst (qs.map V.ref)) := keep e5 (keep e3 hacc)
    have tD : t ≠ Dl := fun z => by rw [z, h5] at ht; cases ht
    have hq5 : ∀ q ∈ qs, H5 q = some (.lst []) := fun q hq => keep e5 (keep e3 (hqs q hq))
    have tq : ∀ q ∈ qs, q ≠ t := fun q hq z => by
      have := hq5 q hq
      rw [z, ht] at this
      cases this
    have mx5 : Mx T [] H1 H5 := mx3.trans (Mx.of e5)
    have nt : Nw H1 t := (Nw.of ht).back mx5.ex
    have e6 : Ex T H5 (upd H5 t (.lst [])) := Ex.new ht
    have h6 : upd H5 t (.lst []) Dl = some (.lst (qs.map V.ref)) := by rw [upd_ne (Ne.symm tD)]; exact h5
    have dq : ∀ q ∈ qs, q ≠ Dl := fun q hq z => (List.nodup_cons.mp hnd).1 (z ▸ hq)
    refine ⟨qs.map V.ref, h6, ?_, qs ++ [t], by rw [upd_same, List.map_append]; rfl, fun q hq => ?_, fun q hq => ?_, ?_, by rw [List.length_append, hlen]; rfl, (mx5.trans (Mx.of e6)).late (Mx.mut (W := [Dl]) h6 trivial (by simp)) fun x hx => .inr (by rw [List.mem_singleton.mp hx]; exact Nw.of hD)⟩
    · rw [List.length_map, hlen]
      have h3 : (100000 : Nat) < sizeLine := by decide
      omega
    · rcases List.mem_append.mp hq with z | z
      · rw [upd_ne (dq q z), upd_ne (tq q z)]
        exact hq5 q z
      · rw [List.mem_singleton.mp z, upd_ne tD, upd_same]
    · rcases List.mem_append.mp hq with z | z
      · exact hnw q z
      · rw [List.mem_singleton.mp z]
        exact nt
    · rw [← List.cons_append, List.nodup_append]
      refine ⟨hnd, by simp, fun a ha b hb => ?_⟩
      rw [List.mem_singleton.mp hb]
      rcases List.mem_cons.mp ha with z | z
      · rw [z]
        exact Ne.symm tD
      · exact tq a z
  · have hi : i = as.length := by omega
    subst hi
    refine .inl ⟨by rw [← hJ]; exact it.stop H2 mW, ?_⟩
    exact k Dl qs H2 (fun q hq => by
      rcases List.mem_cons.mp hq with z | z
      · rw [z]; exact (Nw.of hD).back e1
      · exact (hnw q z).back e1) hnd (e1.trans mx.ex) hacc hqs hlen
end
section
variable {X : Cx} {T : TbL} {De : Ends} {bs : List Bas} {Γ : List Sl} {σ : L2.St} {H : Hp} {α : Type} {tg iter b : Expr} {scope : Scope} {pos lp cp px py pt pt2 : Pos} {i j kt k2 : Nat} {x y : Str} {db : D}
/-- x, y = [[] for ..], b -/
theorem s_parR (own : List (Str × Nat)) (as : List α) (ed : α → D) (ps : α → List (Nat × D)) (h : At X.K T bs Γ σ H) (hc : X.calm = true) (hN : X.N.Nodup) (ok : BlkOk X.N X.env.scope scope own) (hz : as.length ≤ 100000) (hi0 : I X T (sh Γ) tg iter (as.map ed)) (hg : ∀ a ∈ as, Ball X scope fun Z => Gd Z tg (ed a) (ps a))
    (hb : E X T (sh Γ) b db) (k : ∀ σ' H', At X.K T bs ((Γ.set i (.own 0 (.rws (List.replicate as.length [])))).set j (.d db)) σ' H' → De.nx σ' H') (hp : ∀ a, (ps a).map (·.1) = own.map (·.2) := by intro _; rfl)
    (hw : swappedStores [.Tuple [.Name x px, .Name y py] kt pt] (.Tuple [.ListComp (.List [] lp) [⟨tg, iter, [], 0⟩] scope cp, b] k2 pt2) X.env = pure (some [x, y])) (hi : X.N[i]? = some x := by rfl) (hj : X.N[j]? = some y := by rfl) (hij : i ≠ j := by decide) (hx : X.env.scope.names.lookup x = some .local := by rfl) (hy : X.env.scope.names.lookup y = some .local := by rfl)
    (hf : ∀ x, foldedSetIterable iter X.env x = pure x := by intro _; rfl)
    (hs : swapsWithSole [.Tuple [.Name x px, .Name y py] kt pt] (.Tuple [.ListComp (.List [] lp) [⟨tg, iter, [], 0⟩] scope cp, b] k2 pt2) pos.line X.env = pure false := by rfl) (h1 : starEach [.ListComp (.List [] lp) [⟨tg, iter, [], 0⟩] scope cp, b] X.env = (false, eval (.ListComp (.List [] lp) [⟨tg, iter, [], 0⟩] scope cp) X.env) :: starEach [b] X.env := by rfl) (h2 : starEach [b] X.env = (false, eval b X.env) :: starEach [] X.env := by rfl) :
    rS X (.Assign [.Tuple [.Name x px, .Name y py] kt pt] (.Tuple [.ListComp (.List [] lp) [⟨tg, iter, [], 0⟩] scope cp, b] k2 pt2) pos) De σ H := by
  obtain ⟨W, ft, w⟩ := h
  refine of_ps (ps_par hc hN hi hj hij hx hy pa_r hw hs) (cons_eval h1 (of_pe (pe_lc (wi := rI X tg iter) (g := gB X scope tg) (tt := tB_ X scope []) (te := eB X scope (.List [] lp)) hc hN pi_r ok (fun s H0 C cl fp => ⟨fun pins s1 σ1 H1 v u Q1 I1 r1 q1 => q1 s H0 C cl fp pins s1 u I1 r1⟩) (fun s H0 C cl fp => ⟨fun pins s1 σ1 H1 Q1 I1 q1 => q1 s H0 C cl fp pins s1 I1⟩)
    (fun s H0 C cl fp => ⟨fun pins s1 σ1 H1 Q1 I1 q1 => q1 s H0 C cl fp pins s1 I1⟩) hf) (lcR_ok hz hi0 hg hp w.pr fun p qs H1 nw nd e1 g1 gq hl => ?_)))
  have own1 : OwnAt X.K ((p :: qs) ++ W) H1 p (p :: qs) (.rws (List.replicate as.length [])) := ⟨qs, rfl, nd, g1, hl ▸ RowsAt.empty gq⟩
  have hnew : ∀ x ∈ (p :: qs) ++ W, x ∈ W ∨ Nw H x := fun x hx => by
    rcases List.mem_append.mp hx with z | z
    · exact .inr (nw x z)
    · exact .inl z
  have P2 : Pr X.K T ((p :: qs) ++ W) H1 (sh Γ) σ := w.pr.late (Mx.of e1) hnew fun x hx => by
    rcases List.mem_append.mp hx with z | z
    · obtain ⟨o, a, b⟩ := own1.mu.1 x z
      exact ⟨o, a, fun ps y => by rw [y] at b; exact b⟩
    · exact (w.al.ex e1) x z
  refine cons_eval h2 (hb _ σ H1 P2 _ fun v H2 e2 r2 => nil_eval ⟨.ref p, v, rfl, k _ _ ⟨(p :: qs) ++ W, ?_⟩⟩)
  exact (AtW.ex ⟨_, w.putOwn (i := i) nw e1 own1⟩ e2).put r2
end
end Dv
/-! ## DvV -/
set_option maxHeartbeats 4000000
/-! Judgements by data: append to a list of owned lists. -/
namespace Dv
open PySem PySem.Spec PyProof.Rows L2 Gx
section
variable {X : Cx} {T : TbL} {De : Ends} {bs : List Bas} {Γ : List Sl} {σ : L2.St} {H : Hp} {e ix : Expr} {d : D} {dl : List D} {l : List (List D)} {i j m : Nat} {x : Str} {pos p apos cpos spos : Pos}
/-- x[ix].append(e) -/
theorem s_rapp (h : At X.K T bs Γ σ H) (ho : Γ[i]? = some (.own m (.rws l))) (hj : l[j]? = some dl) (hix : EE X T Γ ix (.int (j : Nat))) (he : EE X T Γ e d) (hz : dl.length < 100000) (k : ∀ σ' H', At X.K T bs (Γ.set i (.own m (.rws (l.set j (dl ++ [d]))))) σ' H' → De.nx σ' H')
    (hi : X.N[i]? = some x := by rfl) (hx : Vis X.env.scope x := by first | exact Or.inl rfl | exact Or.inr (Or.inl rfl) | exact Or.inr (Or.inr rfl)) (hd : (x == ("__debug__" : Str)) = false := by decide) (hcd : (x == ("__classdict__" : Str)) = false := by decide) (hpi : PlainIx ix := by intro _ _; rfl)
    (hs : swapsWith (.Call (.Attribute (.Subscript (.Name x p) ix spos) "append" apos) [e] [] cpos) none pos.line X.env = pure false := by rfl)
    (hbase : attributeBase (.Subscript (.Name x p) ix spos) "append" X.env (eval (.Subscript (.Name x p) ix spos) X.env) = eval (.Subscript (.Name x p) ix spos) X.env := by rfl)
    (hfew : ((backTo cpos (starEach [e] X.env)).all (fun x => !x.1) && (backToKw cpos (keywordEach [] X.env)).all (fun x => x.1.isSome) && decide ([e].length + ([] : List Keyword).length + (if ([] : List Keyword).isEmpty then 0 else 1) < 30)) = true := by rfl)
    (hline : (apos.endLine == cpos.line) = true := by rfl) (hst : starEach [e] X.env = (false, eval e X.env) :: starEach [] X.env := by rfl) (hpl : (backTo cpos (starEach [] X.env)).any (·.1) = false := by rfl) :
    rS X (.Expr (.Call (.Attribute (.Subscript (.Name x p) ix spos) "append" apos) [e] [] cpos) pos) De σ H := by
  obtain ⟨W, a⟩ := h
  obtain ⟨q0, vs, q, xs, g1, g2, g3, g4, g5, g6, g7⟩ := a.row_rw ho hj
  refine of_ps (ps_expr (pe_bm PySem.F.plainAttrs_list PySem.F.slot_list_append PySem.F.type_list_append mt_append (pe_ix ix_list (pe_var hi hx hd hcd) pe_r hpi) (pa_cons pe_r pa_nil hst) hbase hfew hline hst hpl) hs) ⟨.ref q0, g1, a.run hix fun y H2 e2 r2 => ?_⟩
  have g2' : H2 q0 = some (.lst vs) := ex_mu e2 g2 trivial
  have g5' : H2 q = some (.lst xs) := ex_mu e2 g5 trivial
  have hvj : atI vs ((j : Nat) : Int) = some (.ref q) := by
    have hlt : j < vs.length := (List.getElem?_eq_some_iff.mp g3).1
    unfold atI ixN
    rw [if_pos (by omega), if_pos (by omega)]
    simpa using g3
  refine ⟨q0, vs, j, .ref q, rfl, r2, .inl (.inl g2'), hvj, own_tyV g5', (a.ex e2).run he fun v H3 e3 r3 => ?_⟩
  obtain ⟨q0', vs', q', xs', g1', g2'', g3', g4', g5'', g6', g7'⟩ := ((a.ex e2).ex e3).row_rw ho hj
  rw [g1] at g1'
  cases g1'
  have h2 : H3 q0 = some (.lst vs) := ex_mu e3 g2' trivial
  rw [h2] at g2''
  cases g2''
  rw [g3] at g3'
  cases g3'
  have hl := g6'.length
  exact ⟨q, xs', v, rfl, rfl, g5'', by rw [hl]; exact Nat.lt_of_lt_of_le hz (by decide), k _ _ ⟨W, g7' _ _ (g6'.append (.one r3))⟩⟩
end
end Dv
/-! ## WO -/
set_option maxHeartbeats 4000000
namespace Ev31
open PySem PySem.Spec PyProof.Rows L2 Gx Dv
section
variable {P : Program} {w : World} {K : PySem.W.Frag} {mg : Str → Option Value} {base h : Heap}
def R_blocking_rows (N : Nat) (ds : List D) (d : D) : Prop := ∃ (ts : List Task) (pat : List (List Int)) (pr : Str), ds = [eTasks ts, ePat pat, .str pr] ∧
  d = .lst ((rowsP ts pat (runP N (Lk.new ts pat pr)).1).map eRows) ∧ GoodTs ts ∧ GoodPat ts pat ∧ pr ∈ prots ∧ mu (Lk.new ts pat pr) 0 < N ∧ N ≤ 1000
abbrev n_blocking_rows : List Str := ["tasks", "pattern", "protocol", "units", "found", "k", "arrivals", "rows", "done", "arrival", "now", "task", "number"]
theorem sc_blocking_rows : FnScope n_blocking_rows ["tasks", "pattern", "protocol"] (defScope s_blocking_rows) := ⟨rfl, rfl, rfl, by decide +kernel, rfl, by decide +kernel, by decide +kernel⟩
theorem ok_blocking_rows (g : Pg w K mg base h) (N : Nat) : FnC P w K mg base (TT K) "blocking_rows" 10 (R_blocking_rows N) := by
  have c_locked_units : FnC P w K mg base (TT K) "locked_units" 9 (R_locked_units N) := ok_locked_units g N
  obtain ⟨fd, F⟩ := g.d_blocking_rows
  refine fnC_of F g.a_blocking_rows sc_blocking_rows (fun ds d ⟨x0, x1, x2, e, _⟩ => by rw [e]; rfl) (fun _ _ _ _ _ _ us hl => match us, hl with | [_, _, _], _ => rfl) ?_
  intro cdv A outer s H0 Q Ex0 ds d W hcd hr hR hq σ H hat
  have hu := hu_of hr
  have nd := sc_blocking_rows.nd
  obtain ⟨ts, pat, pr, rfl, rfl, gt, gp, hpr, hmu, hN⟩ := hR
  have h0 : At K (TT K) [⟨[], H0, W, none⟩] [.d (eTasks ts), .d (ePat pat), .d (.str pr), .un, .un, .un, .un, .un, .un, .un, .un, .un, .un] σ H := hat
  have hul := runP_len N (Lk.new ts pat pr)
  refine ss_cons (s_asg h0 (ee_sh (e_ix hu (e_call c_locked_units (hr.mono (by decide)) (as_cons (vr 0 rfl) (as_cons (vr 1 rfl) (as_cons (vr 2 rfl) as_nil))) ⟨ts, pat, pr, rfl, rfl, gt, gp, hpr, hmu, hN⟩) e_int rfl)) (fun σ H h1 => ?_) (i := 3) nd rfl (Or.inl rfl))
  generalize (runP N (Lk.new ts pat pr)).1 = us at h1 hul hq
  refine ss_cons (s_new h1 (nn_sh (n_lst as_nil)) (fun σ H h2 => ?_) (i := 4) nd rfl (Or.inl rfl))
  refine ss_cons (s_for (as := pat.zipIdx) (ed := fun q => D.tup [.int (q.2 : Nat), eInts q.1]) (ps := fun q => [(5, .int (q.2 : Nat)), (6, eInts q.1)]) (fun i => [.d (eTasks ts), .d (ePat pat), .d (.str pr), .d (.lst (us.map eOpt)), .own 1 (.lst ((pat.zipIdx.take i).map fun q => eRows (rowsK (cost ts q.2).toNat q.1 q.2 us))), .un, .un, .un, .un, .un, .un, .un, .un]) rfl h2 (i_enumT' g.fr (vr 1 rfl)) ⟨rfl, rfl, rfl, rfl, rfl, trivial⟩ (fun i a hia => gd_two 5 6 rfl nd) (fun b0 i q σ H hia h3 => ?_) fun σ H h3 => ?_)
  · obtain ⟨hqi, hqa⟩ := Dv.zip_get hia
    have hkp : q.2 < pat.length := by rw [hqi]; exact (List.getElem?_eq_some_iff.mp hqa).1
    have hk : q.2 < ts.length := by rw [← gp.len]; exact hkp
    have ek := get_ix hk
    have gc := good_cost gt hk
    have hal := few_arr gp (List.mem_of_getElem? hqa)
    have hip : i < 1000 := by
      have := gp.len
      have := gt.most
      omega
    refine ss_cons (s_parR (i := 7) (j := 8) [("arrival", 9)] q.1 .int (fun a => [(9, .int a)]) h3 rfl nd (blk_of (by kernel_rfl)) (by omega) (i_tup (vr 6 rfl)) (fun a ha s H C cl fp => gd_name 9 nd) e_int (fun σ H h4 => ?_) (fun _ => rfl) (by kernel_rfl))
    have hc : ((cost ts q.2).toNat : Int) = ts[q.2].1 := by
      rw [← cost_get hk]
      omega
    refine ss_cons (s_for (as := us.zipIdx) (ed := fun u => D.tup [.int (u.2 : Nat), eOpt u.1]) (ps := fun u => [(10, .int (u.2 : Nat)), (11, eOpt u.1)]) (fun n => [.d (eTasks ts), .d (ePat pat), .d (.str pr), .d (.lst (us.map eOpt)), .own 2 (.lst ((pat.zipIdx.take i).map fun q => eRows (rowsK (cost ts q.2).toNat q.1 q.2 us))), .d (.int (q.2 : Nat)), .d (eInts q.1), .own 1 (.rws ((jrun (cost ts q.2).toNat q.1 q.2 (us.zipIdx.take n)).1.map fun r => r.map eNat)), .d (.int ((jrun (cost ts q.2).toNat q.1 q.2 (us.zipIdx.take n)).2 : Nat)), .un, .un, .un, .un]) rfl h4 (i_enumL' g.fr (vr 3 rfl)) ⟨rfl, rfl, rfl, rfl, rfl, rfl, rfl, ?_, rfl, trivial⟩ (fun n a hna => gd_two 10 11 rfl nd) (fun b1 n u σ H hnu h5 => ?_) fun σ H h5 => ?_)
    · show Sl.own 1 _ = Sl.own 1 _
      simp [jrun]
    · obtain ⟨hu1, hu2⟩ := Dv.zip_get hnu
      have hn : n < us.length := (List.getElem?_eq_some_iff.mp hu2).1
      rw [take_snoc hnu, jrun_snoc]
      obtain ⟨hjl, hjr⟩ := jrun_ok (c := (cost ts q.2).toNat) (arr := q.1) (k := q.2) (us.zipIdx.take n)
      have htl : (us.zipIdx.take n).length ≤ n := by rw [List.length_take]; omega
      generalize jrun (cost ts q.2).toNat q.1 q.2 (us.zipIdx.take n) = st at h5 hjl hjr ⊢
      have hnum : (((st.2 : Nat) : Int) / ts[q.2].1) = ((st.2 / (cost ts q.2).toNat : Nat) : Int) := by
        rw [← hc]
        rfl
      have hcc := cost_get hk
      refine ss_cons (s_asg h5 (d := .int (st.2 / (cost ts q.2).toNat : Nat)) (ee_sh (E.eq (e_fdiv (vr 8 rfl) (e_ix hu (e_ix hu (vr 0 rfl) (vr 5 rfl) (ix_tup ek)) e_int rfl) ⟨by omega, by omega⟩) (by rw [← hnum]))) (fun σ H h6 => ?_) (i := 12) nd rfl (Or.inl rfl))
      obtain ⟨t, m⟩ := u
      generalize hnn : st.2 / (cost ts q.2).toNat = nn at h6
      have jix : ∀ {x : Nat}, x < q.1.length → ixF (eInts q.1) (.int (x : Nat)) = some (.int (q.1.getD x 0)) := fun hx => ix_tup (getD_ix hx)
      cases t with
      | none =>
        refine ss_cons (s_if h6 (b := false) (B.eq (b_bw (bw_and (b_lt (vr 12 rfl) (e_len g.fr (vr 6 rfl))) fun hb => (bw_and (b_le (e_ix hu (vr 6 rfl) (vr 12 rfl) (jix (by simpa using of_decide_eq_true hb))) (vr 10 rfl)) fun _ => (bw_and (p := false) (q := false) (B.eq (b_isn (vr 11 rfl) e_no) rfl) fun hb => nomatch hb)))) (by simp)) (fun hb => nomatch hb) fun _ σ H h7 => ss_nil ?_)
        refine ss_cons (s_asg h7 (d := .int (st.2 : Nat)) (ee_sh (E.eq (e_add (vr 8 rfl) (e_ifx (p := false) (d := .int 0) (B.eq (b_eq (vr 11 rfl) (vr 5 rfl)) rfl) (fun hb => nomatch hb) fun _ => e_int)) (by simp))) (fun σ H h8 => ss_nil ?_) (i := 8) nd rfl (Or.inl rfl))
        rw [show jstep (cost ts q.2).toNat q.1 q.2 st (none, m) = st by simp [jstep, jin]]
        exact h8.wk ⟨rfl, rfl, rfl, rfl, rfl, rfl, rfl, rfl, rfl, trivial⟩
      | some j =>
        have hjin : ∀ b, jin (cost ts q.2).toNat q.1 q.2 st.2 (some j, m) = b → (decide (((nn : Nat) : Int) < (((q.1.map D.int).length : Nat) : Int)) && (decide (q.1.getD nn 0 ≤ ((m : Nat) : Int)) && (true && decide (((q.2 : Nat) : Int) < ((j : Nat) : Int))))) = b := fun b e => by
          rw [← e]
          unfold jin
          rw [hnn]
          simp
        have hone : decide (V.int (j : Nat) = V.int (q.2 : Nat)) = true → D.int 1 = D.int ((if some j = some q.2 then 1 else 0 : Nat) : Int) := fun hb => by
          have hb := of_decide_eq_true hb
          have : j = q.2 := by
            injection hb with hb
            exact Int.ofNat.inj hb
          rw [if_pos (by rw [this])]
          rfl
        have hzero : decide (V.int (j : Nat) = V.int (q.2 : Nat)) = false → D.int 0 = D.int ((if some j = some q.2 then 1 else 0 : Nat) : Int) := fun hb => by
          have hb := of_decide_eq_false hb
          rw [if_neg fun z => hb (by rw [Option.some.inj z])]
          rfl
        refine ss_cons (s_if h6 (b := jin (cost ts q.2).toNat q.1 q.2 st.2 (some j, m)) (B.eq (b_bw (bw_and (b_lt (vr 12 rfl) (e_len g.fr (vr 6 rfl))) fun hb => (bw_and (b_le (e_ix hu (vr 6 rfl) (vr 12 rfl) (jix (by simpa using of_decide_eq_true hb))) (vr 10 rfl)) fun _ => (bw_and (p := true) (B.eq (b_isn (vr 11 rfl) e_no) rfl) fun _ => bw_and1 (b_gt (vr 11 rfl) (vr 5 rfl)))))) (hjin _ rfl)) (fun hb σ H h7 => ?_) fun hb σ H h7 => ss_nil ?_)
        · have hlt : nn < q.1.length := by
            unfold jin at hb
            rw [hnn] at hb
            simp at hb
            exact hb.1
          have hrow : st.1[nn]? = some (st.1.getD nn []) := getD_ix (by rw [hjl]; exact hlt)
          have hrl : (st.1.getD nn []).length ≤ n := by
            have := hjr _ (List.mem_of_getElem? hrow)
            omega
          have hN2 : us.length ≤ 1000 := by omega
          refine ss_cons (s_rapp (i := 7) (j := nn) (dl := (st.1.getD nn []).map eNat) h7 rfl (by rw [List.getElem?_map, hrow]; rfl) (ee_sh (vr 12 rfl)) (ee_sh (vr 11 rfl)) (by rw [List.length_map]; omega) (fun σ H h8 => ss_nil ?_))
          have hst : jstep (cost ts q.2).toNat q.1 q.2 st (some j, m) = (st.1.set nn (st.1.getD nn [] ++ [j]), st.2 + if some j = some q.2 then 1 else 0) := by
            unfold jstep
            rw [if_pos hb, hnn]
            rfl
          rw [hst]
          refine ss_cons (s_asg h8 (d := .int (st.2 + if some j = some q.2 then 1 else 0 : Nat)) (ee_sh (E.eq (e_add (vr 8 rfl) (e_ifx (d := .int (if some j = some q.2 then 1 else 0 : Nat)) (b_eq (vr 11 rfl) (vr 5 rfl)) (fun hb => E.eq e_int (hone hb)) fun hb => E.eq e_int (hzero hb))) (congrArg D.int (Int.natCast_add _ _).symm))) (fun σ H h9 => ss_nil ?_) (i := 8) nd rfl (Or.inl rfl))
          refine h9.wk ⟨rfl, rfl, rfl, rfl, rfl, rfl, rfl, ?_, rfl, trivial⟩
          show Sl.own _ _ = Sl.own _ _
          rw [List.map_set, List.map_append]
          rfl
        · have hst : jstep (cost ts q.2).toNat q.1 q.2 st (some j, m) = (st.1, st.2 + if some j = some q.2 then 1 else 0) := by
            unfold jstep
            rw [if_neg (by rw [hb]; exact Bool.false_ne_true)]
          rw [hst]
          refine ss_cons (s_asg h7 (d := .int (st.2 + if some j = some q.2 then 1 else 0 : Nat)) (ee_sh (E.eq (e_add (vr 8 rfl) (e_ifx (d := .int (if some j = some q.2 then 1 else 0 : Nat)) (b_eq (vr 11 rfl) (vr 5 rfl)) (fun hb => E.eq e_int (hone hb)) fun hb => E.eq e_int (hzero hb))) (congrArg D.int (Int.natCast_add _ _).symm))) (fun σ H h9 => ss_nil ?_) (i := 8) nd rfl (Or.inl rfl))
          exact h9.wk ⟨rfl, rfl, rfl, rfl, rfl, rfl, rfl, rfl, rfl, trivial⟩
    · have h6 := h5.frz (i := 7) rfl
      refine ss_cons (s_app h6 (i := 4) rfl (ee_sh (vr 7 rfl)) (by simp; omega) (fun σ H h7 => ss_nil ?_) rfl (Or.inl rfl))
      refine h7.wk ⟨rfl, rfl, rfl, rfl, ?_, trivial⟩
      show Sl.own _ _ = Sl.own _ _
      rw [take_snoc hia, List.map_append, List.take_length]
      have hv : ∀ l : List Row, vw (D.rws (l.map fun r => r.map eNat)) = eRows l := fun l => by
        show D.lst ((l.map fun r => r.map eNat).map D.lst) = D.lst (l.map eRow)
        rw [List.map_map]
        rfl
      rw [hv]
      rfl
  · have h4 := h3.frz (i := 4) rfl
    refine ss_cons (s_ret h4 (ee_sh (vr 4 rfl)) (fin0 hq ?_))
    unfold rowsP
    rw [show pat.zipIdx.length = pat.zipIdx.length from rfl, List.take_length, List.map_map]
    rfl
end
end Ev31
/-! ## P0 -/
set_option maxHeartbeats 4000000
/-! The run as a row of states. -/
namespace Ev31
open PySem L2 Dv
def stN (S : Lk) : Nat → Lk
  | 0 => S
  | t + 1 => (stN S t).turn (next (stN S t) t)
def runN (S : Lk) (m : Nat) : List (Option Nat) := (List.range m).map fun t => next (stN S t) t
theorem runN_len (S : Lk) (m : Nat) : (runN S m).length = m := by simp [runN]
theorem runN_succ (S : Lk) (m : Nat) : runN S (m + 1) = runN S m ++ [next (stN S m) m] := by
  simp [runN, List.range_succ]
theorem loop_stN (S : Lk) : ∀ (n t : Nat), ∃ m, loop n (stN S t) (runN S t) = (stN S m, runN S m)
  | 0, t => ⟨t, rfl⟩
  | n + 1, t => by
    unfold loop
    split
    · exact ⟨t, rfl⟩
    · split
      · exact ⟨t, rfl⟩
      · rw [runN_len, ← runN_succ]
        exact loop_stN S n (t + 1)
theorem trim_take (f : List (Option Nat)) : ∃ m, m ≤ f.length ∧ trim f = f.take m := by
  have h1 : trim f <+: f := by
    have h := (List.dropWhile_suffix (l := f.reverse) (·.isNone))
    have := List.reverse_prefix.mpr h
    rw [List.reverse_reverse] at this
    exact this
  exact ⟨(trim f).length, h1.length_le, List.prefix_iff_eq_take.mp h1⟩
theorem runN_take (S : Lk) {m k : Nat} (h : k ≤ m) : (runN S m).take k = runN S k := by
  unfold runN
  rw [← List.map_take, List.take_range, Nat.min_eq_left h]
theorem runP_stN (S : Lk) (n : Nat) : ∃ m, (runP n S).1 = runN S m := by
  obtain ⟨m, h⟩ := loop_stN S n 0
  have h : loop n S [] = (stN S m, runN S m) := h
  obtain ⟨k, h1, h2⟩ := trim_take (runN S m)
  refine ⟨k, ?_⟩
  unfold runP
  rw [h]
  show trim (runN S m) = _
  rw [h2, runN_take S (by rw [runN_len] at h1; exact h1)]
theorem turn_keep {S : Lk} {o : Option Nat} : (S.turn o).ts = S.ts ∧ (S.turn o).pat = S.pat ∧ (S.turn o).pr = S.pr := by
  cases o with
  | none => exact ⟨rfl, rfl, rfl⟩
  | some k => exact Lk.work_ts
theorem stN_keep (S : Lk) : ∀ t, (stN S t).ts = S.ts ∧ (stN S t).pat = S.pat ∧ (stN S t).pr = S.pr
  | 0 => ⟨rfl, rfl, rfl⟩
  | t + 1 => by
    obtain ⟨a, b, c⟩ := stN_keep S t
    obtain ⟨a', b', c'⟩ := turn_keep (S := stN S t) (o := next (stN S t) t)
    exact ⟨a'.trans a, b'.trans b, c'.trans c⟩
theorem stN_in {S : Lk} (h : S.In) : ∀ t, (stN S t).In
  | 0 => h
  | t + 1 => turn_in (stN_in h t)
/-- how often k ran in the first t units -/
def cnt (S : Lk) (k t : Nat) : Nat := (runN S t).count (some k)
theorem cnt_succ (S : Lk) (k t : Nat) : cnt S k (t + 1) = cnt S k t + if next (stN S t) t = some k then 1 else 0 := by
  unfold cnt
  rw [runN_succ, List.count_append, List.count_singleton]
  congr 1
  by_cases h : next (stN S t) t = some k <;> simp [h]
theorem work_done {S : Lk} (h : S.Ok) {r : Nat} (hr : r < S.ts.length) (k : Nat) :
    uAt (S.work r).done k = (if r = k ∧ ((uAt S.units r : Nat) : Int) + 1 = cost S.ts r then uAt S.done k + 1 else uAt S.done k) ∧
    uAt (S.work r).units k = (if r = k then (if ((uAt S.units r : Nat) : Int) + 1 = cost S.ts r then 0 else uAt S.units k + 1) else uAt S.units k) := by
  have lu : r < S.units.length := by rw [h.units]; exact hr
  have ld : r < S.done.length := by rw [h.done]; exact hr
  unfold Lk.work
  by_cases c : ((uAt S.units r : Nat) : Int) + 1 = cost S.ts r
  · rw [if_pos c]
    refine ⟨?_, ?_⟩
    · show uAt (S.done.set r (uAt S.done r + 1)) k = _
      rw [uAt_set ld]
      by_cases e : r = k
      · subst e
        simp [c]
      · simp [e]
    · show uAt (S.units.set r 0) k = _
      rw [uAt_set lu, if_pos c]
  · rw [if_neg c]
    refine ⟨?_, ?_⟩
    · show uAt S.done k = _
      rw [if_neg fun z => c z.2]
    · show uAt (S.units.set r (uAt S.units r + 1)) k = _
      rw [uAt_set lu, if_neg c]
      by_cases e : r = k
      · subst e
        simp
      · simp [e]
theorem next_lt {S : Lk} (h : S.Ok) {t r : Nat} (e : next S t = some r) : r < S.ts.length := by
  rw [← h.pat.len]
  exact (ready_get (next_ready e)).1
theorem cnt_state {S : Lk} (h : S.In) (h0 : ∀ k, uAt S.done k = 0 ∧ uAt S.units k = 0) {k : Nat} (hk : k < S.ts.length) : ∀ t, cnt S k t = uAt (stN S t).done k * (cost S.ts k).toNat + uAt (stN S t).units k
  | 0 => by
    have := h0 k
    show 0 = uAt S.done k * _ + uAt S.units k
    rw [this.1, this.2]
    simp
  | t + 1 => by
    have ih := cnt_state h h0 hk t
    have hin := stN_in h t
    have hts := (stN_keep S t).1
    have gc := good_cost h.ok.good hk
    rw [cnt_succ, ih]
    show _ = uAt ((stN S t).turn (next (stN S t) t)).done k * _ + uAt ((stN S t).turn (next (stN S t) t)).units k
    cases e : next (stN S t) t with
    | none => simp [Lk.turn]
    | some r =>
      have hr := next_lt hin.ok e
      obtain ⟨w1, w2⟩ := work_done hin.ok hr k
      show _ = uAt ((stN S t).work r).done k * _ + uAt ((stN S t).work r).units k
      rw [w1, w2, hts]
      by_cases c : r = k
      · subst c
        by_cases c2 : ((uAt (stN S t).units r : Nat) : Int) + 1 = cost S.ts r
        · simp only [c2, and_true, if_true]
          have : (cost S.ts r).toNat = uAt (stN S t).units r + 1 := by omega
          rw [Nat.add_mul, this]
          omega
        · simp only [c2, and_false, if_false, if_true]
          omega
      · have c' : ¬ some r = some k := fun z => c (Option.some.inj z)
        simp [c, c']
theorem cnt_div {S : Lk} (h : S.In) (h0 : ∀ k, uAt S.done k = 0 ∧ uAt S.units k = 0) {k : Nat} (hk : k < S.ts.length) (t : Nat) : cnt S k t / (cost S.ts k).toNat = uAt (stN S t).done k := by
  have gc := good_cost h.ok.good hk
  have hl := (stN_in h t).low k (by rw [(stN_keep S t).1]; exact hk)
  rw [(stN_keep S t).1] at hl
  rw [cnt_state h h0 hk t, Nat.add_comm, Nat.add_mul_div_right _ _ (by omega), Nat.div_eq_of_lt (by omega)]
  simp
theorem new_zero {ts : List Task} {pat : List (List Int)} {pr : Str} (k : Nat) : uAt (Lk.new ts pat pr).done k = 0 ∧ uAt (Lk.new ts pat pr).units k = 0 := by
  have : uAt (ts.map fun _ => 0) k = 0 := by
    unfold uAt
    rw [List.getD_eq_getElem?_getD, List.getElem?_map]
    cases ts[k]? <;> rfl
  exact ⟨this, this⟩
end Ev31
/-! ## P1 -/
set_option maxHeartbeats 4000000
/-! The rows: the program's, the law's. -/
namespace Ev31
open PySem L2 Dv
def low (k : Nat) (o : Option Nat) : Bool := match o with
  | some j => decide (k < j)
  | none => false
def uv (us : List (Option Nat)) (now : Nat) : Option Nat := us.getD now none
def inJob (c : Nat) (arr : List Int) (k : Nat) (us : List (Option Nat)) (number now : Nat) : Bool :=
  decide ((us.take now).count (some k) / c = number) && (decide (number < arr.length) && (decide (arr.getD number 0 ≤ (now : Int)) && low k (uv us now)))
def rowJ (c : Nat) (arr : List Int) (k : Nat) (us : List (Option Nat)) (number : Nat) : Row := ((List.range us.length).filter (inJob c arr k us number)).map fun now => (uv us now).getD 0
theorem jrun_take {c : Nat} {arr : List Int} {k : Nat} {us : List (Option Nat)} : ∀ m, m ≤ us.length →
    jrun c arr k (us.zipIdx.take m) = ((List.range arr.length).map fun number => ((List.range m).filter (inJob c arr k us number)).map fun now => (uv us now).getD 0, (us.take m).count (some k))
  | 0, _ => by
    refine Prod.ext ?_ rfl
    show List.replicate arr.length [] = _
    symm
    rw [List.eq_replicate_iff]
    exact ⟨by simp, fun b hb => by
      obtain ⟨i, _, rfl⟩ := List.mem_map.mp hb
      rfl⟩
  | m + 1, h => by
    have ih := jrun_take (c := c) (arr := arr) (k := k) (us := us) m (by omega)
    have hm : m < us.length := h
    have hz : us.zipIdx[m]? = some (us[m], m) := by
      rw [List.getElem?_zipIdx, List.getElem?_eq_getElem hm]
      simp
    have hu : uv us m = us[m] := by
      unfold uv
      rw [List.getD_eq_getElem?_getD, List.getElem?_eq_getElem hm]
      rfl
    have hc : (us.take (m + 1)).count (some k) = (us.take m).count (some k) + if us[m] = some k then 1 else 0 := by
      rw [List.take_add_one, List.getElem?_eq_getElem hm]
      simp only [Option.toList_some, List.count_append, List.count_singleton]
      congr 1
      by_cases e : us[m] = some k <;> simp [e]
    rw [take_snoc hz, jrun_snoc, ih]
    have hj : ∀ number, number < arr.length → inJob c arr k us number m = (jin c arr k ((us.take m).count (some k)) (us[m], m) && decide ((us.take m).count (some k) / c = number)) := by
      intro number hn
      unfold inJob jin low
      rw [hu]
      generalize hx : (us.take m).count (some k) / c = x
      cases us[m] with
      | none => simp
      | some j =>
        by_cases e : x = number
        · subst e
          simp [hn]
        · simp [e]
    refine Prod.ext ?_ ?_
    · show (if jin c arr k _ (us[m], m) then _ else _) = _
      apply List.ext_getElem?
      intro i
      rw [List.getElem?_map]
      by_cases hi : i < arr.length
      · rw [List.getElem?_range hi]
        simp only [Option.map_some, List.range_succ, List.filter_append, List.map_append, List.filter_cons, List.filter_nil]
        rw [hj i hi]
        by_cases hb : jin c arr k ((us.take m).count (some k)) (us[m], m) = true
        · simp only [hb, if_true, Bool.true_and]
          by_cases e : (us.take m).count (some k) / c = i
          · subst e
            rw [List.getElem?_set_self (by simpa using hi)]
            simp only [decide_true, if_true, List.map_cons, List.map_nil, hu]
            rw [List.getD_eq_getElem?_getD, List.getElem?_map, List.getElem?_range hi]
            rfl
          · rw [List.getElem?_set_ne e, List.getElem?_map, List.getElem?_range hi]
            simp [e]
        · rw [if_neg hb, List.getElem?_map, List.getElem?_range hi]
          simp [hb]
      · have h1 : (List.range arr.length)[i]? = none := List.getElem?_eq_none (by simpa using hi)
        rw [h1]
        apply List.getElem?_eq_none
        split <;> simp <;> omega
    · show _ + (if us[m] = some k then 1 else 0) = _
      rw [hc]
theorem rowsK_eq {c : Nat} {arr : List Int} {k : Nat} {us : List (Option Nat)} : rowsK c arr k us = (List.range arr.length).map (rowJ c arr k us) := by
  have h := jrun_take (c := c) (arr := arr) (k := k) (us := us) us.length (Nat.le_refl _)
  rw [List.take_of_length_le (by simp)] at h
  unfold rowsK
  rw [h]
  rfl
/-! the law's -/
def ownN (k : Nat) (us : List (Option Nat)) : List Nat := (List.range us.length).filter fun now => uv us now == some k
def begN (c k : Nat) (us : List (Option Nat)) (number : Nat) : Nat := if 0 < number * c ∧ number * c ≤ (ownN k us).length then (ownN k us).getD (number * c - 1) 0 + 1 else 0
def endN (c k : Nat) (us : List (Option Nat)) (number : Nat) : Nat := if (number + 1) * c ≤ (ownN k us).length then (ownN k us).getD ((number + 1) * c - 1) 0 else us.length
def rowL (c : Nat) (arr : List Int) (k : Nat) (us : List (Option Nat)) (number : Nat) : Row :=
  if number * c ≤ (ownN k us).length then ((List.range' (max (begN c k us number) (arr.getD number 0).toNat) (endN c k us number - max (begN c k us number) (arr.getD number 0).toNat)).filter fun now => low k (uv us now)).map fun now => (uv us now).getD 0 else []
theorem filter_range' {n b e : Nat} {p : Nat → Bool} (h : e ≤ n) : (List.range' b (e - b)).filter p = (List.range n).filter fun i => decide (b ≤ i) && (decide (i < e) && p i) := by
  by_cases hb : b ≤ e
  · have e1 : List.range n = List.range' 0 b ++ (List.range' b (e - b) ++ List.range' e (n - e)) := by
      rw [List.range_eq_range']
      have h1 : List.range' b (e - b) ++ List.range' e (n - e) = List.range' b (n - b) := by
        have := List.range'_append_1 (s := b) (m := e - b) (n := n - e)
        rw [show b + (e - b) = e by omega, show e - b + (n - e) = n - b by omega] at this
        exact this
      rw [h1]
      have := List.range'_append_1 (s := 0) (m := b) (n := n - b)
      rw [show 0 + b = b by omega, show b + (n - b) = n by omega] at this
      exact this.symm
    rw [e1, List.filter_append, List.filter_append]
    have f1 : (List.range' 0 b).filter (fun i => decide (b ≤ i) && (decide (i < e) && p i)) = [] := by
      rw [List.filter_eq_nil_iff]
      intro i hi
      have := List.mem_range'_1.mp hi
      simp
      omega
    have f3 : (List.range' e (n - e)).filter (fun i => decide (b ≤ i) && (decide (i < e) && p i)) = [] := by
      rw [List.filter_eq_nil_iff]
      intro i hi
      have := List.mem_range'_1.mp hi
      simp
      omega
    rw [f1, f3, List.nil_append, List.append_nil]
    apply List.filter_congr
    intro i hi
    have := List.mem_range'_1.mp hi
    have h1 : b ≤ i := by omega
    have h2 : i < e := by omega
    simp [h1, h2]
  · rw [show e - b = 0 by omega]
    symm
    simp only [List.range'_zero, List.filter_nil]
    rw [List.filter_eq_nil_iff]
    intro i hi
    simp
    omega
theorem own_split {k : Nat} {us : List (Option Nat)} {now : Nat} (h : now ≤ us.length) : ∃ A B, ownN k us = A ++ B ∧ A.length = (us.take now).count (some k) ∧ (∀ x ∈ A, x < now) ∧ ∀ x ∈ B, now ≤ x := by
  refine ⟨(List.range now).filter fun i => uv us i == some k, (List.range' now (us.length - now)).filter fun i => uv us i == some k, ?_, ?_, ?_, ?_⟩
  · unfold ownN
    have := List.range'_append_1 (s := 0) (m := now) (n := us.length - now)
    rw [show 0 + now = now by omega, show now + (us.length - now) = us.length by omega] at this
    rw [List.range_eq_range', ← this, List.filter_append, List.range_eq_range']
  · have : us.take now = (List.range now).map (uv us) := by
      apply List.ext_getElem?
      intro i
      by_cases hi : i < now
      · rw [List.getElem?_take_of_lt hi, List.getElem?_map, List.getElem?_range hi, List.getElem?_eq_getElem (by omega)]
        unfold uv
        rw [Option.map_some, List.getD_eq_getElem?_getD, List.getElem?_eq_getElem (by omega)]
        rfl
      · rw [List.getElem?_eq_none (by simp; omega), List.getElem?_eq_none (by simp; omega)]
    rw [this, List.count_eq_countP, List.countP_map, List.countP_eq_length_filter]
    rfl
  · intro x hx
    exact List.mem_range.mp (List.mem_filter.mp hx).1
  · intro x hx
    exact (List.mem_range'_1.mp (List.mem_filter.mp hx).1).1
theorem own_cnt {k : Nat} {us : List (Option Nat)} {now q : Nat} (h : now ≤ us.length) (hq : 0 < q) : q ≤ (us.take now).count (some k) ↔ q ≤ (ownN k us).length ∧ (ownN k us).getD (q - 1) 0 < now := by
  obtain ⟨A, B, e, l, a, b⟩ := own_split (k := k) h
  rw [← l, e, List.length_append]
  constructor
  · intro hl
    refine ⟨by omega, ?_⟩
    rw [List.getD_eq_getElem?_getD, List.getElem?_append_left (by omega), List.getElem?_eq_getElem (by omega)]
    exact a _ (List.getElem_mem _)
  · rintro ⟨h1, h2⟩
    refine Classical.byContradiction fun n => ?_
    rw [List.getD_eq_getElem?_getD, List.getElem?_append_right (by omega), List.getElem?_eq_getElem (by omega)] at h2
    have := b _ (List.getElem_mem (show q - 1 - A.length < B.length by omega))
    simp only [Option.getD_some] at h2
    omega
theorem own_get {k : Nat} {us : List (Option Nat)} {q : Nat} (h : q < (ownN k us).length) : (ownN k us).getD q 0 < us.length ∧ uv us ((ownN k us).getD q 0) = some k := by
  rw [List.getD_eq_getElem?_getD, List.getElem?_eq_getElem h]
  have := List.mem_filter.mp (List.getElem_mem h)
  simp at this
  exact this
theorem low_ne {k : Nat} {o : Option Nat} (h : low k o = true) : o ≠ some k := by
  intro e
  subst e
  simp [low] at h
theorem rowL_eq {c : Nat} {arr : List Int} {k : Nat} {us : List (Option Nat)} {number : Nat} (hc : 0 < c) (hn : number < arr.length) (ha : 0 ≤ arr.getD number 0) : rowL c arr k us number = rowJ c arr k us number := by
  have hend : endN c k us number ≤ us.length := by
    unfold endN
    split
    · rename_i h
      have hp : 0 < (number + 1) * c := Nat.mul_pos (by omega) hc
      exact Nat.le_of_lt (own_get (by omega)).1
    · exact Nat.le_refl _
  have hmul : (number + 1) * c = number * c + c := Nat.succ_mul _ _
  unfold rowL rowJ
  by_cases h0 : number * c ≤ (ownN k us).length
  · rw [if_pos h0, filter_range' hend]
    congr 1
    apply List.filter_congr
    intro now hnow
    have hnow := List.mem_range.mp hnow
    unfold inJob
    by_cases hl : low k (uv us now) = true
    · rw [hl]
      have hne := low_ne hl
      have hA := own_cnt (k := k) (us := us) (now := now) (q := (number + 1) * c) (by omega) (by rw [hmul]; omega)
      have hB : 0 < number * c → (number * c ≤ (us.take now).count (some k) ↔ number * c ≤ (ownN k us).length ∧ (ownN k us).getD (number * c - 1) 0 < now) := own_cnt (by omega)
      have hAl : (us.take now).count (some k) ≤ (ownN k us).length := by
        obtain ⟨A, B, e, l, _⟩ := own_split (k := k) (us := us) (now := now) (by omega)
        rw [← l, e, List.length_append]
        omega
      have hd : (us.take now).count (some k) / c = number ↔ number * c ≤ (us.take now).count (some k) ∧ (us.take now).count (some k) < (number + 1) * c := by
        constructor
        · intro e
          subst e
          exact ⟨Nat.div_mul_le_self _ _, by rw [hmul]; have := Nat.lt_div_mul_add (a := (us.take now).count (some k)) hc; omega⟩
        · rintro ⟨h1, h2⟩
          exact Nat.div_eq_of_lt_le h1 h2
      generalize (us.take now).count (some k) = a at *
      simp only [Bool.and_true]
      rw [Bool.eq_iff_iff]
      simp only [Bool.and_eq_true, decide_eq_true_iff]
      rw [hd]
      have hE : now < endN c k us number ↔ a < (number + 1) * c := by
        unfold endN
        by_cases c2 : (number + 1) * c ≤ (ownN k us).length
        · rw [if_pos c2]
          have hg := own_get (k := k) (us := us) (q := (number + 1) * c - 1) (by rw [hmul] at c2 ⊢; omega)
          have hx : now ≠ (ownN k us).getD ((number + 1) * c - 1) 0 := fun z => hne (by rw [z]; exact hg.2)
          omega
        · rw [if_neg c2]
          omega
      have hB2 : begN c k us number ≤ now ↔ number * c ≤ a := by
        unfold begN
        by_cases c2 : 0 < number * c
        · rw [if_pos ⟨c2, h0⟩]
          have := hB c2
          omega
        · rw [if_neg fun z => c2 z.1]
          omega
      rw [hE]
      constructor
      · rintro ⟨h1, h2⟩
        exact ⟨⟨hB2.mp (by omega), h2⟩, hn, by omega⟩
      · rintro ⟨⟨h1, h2⟩, _, h3⟩
        have := hB2.mpr h1
        exact ⟨by omega, h2⟩
    · simp [hl]
  · rw [if_neg h0]
    symm
    rw [List.map_eq_nil_iff, List.filter_eq_nil_iff]
    intro now hnow
    have hnow := List.mem_range.mp hnow
    unfold inJob
    simp only [Bool.and_eq_true, decide_eq_true_iff, not_and]
    intro e
    exfalso
    obtain ⟨A, B, e2, l, _⟩ := own_split (k := k) (us := us) (now := now) (by omega)
    have hAl : (us.take now).count (some k) ≤ (ownN k us).length := by
      rw [← l, e2, List.length_append]
      omega
    have : number * c ≤ (us.take now).count (some k) := by
      rw [← e]
      exact Nat.div_mul_le_self _ _
    omega
end Ev31
/-! ## P2 -/
set_option maxHeartbeats 4000000
/-! One blocker, few units: from two facts of a protocol. -/
namespace Ev31
open PySem L2 Dv
/-- sections that stand in u -/
def cover (ss : List Sec) (u : Nat) : List Sec := ss.filter fun s => decide (s.1 < (u : Int)) && decide ((u : Int) < s.1 + s.2.1)
def ends (ss : List Sec) (u : Nat) : List Nat := (cover ss u).map fun s => (s.1 + s.2.1).toNat
/-- the last end of the sections that stand in u -/
def reach (ss : List Sec) (u : Nat) : Nat := (ends ss u).foldr max 0
theorem foldr_max_mem : ∀ {l : List Nat}, l ≠ [] → l.foldr max 0 ∈ l
  | [], h => absurd rfl h
  | [a], _ => by simp
  | a :: b :: l, _ => by
    have ih := foldr_max_mem (l := b :: l) (by simp)
    rw [List.foldr_cons]
    rcases Nat.le_total a ((b :: l).foldr max 0) with h | h
    · rw [Nat.max_eq_right h]
      exact List.mem_cons_of_mem _ ih
    · rw [Nat.max_eq_left h]
      exact List.mem_cons_self
structure SecsOk (ss : List Sec) : Prop where
  pos : ∀ s ∈ ss, 0 ≤ s.1 ∧ 1 ≤ s.2.1
  lam : ∀ a ∈ ss, ∀ b ∈ ss, a.1 + a.2.1 ≤ b.1 ∨ b.1 + b.2.1 ≤ a.1 ∨ (a.1 ≤ b.1 ∧ b.1 + b.2.1 ≤ a.1 + a.2.1) ∨ (b.1 ≤ a.1 ∧ a.1 + a.2.1 ≤ b.1 + b.2.1)
theorem mem_cover {ss : List Sec} {u : Nat} {s : Sec} : s ∈ cover ss u ↔ s ∈ ss ∧ s.1 < (u : Int) ∧ (u : Int) < s.1 + s.2.1 := by
  unfold cover
  rw [List.mem_filter]
  simp
theorem reach_top {ss : List Sec} {u : Nat} (h : cover ss u ≠ []) : ∃ s ∈ cover ss u, reach ss u = (s.1 + s.2.1).toNat := by
  have : ends ss u ≠ [] := by
    unfold ends
    simpa using h
  have := foldr_max_mem this
  unfold ends at this
  obtain ⟨s, h1, h2⟩ := List.mem_map.mp this
  exact ⟨s, h1, h2.symm⟩
theorem reach_le {ss : List Sec} {u : Nat} {s : Sec} (h : s ∈ cover ss u) : (s.1 + s.2.1).toNat ≤ reach ss u := foldr_max (List.mem_map.mpr ⟨s, h, rfl⟩)
theorem reach_no {ss : List Sec} {u : Nat} (h : cover ss u = []) : reach ss u = 0 := by
  unfold reach ends
  rw [h]
  rfl
def pot (ss : List Sec) (u : Nat) : Nat := reach ss u - u
theorem pot_pos {ss : List Sec} {u : Nat} (h : cover ss u ≠ []) : 0 < pot ss u := by
  obtain ⟨s, h1, h2⟩ := reach_top h
  have := mem_cover.mp h1
  unfold pot
  omega
theorem cover_zero {ss : List Sec} (ok : SecsOk ss) : cover ss 0 = [] := by
  unfold cover
  rw [List.filter_eq_nil_iff]
  intro s hs
  have := (ok.pos s hs).1
  simp
  omega
theorem pot_step {ss : List Sec} (ok : SecsOk ss) {u : Nat} (h : cover ss u ≠ []) : 1 + pot ss (u + 1) ≤ pot ss u := by
  have hp := pot_pos h
  by_cases h2 : cover ss (u + 1) = []
  · unfold pot at *
    rw [reach_no h2]
    omega
  · obtain ⟨s', h3, h4⟩ := reach_top h2
    obtain ⟨s, h5, h6⟩ := reach_top h
    have m' := mem_cover.mp h3
    have m := mem_cover.mp h5
    have key : reach ss (u + 1) ≤ reach ss u := by
      by_cases c : s'.1 < (u : Int)
      · rw [h4]
        exact reach_le (mem_cover.mpr ⟨m'.1, c, by omega⟩)
      · have := ok.lam s m.1 s' m'.1
        rw [h4, h6]
        omega
    unfold pot at *
    omega


/-! the sections of a task that block k -/
def blkSecs (ts : List Task) (k j : Nat) : List Sec := (secs ts j).filter fun s => topLe ts s.2.2 k
theorem hit_cover {ts : List Task} {us : List Nat} {k j : Nat} : topHit ts us k j = true ↔ cover (blkSecs ts k j) (uAt us j) ≠ [] := by
  unfold topHit held heldOf
  rw [List.any_eq_true]
  have ne : ∀ l : List Sec, l ≠ [] ↔ ∃ s, s ∈ l := fun l => by
    cases l with
    | nil => simp
    | cons a l => simp
  rw [ne]
  constructor
  · rintro ⟨l, h1, h2⟩
    obtain ⟨s, h3, rfl⟩ := List.mem_map.mp h1
    obtain ⟨h4, h5⟩ := List.mem_filter.mp h3
    simp at h5
    exact ⟨s, mem_cover.mpr ⟨List.mem_filter.mpr ⟨h4, h2⟩, h5⟩⟩
  · rintro ⟨s, h⟩
    obtain ⟨h1, h2⟩ := mem_cover.mp h
    obtain ⟨h3, h4⟩ := List.mem_filter.mp h1
    exact ⟨s.2.2, List.mem_map.mpr ⟨s, List.mem_filter.mpr ⟨h3, by simpa using h2⟩, rfl⟩, h4⟩
theorem secs_ok {ts : List Task} (g : GoodTs ts) (j : Nat) : SecsOk (secs ts j) := by
  by_cases h : j < ts.length
  · rw [secs_get h]
    have gt := g.all _ (List.getElem_mem h)
    refine ⟨fun s hs => ?_, fun a ha b hb => ?_⟩
    · have := gt.sec s hs
      simp [isSec, isIn] at this
      omega
    · obtain ⟨x, hx, e1⟩ := List.mem_iff_getElem.mp ha
      obtain ⟨y, hy, e2⟩ := List.mem_iff_getElem.mp hb
      have key : ∀ {x y : Nat} {a b : Sec}, x < y → ts[j].2.2[x]? = some a → ts[j].2.2[y]? = some b → a.1 + a.2.1 ≤ b.1 ∨ b.1 + b.2.1 ≤ a.1 ∨ (a.1 ≤ b.1 ∧ b.1 + b.2.1 ≤ a.1 + a.2.1) ∨ (b.1 ≤ a.1 ∧ a.1 + a.2.1 ≤ b.1 + b.2.1) := by
        intro x y a b hxy h1 h2
        have := gt.fits x y a b hxy h1 h2
        unfold fit at this
        split at this
        · rename_i c
          simp at c
          omega
        · simp at this
          omega
      have gx : ts[j].2.2[x]? = some a := by rw [List.getElem?_eq_getElem hx, e1]
      have gy : ts[j].2.2[y]? = some b := by rw [List.getElem?_eq_getElem hy, e2]
      rcases Nat.lt_trichotomy x y with c | c | c
      · exact key c gx gy
      · subst c
        rw [gx] at gy
        cases gy
        omega
      · have := key c gy gx
        omega
  · unfold secs
    rw [List.getD_eq_getElem?_getD, List.getElem?_eq_none (by omega)]
    exact ⟨fun s hs => (nomatch hs), fun a ha => (nomatch ha)⟩
theorem blk_ok {ts : List Task} (g : GoodTs ts) (k j : Nat) : SecsOk (blkSecs ts k j) := by
  have h := secs_ok g j
  exact ⟨fun s hs => h.pos s (List.mem_filter.mp hs).1, fun a ha b hb => h.lam a (List.mem_filter.mp ha).1 b (List.mem_filter.mp hb).1⟩
/-! the worst section -/
def bestLe (b : Best) (n : Int) : Prop := ∃ x, b = some x ∧ n ≤ x.1
theorem wstep_ge {ts : List Task} {task k : Nat} {b : Best} {s : Sec} {n : Int} (h : bestLe b n) : bestLe (wstep ts task k b s) n := by
  obtain ⟨x, rfl, hx⟩ := h
  unfold wstep
  split
  · rename_i c
    rw [Bool.and_eq_true] at c
    have := c.2
    simp [better] at this
    exact ⟨_, rfl, by simp only; omega⟩
  · exact ⟨x, rfl, hx⟩
theorem wstep_new {ts : List Task} {task k : Nat} {b : Best} {s : Sec} (h : topLe ts s.2.2 task = true) : bestLe (wstep ts task k b s) s.2.1 := by
  unfold wstep
  split
  · exact ⟨_, rfl, Int.le_refl _⟩
  · rename_i c
    rw [h, Bool.true_and] at c
    cases b with
    | none => exact absurd rfl c
    | some x =>
      simp [better] at c
      exact ⟨x, rfl, c⟩
theorem foldl_ge {α : Type} {f : Best → α → Best} {n : Int} (h : ∀ b a, bestLe b n → bestLe (f b a) n) : ∀ (l : List α) (b : Best), bestLe b n → bestLe (l.foldl f b) n
  | [], _, hb => hb
  | a :: l, b, hb => foldl_ge h l _ (h b a hb)
theorem foldl_new {α : Type} {f : Best → α → Best} {n : Int} (h : ∀ b a, bestLe b n → bestLe (f b a) n) {x : α} (hx : ∀ b, bestLe (f b x) n) : ∀ (l : List α) (b : Best), x ∈ l → bestLe (l.foldl f b) n
  | a :: l, b, hm => by
    rcases List.mem_cons.mp hm with e | hm
    · subst e
      exact foldl_ge h l _ (hx b)
    · exact foldl_new h hx l _ hm
theorem wrow_ge {ts : List Task} {task : Nat} {n : Int} (b : Best) (k : Nat) (h : bestLe b n) : bestLe (wrow ts task b k) n := foldl_ge (fun _ _ => wstep_ge) _ _ h
theorem worst_ge {ts : List Task} {task j : Nat} {s : Sec} (hj : task < j) (hj2 : j < ts.length) (hs : s ∈ secs ts j) (ht : topLe ts s.2.2 task = true) : s.2.1 - 1 ≤ wblock ts task := by
  have : bestLe (worst ts task) s.2.1 := by
    unfold worst
    refine foldl_new (f := wrow ts task) (x := j) (fun b a => wrow_ge b a) (fun b => ?_) _ _ (List.mem_range'_1.mpr (by omega))
    unfold wrow
    exact foldl_new (f := wstep ts task j) (fun _ _ => wstep_ge) (x := s) (fun b => wstep_new ht) _ _ hs
  obtain ⟨x, e, h⟩ := this
  unfold wblock
  rw [e]
  show _ ≤ x.1 - 1
  omega
theorem worst_nn {ts : List Task} (g : GoodTs ts) {task : Nat} : 0 ≤ wblock ts task := by
  have key : ∀ b : Best, (∀ x, b = some x → 1 ≤ x.1) → ∀ (j : Nat), (∀ x, wrow ts task b j = some x → 1 ≤ x.1) := by
    intro b hb j
    unfold wrow
    have hs := (secs_ok g j).pos
    generalize secs ts j = l at hs
    induction l generalizing b with
    | nil => exact hb
    | cons s l ih =>
      rw [List.foldl_cons]
      refine ih _ (fun x hx => ?_) fun t ht => hs t (List.mem_cons_of_mem _ ht)
      unfold wstep at hx
      split at hx
      · cases hx
        exact (hs s List.mem_cons_self).2
      · exact hb x hx
  have key2 : ∀ (l : List Nat) (b : Best), (∀ x, b = some x → 1 ≤ x.1) → ∀ x, l.foldl (wrow ts task) b = some x → 1 ≤ x.1 := by
    intro l
    induction l with
    | nil => intro b hb; exact hb
    | cons j l ih => intro b hb; exact ih _ (key b hb j)
  unfold wblock
  cases e : worst ts task with
  | none => exact Int.le_refl 0
  | some x =>
    have := key2 _ none (fun x hx => by cases hx) x e
    show 0 ≤ x.1 - 1
    omega
theorem pot_worst {ts : List Task} (g : GoodTs ts) {k j u : Nat} (hk : k < j) (hj : j < ts.length) : ((pot (blkSecs ts k j) u : Nat) : Int) ≤ wblock ts k := by
  have h0 := worst_nn g (task := k)
  by_cases c : cover (blkSecs ts k j) u = []
  · unfold pot
    rw [reach_no c]
    omega
  · obtain ⟨s, h1, h2⟩ := reach_top c
    obtain ⟨h3, h4, h5⟩ := mem_cover.mp h1
    obtain ⟨h6, h7⟩ := List.mem_filter.mp h3
    have := worst_ge hk hj h6 h7
    have hp := ((secs_ok g j).pos s h6)
    unfold pot
    rw [h2]
    omega
end Ev31
/-! ## P3 -/
set_option maxHeartbeats 4000000
/-! One blocker, few units: the count. -/
namespace Ev31
open PySem L2 Dv
abbrev usN (S : Lk) (t : Nat) : List Nat := (stN S t).units
abbrev dnN (S : Lk) (t : Nat) : List Nat := (stN S t).done
abbrev rdN (S : Lk) (t : Nat) : List Nat := ready S.pat (dnN S t) t
abbrev nxN (S : Lk) (t : Nat) : Option Nat := next (stN S t) t
structure Prot (S : Lk) : Prop where
  inn : S.In
  A : ∀ t k j, k ∈ rdN S t → nxN S t = some j → k < j → topHit S.ts (usN S t) k j = true
  U : ∀ t k i j, k < i → k < j → topHit S.ts (usN S t) k i = true → topHit S.ts (usN S t) k j = true → i = j
/-- the job of k with this number is there -/
def Alive (S : Lk) (k number t : Nat) : Prop := uAt (dnN S t) k = number ∧ k ∈ rdN S t
instance {S : Lk} {k number t : Nat} : Decidable (Alive S k number t) := by unfold Alive; infer_instance
def cnd (S : Lk) (k number t : Nat) : Bool := decide (Alive S k number t) && low k (nxN S t)
def seg (S : Lk) (k number t d : Nat) : Row := ((List.range' t d).filter (cnd S k number)).map fun now => (nxN S now).getD 0
theorem step_units {S : Lk} (h : S.In) (t k : Nat) : uAt (usN S (t + 1)) k = (if nxN S t = some k then (if ((uAt (usN S t) k : Nat) : Int) + 1 = cost S.ts k then 0 else uAt (usN S t) k + 1) else uAt (usN S t) k) := by
  have hin := stN_in h t
  have hts := (stN_keep S t).1
  show uAt ((stN S t).turn (next (stN S t) t)).units k = _
  unfold nxN
  cases e : next (stN S t) t with
  | none => simp [Lk.turn]
  | some r =>
    have := (work_done hin.ok (next_lt hin.ok e) k).2
    show uAt ((stN S t).work r).units k = _
    rw [this, hts]
    by_cases c : r = k
    · subst c
      simp
    · simp [c]
theorem step_done {S : Lk} (h : S.In) (t k : Nat) : uAt (dnN S (t + 1)) k = (if nxN S t = some k ∧ ((uAt (usN S t) k : Nat) : Int) + 1 = cost S.ts k then uAt (dnN S t) k + 1 else uAt (dnN S t) k) := by
  have hin := stN_in h t
  have hts := (stN_keep S t).1
  show uAt ((stN S t).turn (next (stN S t) t)).done k = _
  unfold nxN
  cases e : next (stN S t) t with
  | none => simp [Lk.turn]
  | some r =>
    have := (work_done hin.ok (next_lt hin.ok e) k).1
    show uAt ((stN S t).work r).done k = _
    rw [this, hts]
    by_cases c : r = k
    · subst c
      simp
    · simp [c]
theorem mem_ready {pat : List (List Int)} {done : List Nat} {t k : Nat} : k ∈ ready pat done t ↔ k < pat.length ∧ uAt done k < (pat.getD k []).length ∧ (pat.getD k []).getD (uAt done k) 0 ≤ (t : Int) := by
  unfold ready
  rw [List.mem_filter, List.mem_range]
  unfold rdy rdyA
  simp
theorem alive_step {S : Lk} {k number t : Nat} (h : Alive S k number t) (e : uAt (dnN S (t + 1)) k = uAt (dnN S t) k) : Alive S k number (t + 1) := by
  obtain ⟨h1, h2⟩ := h
  refine ⟨e.trans h1, ?_⟩
  unfold rdN at *
  rw [mem_ready] at h2 ⊢
  rw [e]
  exact ⟨h2.1, h2.2.1, by omega⟩
theorem done_mono {S : Lk} (h : S.In) (k : Nat) : ∀ (d t : Nat), uAt (dnN S t) k ≤ uAt (dnN S (t + d)) k
  | 0, t => Nat.le_refl _
  | d + 1, t => by
    have := done_mono h k d t
    have e := step_done h (t + d) k
    rw [show t + (d + 1) = t + d + 1 by omega, e]
    split <;> omega
theorem seg_dead {S : Lk} (h : S.In) {k number t : Nat} (hd : number < uAt (dnN S t) k) (d : Nat) : seg S k number t d = [] := by
  unfold seg
  rw [List.map_eq_nil_iff, List.filter_eq_nil_iff]
  intro x hx
  have hx := List.mem_range'_1.mp hx
  have := done_mono h k (x - t) t
  rw [show t + (x - t) = x by omega] at this
  unfold cnd
  rw [Bool.and_eq_true, decide_eq_true_iff]
  rintro ⟨⟨a, _⟩, _⟩
  omega
theorem seg_cons {S : Lk} {k number t d : Nat} : seg S k number t (d + 1) = (if cnd S k number t then [(nxN S t).getD 0] else []) ++ seg S k number (t + 1) d := by
  unfold seg
  rw [List.range'_succ, List.filter_cons]
  split <;> simp
theorem hit_units {ts : List Task} {us vs : List Nat} {k j : Nat} (h : uAt us j = uAt vs j) : topHit ts us k j = topHit ts vs k j := by
  unfold topHit held
  rw [h]
theorem seg_main {S : Lk} (P : Prot S) {k number : Nat} : ∀ (d t j : Nat), Alive S k number t → k < j → (∀ i, k < i → topHit S.ts (usN S t) k i = true → i = j) →
    (∀ x ∈ seg S k number t d, x = j) ∧ (seg S k number t d).length ≤ pot (blkSecs S.ts k j) (uAt (usN S t) j)
  | 0, t, j, _, _, _ => ⟨fun x hx => by simp [seg] at hx, by simp [seg]⟩
  | d + 1, t, j, ha, hk, hj => by
    have ok := blk_ok P.inn.ok.good k j
    rw [seg_cons]
    have hr2 := ha.2
    have ha1 := ha.1
    by_cases hl : low k (nxN S t) = true
    · -- a lower task runs
      obtain ⟨r, e⟩ : ∃ r, nxN S t = some r := by
        cases e : nxN S t with
        | none => rw [e] at hl; cases hl
        | some r => exact ⟨r, rfl⟩
      have hkr : k < r := by
        rw [e] at hl
        simpa [low] using hl
      have hit := P.A t k r hr2 e hkr
      have er := hj r hkr hit
      subst er
      have hc : cnd S k number t = true := by
        unfold cnd
        rw [hl, decide_eq_true ha]
        rfl
      rw [if_pos hc, e]
      have hne : ¬ nxN S t = some k := fun z => by
        rw [e] at z
        have := Option.some.inj z
        omega
      have hd : uAt (dnN S (t + 1)) k = uAt (dnN S t) k := by
        rw [step_done P.inn, if_neg fun z => hne z.1]
      have hj' : ∀ i, k < i → topHit S.ts (usN S (t + 1)) k i = true → i = r := fun i hi h => by
        refine Classical.byContradiction fun n => n (hj i hi ?_)
        have hu : uAt (usN S (t + 1)) i = uAt (usN S t) i := by
          rw [step_units P.inn, if_neg fun z => n (Option.some.inj (z.symm.trans e))]
        rw [hit_units hu] at h
        exact h
      obtain ⟨ih1, ih2⟩ := seg_main P d (t + 1) r (alive_step ha hd) hk hj'
      refine ⟨fun x hx => ?_, ?_⟩
      · rcases List.mem_append.mp hx with z | z
        · simpa using z
        · exact ih1 x z
      · have hcov := hit_cover.mp hit
        have hu := step_units P.inn t r
        rw [if_pos e] at hu
        have hp := pot_pos hcov
        have hps := pot_step ok hcov
        have : 1 + pot (blkSecs S.ts k r) (uAt (usN S (t + 1)) r) ≤ pot (blkSecs S.ts k r) (uAt (usN S t) r) := by
          rw [hu]
          split
          · have : pot (blkSecs S.ts k r) 0 = 0 := by
              unfold pot
              rw [reach_no (cover_zero ok)]
            omega
          · exact hps
        rw [List.length_append, List.length_singleton]
        omega
    · have hc : cnd S k number t = false := by
        unfold cnd
        rw [Bool.eq_false_iff.mpr hl, Bool.and_false]
      rw [if_neg (by rw [hc]; exact Bool.false_ne_true), List.nil_append]
      by_cases hd : uAt (dnN S (t + 1)) k = uAt (dnN S t) k
      · have hu : ∀ i, k < i → uAt (usN S (t + 1)) i = uAt (usN S t) i := fun i hi => by
          rw [step_units P.inn, if_neg fun z => hl (by rw [z]; simpa [low] using hi)]
        have hj' : ∀ i, k < i → topHit S.ts (usN S (t + 1)) k i = true → i = j := fun i hi h => hj i hi (by rw [← hit_units (hu i hi)]; exact h)
        have ih := seg_main P d (t + 1) j (alive_step ha hd) hk hj'
        rw [hu j hk] at ih
        exact ih
      · have : number < uAt (dnN S (t + 1)) k := by
          have e := step_done P.inn t k
          split at e <;> omega
        rw [seg_dead P.inn this]
        exact ⟨fun x hx => (nomatch hx), Nat.zero_le _⟩
theorem seg_all {S : Lk} (P : Prot S) {k number : Nat} : ∀ (d t : Nat), ∃ j, (∀ x ∈ seg S k number t d, x = j) ∧ (((seg S k number t d).length : Nat) : Int) ≤ wblock S.ts k
  | 0, t => ⟨0, fun x hx => by simp [seg] at hx, by simpa [seg] using worst_nn P.inn.ok.good⟩
  | d + 1, t => by
    by_cases ha : Alive S k number t
    · by_cases hj : ∃ j, k < j ∧ topHit S.ts (usN S t) k j = true
      · obtain ⟨j, hk, hit⟩ := hj
        have hjl : j < S.ts.length := by
          refine Classical.byContradiction fun n => ?_
          rw [hit_cover] at hit
          apply hit
          unfold cover blkSecs secs
          rw [List.getD_eq_getElem?_getD, List.getElem?_eq_none (by omega)]
          rfl
        obtain ⟨h1, h2⟩ := seg_main P (d + 1) t j ha hk fun i hi h => P.U t k i j hi hk h hit
        refine ⟨j, h1, ?_⟩
        have := pot_worst P.inn.ok.good (u := uAt (usN S t) j) hk hjl
        omega
      · obtain ⟨h1, h2⟩ := seg_main P (d + 1) t (k + 1) ha (Nat.lt_succ_self k) fun i hi h => absurd ⟨i, hi, h⟩ hj
        refine ⟨k + 1, h1, ?_⟩
        have hcov : cover (blkSecs S.ts k (k + 1)) (uAt (usN S t) (k + 1)) = [] := by
          refine Classical.byContradiction fun n => hj ⟨k + 1, Nat.lt_succ_self k, hit_cover.mpr n⟩
        have : pot (blkSecs S.ts k (k + 1)) (uAt (usN S t) (k + 1)) = 0 := by
          unfold pot
          rw [reach_no hcov]
          omega
        have := worst_nn P.inn.ok.good (task := k)
        omega
    · have hc : cnd S k number t = false := by
        unfold cnd
        rw [decide_eq_false ha, Bool.false_and]
      rw [seg_cons, if_neg (by rw [hc]; exact Bool.false_ne_true), List.nil_append]
      exact seg_all P d (t + 1)
theorem row_seg {S : Lk} (h : S.In) (h0 : ∀ k, uAt S.done k = 0 ∧ uAt S.units k = 0) {k number m : Nat} (hk : k < S.ts.length) : rowJ (cost S.ts k).toNat (S.pat.getD k []) k (runN S m) number = seg S k number 0 m := by
  unfold rowJ seg
  rw [runN_len, List.range_eq_range']
  have huv : ∀ now, now < m → uv (runN S m) now = nxN S now := fun now hn => by
    unfold uv runN
    rw [List.getD_eq_getElem?_getD, List.getElem?_map, List.getElem?_range hn]
    rfl
  have hf : (List.range' 0 m).filter (inJob (cost S.ts k).toNat (S.pat.getD k []) k (runN S m) number) = (List.range' 0 m).filter (cnd S k number) := by
    apply List.filter_congr
    intro now hn
    have hn := List.mem_range'_1.mp hn
    unfold inJob cnd
    rw [huv now (by omega), runN_take S (by omega)]
    have : (runN S now).count (some k) = cnt S k now := rfl
    rw [this, cnt_div h h0 hk]
    have hkp : k < S.pat.length := by rw [h.ok.pat.len]; exact hk
    have hal : Alive S k number now ↔ uAt (stN S now).done k = number ∧ number < (S.pat.getD k []).length ∧ (S.pat.getD k []).getD number 0 ≤ (now : Int) := by
      unfold Alive rdN
      rw [mem_ready]
      constructor
      · rintro ⟨e, _, h2, h3⟩
        rw [e] at h2 h3
        exact ⟨e, h2, h3⟩
      · rintro ⟨e, h2, h3⟩
        rw [e]
        exact ⟨rfl, hkp, h2, h3⟩
    have : decide (Alive S k number now) = (decide (uAt (stN S now).done k = number) && (decide (number < (S.pat.getD k []).length) && decide ((S.pat.getD k []).getD number 0 ≤ (now : Int)))) := by
      rw [Bool.eq_iff_iff]
      simp only [Bool.and_eq_true, decide_eq_true_iff]
      exact hal
    rw [this]
    simp only [Bool.and_assoc]
  rw [hf]
  apply List.map_congr_left
  intro now hn
  have hn := List.mem_range'_1.mp (List.mem_filter.mp hn).1
  rw [huv now (by omega)]
/-- what is asked of a row -/
theorem row_good {S : Lk} (P : Prot S) (h0 : ∀ k, uAt S.done k = 0 ∧ uAt S.units k = 0) {k number m : Nat} (hk : k < S.ts.length) : (∃ j, ∀ x ∈ rowJ (cost S.ts k).toNat (S.pat.getD k []) k (runN S m) number, x = j) ∧
    (((rowJ (cost S.ts k).toNat (S.pat.getD k []) k (runN S m) number).length : Nat) : Int) ≤ wblock S.ts k := by
  rw [row_seg P.inn h0 hk]
  obtain ⟨j, h1, h2⟩ := seg_all P (k := k) (number := number) m 0
  exact ⟨⟨j, h1⟩, h2⟩
end Ev31
/-! ## P4 -/
set_option maxHeartbeats 4000000
/-! The ceiling protocol, the stack protocol: two facts. -/
namespace Ev31
open PySem L2 Dv Gx
theorem topLe_mono {ts : List Task} {l : Int} {a b : Nat} (h : a ≤ b) (q : topLe ts l a = true) : topLe ts l b = true := by
  unfold topLe at *
  cases e : top_ ts l with
  | none => rw [e] at q; cases q
  | some j =>
    rw [e] at q
    have := of_decide_eq_true q
    exact decide_eq_true (by omega)
theorem hit_mono {ts : List Task} {us : List Nat} {a b j : Nat} (h : a ≤ b) (q : topHit ts us a j = true) : topHit ts us b j = true := by
  unfold topHit at *
  rw [List.any_eq_true] at *
  obtain ⟨l, h1, h2⟩ := q
  exact ⟨l, h1, topLe_mono h h2⟩
theorem held_top {ts : List Task} {us : List Nat} {k : Nat} {l : Int} (hk : k < ts.length) (hl : l ∈ held ts us k) : topLe ts l k = true := by
  unfold held heldOf at hl
  obtain ⟨s, hs, rfl⟩ := List.mem_map.mp hl
  have hm := (List.mem_filter.mp hs).1
  rw [secs_get hk] at hm
  obtain ⟨j, h2, h3⟩ := topFrom_some (k := 0) (List.getElem?_eq_getElem hk) (has_mem hm)
  unfold topLe top_
  rw [h2]
  exact decide_eq_true (by omega)
theorem held_lt {ts : List Task} {us : List Nat} {k : Nat} {l : Int} (hl : l ∈ held ts us k) : k < ts.length := by
  refine Classical.byContradiction fun n => ?_
  unfold held heldOf secs at hl
  rw [List.getD_eq_getElem?_getD, List.getElem?_eq_none (by omega)] at hl
  cases hl
theorem held_pos {ts : List Task} (g : GoodTs ts) {us : List Nat} {k : Nat} {l : Int} (hl : l ∈ held ts us k) : 0 < uAt us k := by
  unfold held heldOf at hl
  obtain ⟨s, hs, rfl⟩ := List.mem_map.mp hl
  obtain ⟨h1, h2⟩ := List.mem_filter.mp hs
  have := (secs_ok g k).pos s h1
  simp at h2
  omega
theorem hit_held {ts : List Task} {us : List Nat} {k j : Nat} (h : topHit ts us k j = true) : ∃ l, l ∈ held ts us j := by
  unfold topHit at h
  rw [List.any_eq_true] at h
  obtain ⟨l, h1, _⟩ := h
  exact ⟨l, h1⟩
theorem held_new {ss : List Sec} {u : Nat} {l : Int} (h : l ∈ heldOf ss (u + 1)) : l ∈ heldOf ss u ∨ (wantOf ss u).isEmpty = false := by
  unfold heldOf at *
  obtain ⟨s, hs, rfl⟩ := List.mem_map.mp h
  obtain ⟨h1, h2⟩ := List.mem_filter.mp hs
  simp at h2
  by_cases c : s.1 = (u : Int)
  · right
    have : s.2.2 ∈ wantOf ss u := by
      unfold wantOf
      refine List.mem_map.mpr ⟨s, List.mem_filter.mpr ⟨h1, ?_⟩, rfl⟩
      rw [c]
      simp
    cases e : wantOf ss u with
    | nil => rw [e] at this; cases this
    | cons a b => rfl
  · left
    refine List.mem_map.mpr ⟨s, List.mem_filter.mpr ⟨h1, ?_⟩, rfl⟩
    simp
    omega
theorem argMin_le {kf : Nat → KD} : ∀ {l : List Nat} {m x : Nat}, argMin kf l = some m → x ∈ l → (kf m).1 ≤ (kf x).1
  | [], m, x, q, _ => by simp [argMin] at q
  | y :: ys, m, x, q, hx => by
    unfold argMin at q
    cases q2 : argMin kf ys with
    | none =>
      rw [q2] at q
      cases q
      have := argMin_none.mp q2
      subst this
      rw [List.mem_singleton.mp hx]
      exact Int.le_refl _
    | some z =>
      rw [q2] at q
      have q : (if kLt (kf z) (kf y) = true then some z else some y) = some m := q
      by_cases e : kLt (kf z) (kf y) = true
      · rw [if_pos e] at q
        cases q
        have hle : (kf m).1 ≤ (kf y).1 := by
          simp [kLt] at e
          omega
        rcases List.mem_cons.mp hx with c | c
        · rw [c]; exact hle
        · exact argMin_le q2 c
      · rw [if_neg e] at q
        cases q
        have hle : (kf y).1 ≤ (kf z).1 := by
          simp [kLt] at e
          omega
        rcases List.mem_cons.mp hx with c | c
        · rw [c]; exact Int.le_refl _
        · have := argMin_le q2 c
          omega
/-! a moment of the run -/
abbrev wsN (S : Lk) (t : Nat) : Nat → List Nat := waits S.pr S.ts (usN S t) (rdN S t)
abbrev cuN (S : Lk) (t : Nat) : Nat → Nat := currents S.pr S.ts (usN S t) (rdN S t) (wsN S t)
theorem nx_pick {S : Lk} {t : Nat} : nxN S t = argMin (keyOf (usN S t) (cuN S t)) ((rdN S t).filter fun k => (wsN S t k).isEmpty) := by
  obtain ⟨a, b, c⟩ := stN_keep S t
  show pick (stN S t).pr (stN S t).ts (stN S t).units (ready (stN S t).pat (stN S t).done t) = _
  rw [a, b, c]
  rfl
theorem nx_ready {S : Lk} {t j : Nat} (h : nxN S t = some j) : j ∈ rdN S t := by
  rw [nx_pick] at h
  exact (List.mem_filter.mp (argMin_mem h)).1
theorem nx_free {S : Lk} {t j : Nat} (h : nxN S t = some j) : wsN S t j = [] := by
  rw [nx_pick] at h
  have := (List.mem_filter.mp (argMin_mem h)).2
  exact List.isEmpty_iff.mp this
theorem nx_least {S : Lk} {t j x : Nat} (h : nxN S t = some j) (hx : x ∈ rdN S t) (hw : wsN S t x = []) : cuN S t j ≤ cuN S t x := by
  rw [nx_pick] at h
  have := argMin_le h (x := x) (List.mem_filter.mpr ⟨hx, by rw [hw]; rfl⟩)
  unfold keyOf at this
  simp only at this
  omega
theorem begun_ready {S : Lk} (h : S.In) (h0 : ∀ k, uAt S.done k = 0 ∧ uAt S.units k = 0) : ∀ (t j : Nat), 0 < uAt (usN S t) j → j ∈ rdN S t
  | 0, j, hj => by
    have := (h0 j).2
    have hj : 0 < uAt S.units j := hj
    omega
  | t + 1, j, hj => by
    have e1 := step_units h t j
    have e2 := step_done h t j
    by_cases c : nxN S t = some j
    · by_cases c2 : ((uAt (usN S t) j : Nat) : Int) + 1 = cost S.ts j
      · rw [if_pos c, if_pos c2] at e1
        omega
      · rw [if_neg fun z => c2 z.2] at e2
        exact (alive_step ⟨rfl, nx_ready c⟩ e2).2
    · rw [if_neg c] at e1
      rw [if_neg fun z => c z.1] at e2
      exact (alive_step ⟨rfl, begun_ready h h0 t j (by omega)⟩ e2).2
/-- what is held after a turn was held before, or was wanted, or the job is over -/
theorem held_step {S : Lk} (h : S.In) {t j : Nat} {l : Int} (hl : l ∈ held S.ts (usN S (t + 1)) j) : l ∈ held S.ts (usN S t) j ∨ (nxN S t = some j ∧ (wanted S.ts (usN S t) j).isEmpty = false) := by
  have hp := held_pos h.ok.good hl
  have e1 := step_units h t j
  by_cases c : nxN S t = some j
  · by_cases c2 : ((uAt (usN S t) j : Nat) : Int) + 1 = cost S.ts j
    · rw [if_pos c, if_pos c2] at e1
      omega
    · rw [if_pos c, if_neg c2] at e1
      unfold held at hl
      rw [e1] at hl
      rcases held_new hl with z | z
      · exact .inl z
      · exact .inr ⟨c, z⟩
  · rw [if_neg c] at e1
    unfold held at hl ⊢
    rw [e1] at hl
    exact .inl hl
theorem hit_other {S : Lk} (h : S.In) {t k j : Nat} (c : nxN S t ≠ some j) (q : topHit S.ts (usN S (t + 1)) k j = true) : topHit S.ts (usN S t) k j = true := by
  have e1 := step_units h t j
  rw [if_neg c] at e1
  rw [hit_units e1] at q
  exact q
theorem lt_of_rd {S : Lk} (h : S.In) {t k : Nat} (hk : k ∈ rdN S t) : k < S.ts.length := by
  unfold rdN at hk
  rw [mem_ready] at hk
  rw [← h.ok.pat.len]
  exact hk.1
/-! ### the ceiling protocol -/
theorem waits_ceil {ts : List Task} {us rd : List Nat} {k : Nat} : waits "ceiling" ts us rd k = if (wanted ts us k).isEmpty then [] else rd.filter fun j => decide (j ≠ k) && topHit ts us k j := by
  unfold waits
  rw [if_neg (by decide)]
  split
  · rfl
  · rw [if_pos rfl]
theorem ceil_inv {S : Lk} (h : S.In) (h0 : ∀ k, uAt S.done k = 0 ∧ uAt S.units k = 0) (hp : S.pr = "ceiling") : ∀ (t a b : Nat), a < b → (∃ l, l ∈ held S.ts (usN S t) a) → topHit S.ts (usN S t) a b = true → False
  | 0, a, b, _, ⟨l, hl⟩, _ => by
    have h1 := held_pos h.ok.good hl
    have h2 : uAt (usN S 0) a = 0 := (h0 a).2
    omega
  | t + 1, a, b, hab, ⟨l, hl⟩, hit => by
    have ih := ceil_inv h h0 hp t a b hab
    have free : ∀ r, nxN S t = some r → (wanted S.ts (usN S t) r).isEmpty = false → ∀ j ∈ rdN S t, j ≠ r → topHit S.ts (usN S t) r j = true → False := by
      intro r hr hw j hj hne hh
      have hf := nx_free hr
      unfold wsN at hf
      rw [hp, waits_ceil, if_neg (by rw [hw]; exact Bool.false_ne_true)] at hf
      have : j ∈ (rdN S t).filter fun j => decide (j ≠ r) && topHit S.ts (usN S t) r j := List.mem_filter.mpr ⟨hj, by rw [hh]; simpa using hne⟩
      rw [hf] at this
      cases this
    by_cases ca : nxN S t = some a
    · have cb : nxN S t ≠ some b := fun z => by
        rw [ca] at z
        have := Option.some.inj z
        omega
      have hit' := hit_other h cb hit
      rcases held_step h hl with z | z
      · exact ih ⟨l, z⟩ hit'
      · obtain ⟨lb, hlb⟩ := hit_held hit'
        exact free a ca z.2 b (begun_ready h h0 t b (held_pos h.ok.good hlb)) (by omega) hit'
    · have hla : l ∈ held S.ts (usN S t) a := by
        rcases held_step h hl with z | z
        · exact z
        · exact absurd z.1 ca
      by_cases cb : nxN S t = some b
      · unfold topHit at hit
        rw [List.any_eq_true] at hit
        obtain ⟨lb, hlb, htop⟩ := hit
        rcases held_step h hlb with z | z
        · refine ih ⟨l, hla⟩ ?_
          unfold topHit
          rw [List.any_eq_true]
          exact ⟨lb, z, htop⟩
        · refine free b cb z.2 a (begun_ready h h0 t a (held_pos h.ok.good hla)) (by omega) ?_
          unfold topHit
          rw [List.any_eq_true]
          exact ⟨l, hla, topLe_mono (Nat.le_of_lt hab) (held_top (held_lt hla) hla)⟩
      · exact ih ⟨l, hla⟩ (hit_other h cb hit)
/-! chains of jobs that wait -/
inductive Chain (ws : Nat → List Nat) : Nat → Nat → Prop
  | one {y x : Nat} : x ∈ ws y → Chain ws y x
  | snoc {y x z : Nat} : Chain ws y x → z ∈ ws x → Chain ws y z
theorem Chain.last {ws : Nat → List Nat} {y x : Nat} (c : Chain ws y x) : ∃ w, x ∈ ws w := by
  cases c with
  | one h => exact ⟨_, h⟩
  | snoc _ h => exact ⟨_, h⟩
/-- what a priority comes from -/
def From (ws : Nat → List Nat) (c : Nat → Nat) : Prop := ∀ x, c x = x ∨ Chain ws (c x) x
theorem from_inh0 {ws : Nat → List Nat} {c : Nat → Nat} {k o : Nat} (h : From ws c) (ho : o ∈ ws k) : From ws (inh0 k c o) := by
  intro x
  unfold inh0 updN
  by_cases e : x = o
  · subst e
    rw [if_pos rfl]
    rcases Nat.le_total (c x) (c k) with q | q
    · rw [Nat.min_eq_left q]
      exact h x
    · rw [Nat.min_eq_right q]
      rcases h k with z | z
      · rw [z]
        exact .inr (.one ho)
      · exact .inr (.snoc z ho)
  · rw [if_neg e]
    exact h x
theorem foldl_keep {α β : Type} {f : β → α → β} {M : β → Prop} : ∀ {l : List α} {b : β}, M b → (∀ b a, a ∈ l → M b → M (f b a)) → M (l.foldl f b)
  | [], _, h, _ => h
  | a :: l, b, h, hs => by
    rw [List.foldl_cons]
    exact foldl_keep (hs b a List.mem_cons_self h) fun b x hx => hs b x (List.mem_cons_of_mem _ hx)
theorem from_inh1 {ws : Nat → List Nat} {c : Nat → Nat} {k : Nat} (h : From ws c) : From ws (inh1 ws c k) := foldl_keep h fun _ _ ho hb => from_inh0 hb ho
theorem from_inhT {ws : Nat → List Nat} {c : Nat → Nat} {some : List Nat} {k : Nat} (h : From ws c) : From ws (inhT some ws c k) := foldl_keep h fun _ _ _ hb => from_inh1 hb
theorem cur_from {ts : List Task} {us rd : List Nat} {ws : Nat → List Nat} : From ws (currents "ceiling" ts us rd ws) := by
  unfold currents
  have h0 : From ws (cur1 "ceiling" ts us rd) := by
    intro x
    unfold cur1
    rw [if_neg (by decide)]
    exact .inl rfl
  split
  · exact foldl_keep h0 fun _ _ _ hb => from_inhT hb
  · exact h0
theorem inh0_le {c : Nat → Nat} {k o x : Nat} : inh0 k c o x ≤ c x := by
  unfold inh0 updN
  split
  · rename_i e
    rw [e]
    omega
  · exact Nat.le_refl _
theorem foldl_le {α : Type} {f : (Nat → Nat) → α → (Nat → Nat)} (hf : ∀ c a x, f c a x ≤ c x) : ∀ (l : List α) (c : Nat → Nat) (x : Nat), l.foldl f c x ≤ c x
  | [], _, _ => Nat.le_refl _
  | a :: l, c, x => Nat.le_trans (foldl_le hf l _ x) (hf c a x)
theorem inh1_le {ws : Nat → List Nat} {c : Nat → Nat} {k x : Nat} : inh1 ws c k x ≤ c x := foldl_le (fun _ _ _ => inh0_le) _ _ _
theorem inhT_le {some : List Nat} {ws : Nat → List Nat} {c : Nat → Nat} {t x : Nat} : inhT some ws c t x ≤ c x := foldl_le (fun _ _ _ => inh1_le) _ _ _
/-- after a row of folds each of which only lessens, one of them at a -/
theorem foldl_at {α : Type} {f : (Nat → Nat) → α → (Nat → Nat)} (hf : ∀ c a x, f c a x ≤ c x) {a : α} {x n : Nat} {c0 : Nat → Nat} (ha : ∀ c, (∀ y, c y ≤ c0 y) → f c a x ≤ n) : ∀ (l : List α) (c : Nat → Nat), (∀ y, c y ≤ c0 y) → a ∈ l → l.foldl f c x ≤ n
  | b :: l, c, hc, hm => by
    rcases List.mem_cons.mp hm with e | hm
    · subst e
      exact Nat.le_trans (foldl_le hf l _ x) (ha c hc)
    · exact foldl_at hf ha l _ (fun y => Nat.le_trans (hf c b y) (hc y)) hm
theorem inh0_at {c : Nat → Nat} {k o : Nat} : inh0 k c o o ≤ c k := by
  unfold inh0 updN
  rw [if_pos rfl]
  exact Nat.min_le_right _ _
theorem inh1_at {ws : Nat → List Nat} {c c0 : Nat → Nat} {k o : Nat} (ho : o ∈ ws k) (hc : ∀ y, c y ≤ c0 y) : inh1 ws c k o ≤ c0 k :=
  foldl_at (f := inh0 k) (fun _ _ _ => inh0_le) (a := o) (fun d hd => Nat.le_trans inh0_at (hd k)) (ws k) c hc ho
theorem inhT_at {some : List Nat} {ws : Nat → List Nat} {c c0 : Nat → Nat} {k o t : Nat} (hk : k ∈ some) (ho : o ∈ ws k) (hc : ∀ y, c y ≤ c0 y) : inhT some ws c t o ≤ c0 k :=
  foldl_at (f := inh1 ws) (fun _ _ _ => inh1_le) (a := k) (fun d hd => inh1_at ho hd) some c hc hk
theorem cur_ceil_le {ts : List Task} {us rd : List Nat} {ws : Nat → List Nat} {k o : Nat} (hk : k ∈ rd) (ho : o ∈ ws k) : currents "ceiling" ts us rd ws o ≤ k := by
  unfold currents
  have e : cur1 "ceiling" ts us rd = fun k => k := by
    unfold cur1
    rw [if_neg (by decide)]
  rw [if_pos (by decide), e]
  exact foldl_at (fun _ _ _ => inhT_le) (a := k) (c0 := fun k => k) (fun d hd => inhT_at (c0 := fun k => k) hk ho hd) rd _ (fun _ => Nat.le_refl _) hk
theorem cur_ceil_self {ts : List Task} {us rd : List Nat} {ws : Nat → List Nat} {k : Nat} : currents "ceiling" ts us rd ws k ≤ k := by
  unfold currents
  have e : cur1 "ceiling" ts us rd = fun k => k := by
    unfold cur1
    rw [if_neg (by decide)]
  rw [if_pos (by decide), e]
  exact foldl_le (fun _ _ _ => inhT_le) rd _ k
theorem ceil_mem {S : Lk} (hp : S.pr = "ceiling") {t k j : Nat} (h : j ∈ wsN S t k) : j ∈ rdN S t ∧ j ≠ k ∧ topHit S.ts (usN S t) k j = true := by
  unfold wsN at h
  rw [hp, waits_ceil] at h
  split at h
  · cases h
  · have := List.mem_filter.mp h
    simp at this
    exact ⟨this.1, this.2.1, this.2.2⟩
theorem ceil_prot {S : Lk} (h : S.In) (h0 : ∀ k, uAt S.done k = 0 ∧ uAt S.units k = 0) (hp : S.pr = "ceiling") : Prot S := by
  have inv := ceil_inv h h0 hp
  -- who is waited for, and waits
  have two : ∀ t w x z, x ∈ wsN S t w → z ∈ wsN S t x → z < x ∧ z < w := by
    intro t w x z hx hz
    obtain ⟨hx1, hx2, hx3⟩ := ceil_mem hp hx
    obtain ⟨hz1, hz2, hz3⟩ := ceil_mem hp hz
    have hzx : z < x := by
      refine Classical.byContradiction fun n => inv t x z (by omega) (hit_held hx3) hz3
    refine ⟨hzx, Classical.byContradiction fun n => inv t z x hzx (hit_held hz3) (hit_mono (by omega) hx3)⟩
  have chain : ∀ t y x, Chain (wsN S t) y x → x ∈ wsN S t y ∨ x < y := by
    intro t y x c
    induction c with
    | one h => exact .inl h
    | @snoc x z c hz ih =>
      obtain ⟨w, hw⟩ := c.last
      have h2 := two t w x z hw hz
      rcases ih with q | q
      · exact .inr (two t _ x z q hz).2
      · exact .inr (by omega)
  have low1 : ∀ t k j, cuN S t j ≤ k → k < j → topHit S.ts (usN S t) k j = true := by
    intro t k j hc hk
    have hf := cur_from (ts := S.ts) (us := usN S t) (rd := rdN S t) (ws := wsN S t) j
    rw [← hp] at hf
    have hf : cuN S t j = j ∨ Chain (wsN S t) (cuN S t j) j := hf
    rcases hf with z | z
    · omega
    · rcases chain t _ _ z with q | q
      · exact hit_mono hc (ceil_mem hp q).2.2
      · omega
  have free : ∀ t x, x ∈ rdN S t → ∃ y ∈ rdN S t, wsN S t y = [] ∧ cuN S t y ≤ x := by
    intro t x
    induction x using Nat.strongRecOn with
    | ind x ih =>
      intro hx
      cases e : wsN S t x with
      | nil =>
        refine ⟨x, hx, e, ?_⟩
        unfold cuN
        rw [hp]
        exact cur_ceil_self
      | cons y1 r =>
        have h1 : y1 ∈ wsN S t x := by rw [e]; exact List.mem_cons_self
        have h2 := ceil_mem hp h1
        cases e2 : wsN S t y1 with
        | nil =>
          refine ⟨y1, h2.1, e2, ?_⟩
          unfold cuN
          rw [hp]
          exact cur_ceil_le hx h1
        | cons y2 r2 =>
          have h3 : y2 ∈ wsN S t y1 := by rw [e2]; exact List.mem_cons_self
          have h4 := two t x y1 y2 h1 h3
          obtain ⟨y, a, b, c⟩ := ih y2 h4.2 (ceil_mem hp h3).1
          exact ⟨y, a, b, by omega⟩
  refine ⟨h, fun t k j hk hj hkj => ?_, fun t k i j hi hj h1 h2 => ?_⟩
  · obtain ⟨y, a, b, c⟩ := free t k hk
    have := nx_least hj a b
    exact low1 t k j (by omega) hkj
  · rcases Nat.lt_trichotomy i j with c | c | c
    · exact (inv t i j c (hit_held h1) (hit_mono (by omega) h2)).elim
    · exact c
    · exact (inv t j i c (hit_held h2) (hit_mono (by omega) h1)).elim
/-! ### the stack protocol -/
theorem waits_stack {ts : List Task} {us rd : List Nat} {k : Nat} : waits "stack" ts us rd k = if 0 < uAt us k then [] else rd.filter fun j => decide (j ≠ k) && topHit ts us k j := by
  unfold waits
  rw [if_pos rfl]
theorem low_other {ts : List Task} {us : List Nat} : ∀ (l : List Nat) (c : Nat → Nat) (k : Nat), k ∉ l → l.foldl (lowStep ts us) c k = c k
  | [], _, _, _ => rfl
  | a :: l, c, k, h => by
    rw [List.foldl_cons, low_other l _ k fun z => h (List.mem_cons_of_mem _ z)]
    unfold lowStep updN
    rw [if_neg fun z => h (by rw [z]; exact List.mem_cons_self)]
theorem low_mem {ts : List Task} {us : List Nat} : ∀ (l : List Nat) (c : Nat → Nat) (k : Nat), k ∈ l → l.foldl (lowStep ts us) c k = minTop ts us k
  | a :: l, c, k, h => by
    rw [List.foldl_cons]
    by_cases q : k ∈ l
    · exact low_mem l _ k q
    · rw [low_other l _ k q]
      rcases List.mem_cons.mp h with e | e
      · subst e
        unfold lowStep updN
        rw [if_pos rfl]
      · exact absurd e q
theorem cur_stack {S : Lk} (hp : S.pr = "stack") {t k : Nat} (hk : k ∈ rdN S t) : cuN S t k = minTop S.ts (usN S t) k := by
  unfold cuN currents
  rw [hp, if_neg (by decide)]
  unfold cur1
  rw [if_pos rfl]
  exact low_mem _ _ k hk
theorem minTop_le {ts : List Task} {us : List Nat} {k : Nat} : minTop ts us k ≤ k := (foldl_min_le (held ts us k) k).1
theorem minTop_hit {ts : List Task} {us : List Nat} {k x : Nat} (h : minTop ts us k ≤ x) (hx : x < k) : topHit ts us x k = true := by
  rcases (foldl_min_le (f := fun l => (top_ ts l).getD k) (held ts us k) k).2.2 with q | ⟨l, hl, q⟩
  · unfold minTop at h
    omega
  · unfold topHit
    rw [List.any_eq_true]
    refine ⟨l, hl, ?_⟩
    unfold minTop at h
    rw [q] at h
    unfold topLe
    cases e : top_ ts l with
    | none =>
      rw [e] at h
      have h : k ≤ x := h
      omega
    | some j =>
      rw [e] at h
      exact decide_eq_true h
theorem minTop_top {ts : List Task} {us : List Nat} {k x : Nat} (h : topHit ts us x k = true) : minTop ts us k ≤ x := by
  unfold topHit at h
  rw [List.any_eq_true] at h
  obtain ⟨l, hl, ht⟩ := h
  have := (foldl_min_le (f := fun l => (top_ ts l).getD k) (held ts us k) k).2.1 l hl
  unfold topLe at ht
  unfold minTop
  cases e : top_ ts l with
  | none => rw [e] at ht; cases ht
  | some j =>
    rw [e] at ht this
    have ht := of_decide_eq_true ht
    have this : _ ≤ j := this
    omega
theorem stack_begun {S : Lk} (hp : S.pr = "stack") {t k : Nat} (h : 0 < uAt (usN S t) k) : wsN S t k = [] := by
  unfold wsN
  rw [hp, waits_stack, if_pos h]
theorem stack_nobody {S : Lk} (hp : S.pr = "stack") {t k : Nat} (h : ¬ 0 < uAt (usN S t) k) (hw : wsN S t k = []) : ∀ j ∈ rdN S t, j ≠ k → topHit S.ts (usN S t) k j = true → False := by
  intro j hj hne hh
  unfold wsN at hw
  rw [hp, waits_stack, if_neg h] at hw
  have : j ∈ (rdN S t).filter fun j => decide (j ≠ k) && topHit S.ts (usN S t) k j := List.mem_filter.mpr ⟨hj, by rw [hh]; simpa using hne⟩
  rw [hw] at this
  cases this
/-- behind a begun job nobody lower runs who holds nothing that matters -/
theorem stack_run {S : Lk} (h : S.In) (h0 : ∀ k, uAt S.done k = 0 ∧ uAt S.units k = 0) (hp : S.pr = "stack") {t a b : Nat} (hab : a < b) (ha : 0 < uAt (usN S t) a) (hb : nxN S t = some b) : topHit S.ts (usN S t) a b = true := by
  have hra := begun_ready h h0 t a ha
  have := nx_least hb hra (stack_begun hp ha)
  rw [cur_stack hp hra, cur_stack hp (nx_ready hb)] at this
  have := minTop_le (ts := S.ts) (us := usN S t) (k := a)
  exact minTop_hit (by omega) hab
theorem stack_inv {S : Lk} (h : S.In) (h0 : ∀ k, uAt S.done k = 0 ∧ uAt S.units k = 0) (hp : S.pr = "stack") : ∀ (t a b : Nat), a < b → 0 < uAt (usN S t) a → topHit S.ts (usN S t) a b = true → False
  | 0, a, b, _, ha, _ => by
    have := (h0 a).2
    have ha : 0 < uAt S.units a := ha
    omega
  | t + 1, a, b, hab, ha, hit => by
    have ih := stack_inv h h0 hp t a b hab
    by_cases ca : nxN S t = some a
    · have cb : nxN S t ≠ some b := fun z => by
        rw [ca] at z
        have := Option.some.inj z
        omega
      have hit' := hit_other h cb hit
      by_cases c0 : 0 < uAt (usN S t) a
      · exact ih c0 hit'
      · obtain ⟨lb, hlb⟩ := hit_held hit'
        exact stack_nobody hp c0 (nx_free ca) b (begun_ready h h0 t b (held_pos h.ok.good hlb)) (by omega) hit'
    · have e1 := step_units h t a
      rw [if_neg ca] at e1
      have ha' : 0 < uAt (usN S t) a := by omega
      by_cases cb : nxN S t = some b
      · exact ih ha' (stack_run h h0 hp hab ha' cb)
      · exact ih ha' (hit_other h cb hit)
theorem stack_prot {S : Lk} (h : S.In) (h0 : ∀ k, uAt S.done k = 0 ∧ uAt S.units k = 0) (hp : S.pr = "stack") : Prot S := by
  have inv := stack_inv h h0 hp
  refine ⟨h, fun t k j hk hj hkj => ?_, fun t k i j hi hj h1 h2 => ?_⟩
  · have notbegun : ∀ a, a < j → ¬ 0 < uAt (usN S t) a := fun a ha hu => inv t a j ha hu (stack_run h h0 hp ha hu hj)
    have hu := notbegun k hkj
    have hrj := nx_ready hj
    have lowcur : ∀ x ∈ rdN S t, wsN S t x = [] → cuN S t x ≤ k → topHit S.ts (usN S t) k j = true := by
      intro x hx hw hc
      have := nx_least hj hx hw
      rw [cur_stack hp hrj] at this
      exact minTop_hit (by omega) hkj
    cases e : wsN S t k with
    | nil =>
      refine lowcur k hk e ?_
      rw [cur_stack hp hk]
      exact minTop_le
    | cons b r =>
      have hb : b ∈ wsN S t k := by rw [e]; exact List.mem_cons_self
      unfold wsN at hb
      rw [hp, waits_stack, if_neg hu] at hb
      have hb := List.mem_filter.mp hb
      simp at hb
      obtain ⟨hb1, hb2, hb3⟩ := hb
      obtain ⟨l, hl⟩ := hit_held hb3
      have hub := held_pos h.ok.good hl
      refine lowcur b hb1 (stack_begun hp hub) ?_
      rw [cur_stack hp hb1]
      exact minTop_top hb3
  · rcases Nat.lt_trichotomy i j with c | c | c
    · obtain ⟨l, hl⟩ := hit_held h1
      exact (inv t i j c (held_pos h.ok.good hl) (hit_mono (by omega) h2)).elim
    · exact c
    · obtain ⟨l, hl⟩ := hit_held h2
      exact (inv t j i c (held_pos h.ok.good hl) (hit_mono (by omega) h1)).elim
end Ev31
/-! ## DvX -/
set_option maxHeartbeats 4000000
/-! sorted(set(xs)), xs a list of small ints. -/
namespace Dv
open PySem PySem.Spec PyProof.Rows L2 Gx
/-- the set that the first i of ns make, in order to be walked -/
def Upto (w : World) (h : Heap) (S : Addr) (ns : List Int) (i : Nat) : Prop := ∃ n, n ≤ i ∧ SetR w h S (fun j => decide (j ∈ ns.take i)) n
theorem Upto.keep {w : World} {h h' : Heap} {S : Addr} {ns : List Int} {i : Nat} (k : ∀ o, h.get? S = some o → h'.get? S = some o) (u : Upto w h S ns i) : Upto w h' S ns i := by
  obtain ⟨n, hn, r⟩ := u
  exact ⟨n, hn, r.at k⟩
section
variable {prog : Program} {w : World} {A : Around} {R : Result → Shared → Prop} {I : Addr} {fp wr : List Addr} {G : Array GenState → Array GenState → Prop} {n : Nat} {P : Nat → Value → Prop} {St : Nat → Shared → Prop}
theorem update_loop (W : WalksS prog w A.in1 I fp wr G n P St) (S : Addr) (hf : S ∉ fp) (ns : List Int) (hn : ns.length = n) (hv : ∀ i v, P i v → ∃ t, v = .int (ns.getD i 0) t) (hb : n + 1 < scanBound) (k : Nat) : ∀ (i : Nat) (s : Shared), n = i + k → St i s → Upto w s.heap S ns i →
      (∀ s', Moved (S :: wr) G s s' → Upto w s'.heap S ns n → R (.ok (.ret .none)) s') → codeAny (model prog w) A (.builtin "set.update.loop" ⟨[.ref S, .ref I], []⟩) R s := by
  have nw : S ∉ wr := fun z => hf (W.sub _ z)
  have up : ∀ b, b ∈ wr → b ∈ S :: wr := fun _ => List.mem_cons_of_mem _
  induction k with
  | zero =>
    intro i s e st u r
    obtain rfl : i = n := by omega
    refine codeAny_builtin PyProof.Rows.F.entry_set_update_loop ?_
    rw [Around.under_plainId PyProof.Rows.F.plain_set_update_loop _]
    refine (show wpAny _ A.in1 (pyNext (.ref I) >>= _) _ _ s from wpAny_bind (W.done s _ _ st fun s' mv => ?_))
    exact (show wpAny _ A.in1 (ret Value.none) _ _ s' from wpAny_pure (r s' (mv.mono up) (u.keep (mv.heap S · nw))))
  | succ k ih =>
    intro i s e st u r
    have lt : i < n := by omega
    refine codeAny_builtin PyProof.Rows.F.entry_set_update_loop ?_
    rw [Around.under_plainId PyProof.Rows.F.plain_set_update_loop _]
    refine (show wpAny _ A.in1 (pyNext (.ref I) >>= _) _ _ s from wpAny_bind (W.item i s _ _ lt st fun v s1 pv st1 mv => ?_))
    obtain ⟨t, rfl⟩ := hv i v pv
    obtain ⟨c, hc, su⟩ := u.keep (mv.heap S · nw)
    refine (show wpAny _ A.in1 (holding [Value.int (ns.getD i 0) t] (setAdd S (.int (ns.getD i 0) t)) >>= _) _ _ s1 from wpAny_bind (wpAny_holding ?_))
    unfold setAdd
    refine wpAny_holding (wpAny_bind ((intKind prog w).pyHash (k := ns.getD i 0) (intKind_is _ _ _ _) ?_))
    refine setR_add_hashed (s := { s1 with toks := s1.toks + 1 }) su (by omega) fun h' sb s2 => ?_
    have u2 : Upto w h' S ns (i + 1) := by
      refine ⟨_, ?_, s2.congr fun j => ?_⟩
      · have le : ∀ (q : Prop) [Decidable q], (if q then c else c + 1) ≤ i + 1 := fun q _ => by
          split <;> omega
        exact le _
      · have : ns[i]? = some (ns.getD i 0) := by
          rw [List.getD_eq_getElem?_getD, List.getElem?_eq_getElem (by omega)]
          rfl
        rw [List.take_add_one, this, ← Bool.decide_or]
        simp only [List.mem_append, Option.toList_some, List.mem_singleton]
    refine wpAny_pure ⟨plainId_quiet PyProof.Rows.F.plain_set_update_loop _, ih (i + 1) _ (by omega) (W.frame _ s1 _ _ st1 (Nat.le_succ _) fun b hb o q => ?_) u2 fun s3 mv3 u3 => ?_⟩
    · rw [sb.2 b fun z => hf (z ▸ hb)]
      exact q
    · refine r s3 (Moved.trans W.gtrans ((mv.mono up).then_heap (Nat.le_succ _) fun b o hb q => ?_) mv3) u3
      rw [sb.2 b fun z => hb (z ▸ List.mem_cons_self)]
      exact q
end

/-- how a new set keeps its table -/
abbrev ledOf (w : World) : Bool := !w.params.followText "set-order"
abbrev setObj (w : World) : Obj := { cls := .type "set", dict := none, data := .set #[] 0 (.fresh 0 0 (ledOf w)) }
section
variable {prog : Program} {w : World} {A : Around} {E : Value → Shared → Prop} {s : Shared}
theorem made1 (a : Value) {M : Value → Shared → Prop} (h : M (.ref s.heap.objs.size) { s with heap := s.heap.push (setObj w) }) :
    codeAny (model prog w) A (.call (.builtin "set.__new__") ⟨[.type "set", a], []⟩) (wants M E) s := by
  refine codeAny_of_tree (show wpAny _ A.in1 (do checkBuiltinCall "set.__new__" ⟨[.type "set", a], []⟩; again (.builtin "set.__new__" ⟨[.type "set", a], []⟩)) _ _ s from ?_)
  refine wpAny_bind (wpAny_of_eq (PySem.F.newCall_set_1 a) (wpAny_pure ⟨plainId_quiet F.plain_set_new _, codeAny_builtin F.entry_set_new ?_⟩))
  rw [Around.under_plainId F.plain_set_new _]
  have sub := sub_set_self
  unfold Builtin.«set.__new__» Builtin.Frozenset.newClass
  obtain ⟨hp, g, d, tk, os⟩ := s
  dsimp only
  wp_walk
  refine wpAny_askSetting (wpAny_pure ?_)
  simp only [newObj]
  exact wpAny_bind (wpAny_alloc (wpAny_pure (wpAny_pure h)))
theorem call_setL {l : Addr} {its : Array Value} {ns : List Int} {Q : Value → Shared → Prop} (hh : A.handled = none) (hl : s.heap.IsList l its) (hi : PyProof.Rows.IntsAre its.toList ns) (hn : ns.length = its.size) (hb : its.size + 1 < scanBound)
    (k : ∀ (h' : Heap) (tk : Nat), Upto w h' s.heap.objs.size ns its.size → (∀ b o, b < s.heap.objs.size → s.heap.get? b = some o → h'.get? b = some o) → Q (.ref s.heap.objs.size) { s with heap := h', toks := tk }) :
    wpAny (model prog w) A (call (.type "set") [.ref l]) Q E s := by
  obtain ⟨c, tl, hmro⟩ := PySem.F.called_set.mro
  have c1 := PySem.F.called_set.made
  have c2 := PySem.F.called_set.sub
  have c3 := PySem.F.called_set.notType
  have c4 := PySem.F.called_set.canCreate
  have c5 := PySem.F.typeCall_set_1 (.ref l)
  refine wpAny_call (codeAny_of_tree (show wpAny _ _ (callAny (.type "set") _) _ _ _ from ?_))
  refine wpAny_pure ⟨Code.quiet_builtin _ (by decide +kernel), codeAny_builtin F.entry_type_call ?_⟩
  rw [Around.under_plain (weight_type_call_type "set" [.ref l] []) rfl]
  repeat (any_goals (first | assumption | wp_step))
  refine codeAny_mono (made1 (.ref l) (E := E) (M := fun v s1 => v = .ref s.heap.objs.size ∧ s1 = { s with heap := s.heap.push (setObj w) }) ⟨rfl, rfl⟩) fun r s1 hr => ?_
  cases r with
  | error e => exact hr
  | ok fl =>
    cases fl with
    | ret v =>
      obtain ⟨rfl, rfl⟩ := hr
      have at1 : (s.heap.push (setObj w)).get? s.heap.objs.size = some (setObj w) := Heap.get?_push_size _ rfl
      have ty : Shared.TypeIs { s with heap := s.heap.push (setObj w) } (.ref s.heap.objs.size) "set" := ⟨_, at1, rfl⟩
      have c6 := PySem.F.called_set.init.lookup
      have c7 := PySem.F.called_set.init.bind (.ref s.heap.objs.size)
      repeat (any_goals (first | assumption | wp_step))
      refine codeAny_mono (codeAny_call_builtin (R := wants (fun r s2 => r = .none ∧ ∃ h' tk, s2 = { s with heap := h', toks := tk } ∧ Upto w h' s.heap.objs.size ns its.size ∧ ∀ b o, b < s.heap.objs.size → s.heap.get? b = some o → h'.get? b = some o) E)
        PySem.F.called_set.init.plain PySem.F.entry_set_init (check_set_init_1 ty ?_)) fun r2 s2 hr2 => ?_
      · obtain ⟨ol, g1, g2, nl, g3⟩ := hl
        obtain ⟨a1, a2, a3, a4⟩ := ol
        simp only at g2 g3
        subst g2 g3
        have at2 : (s.heap.push (setObj w)).get? l = some { cls := .type "list", dict := a2, data := .seq its nl, slots := a4 } := Heap.get?_push_of_some _ g1
        have d1 := PySem.F.sub_list_set
        have d2 := PySem.F.sub_list_frozenset
        have d3 : (Value.type "list" == Value.type "dict") = false := by decide
        have hl1 : (s.heap.push (setObj w)).IsList l its := ⟨_, at2, rfl, nl, rfl⟩
        have ll : l < s.heap.objs.size := Heap.lt_size g1
        have sz : (s.heap.push (setObj w)).objs.size = s.heap.objs.size + 1 := Heap.size_push _ _
        have n1 : l ≠ (s.heap.push (setObj w)).objs.size := by
          rw [sz]
          exact Nat.ne_of_lt (Nat.lt_succ_of_lt ll)
        have n2 : s.heap.objs.size ∉ [(s.heap.push (setObj w)).objs.size, l] := by
          rw [sz]
          intro z
          rcases List.mem_cons.mp z with z | z
          · exact Nat.ne_of_lt (Nat.lt_succ_self _) z
          · exact Nat.ne_of_gt ll (List.mem_singleton.mp z)
        have n3 : ∀ b, b < s.heap.objs.size → b ∉ [s.heap.objs.size, (s.heap.push (setObj w)).objs.size] := fun b hb z => by
          rw [sz] at z
          rcases List.mem_cons.mp z with z | z
          · exact Nat.ne_of_lt hb z
          · exact Nat.ne_of_lt (Nat.lt_succ_of_lt hb) (List.mem_singleton.mp z)
        unfold Builtin.«set.__init__» noKeywords Builtin.Frozenset.updateFrom
        generalize hPI : pyIter = PI
        wp_walk
        subst hPI
        refine wpAny_pyIter_list hl1 (wpAny_bind (wpAny_runValue ?_))
        refine update_loop ((Walks.list (show A.in1.in1.in1.handled = none by simp [hh]) _ l n1 its).toS) s.heap.objs.size n2 ns hn
          (fun i v hv => PyProof.Rows.IntsAre.int_at hi i v (by rw [Array.getElem?_toList]; exact hv)) hb its.size 0 _ (by omega) ⟨⟨_, Heap.get?_push_size _ rfl, rfl, rfl⟩, hl1.push _⟩ ?_ fun s3 mv u => ?_
        · refine ⟨0, Nat.le_refl _, SetR.congr ((setR_fresh w).at fun o q => Heap.get?_push_of_some _ q) fun j => ?_⟩
          simp
        · obtain ⟨h3, g3, d3', t3, o3⟩ := s3
          have e1 : g3 = s.gens := mv.gens
          have e2 : d3' = s.drawn := mv.drawn
          have e3 : o3 = s.os := mv.os
          subst e1 e2 e3
          refine (show wpAny _ _ _ _ _ _ from wpAny_pure (show wpAny _ _ (ret Value.none) _ _ _ from wpAny_pure ⟨rfl, h3, t3, rfl, u, fun b o hlt q => ?_⟩))
          exact mv.heap b o (n3 b hlt) (Heap.get?_push_of_some _ (Heap.get?_push_of_some _ q))
      · cases r2 with
        | error e => exact hr2
        | ok f2 =>
          cases f2 with
          | ret r =>
            obtain ⟨rfl, h', tk, rfl, u, kk⟩ := hr2
            repeat (any_goals (first | assumption | wp_step))
            exact k _ _ u kk
          | _ => exact hr2.elim
    | _ => exact hr.elim
end
end Dv
/-! ## DvY -/
set_option maxHeartbeats 4000000
/-! sorted(set(xs)): the rule. -/
namespace Dv
open PySem PySem.Spec PyProof.Rows L2 Gx
/-- the members below b, in order -/
def sset (b : Nat) (ns : List Int) : List Int := ((List.range b).map fun (i : Nat) => (i : Int)).filter fun x => decide (x ∈ ns)
theorem asc_eq : ∀ {l m : List Int}, l.Pairwise (· < ·) → m.Pairwise (· < ·) → (∀ x, x ∈ l ↔ x ∈ m) → l = m
  | [], [], _, _, _ => rfl
  | [], b :: m, _, _, h => absurd ((h b).mpr List.mem_cons_self) (by simp)
  | a :: l, [], _, _, h => absurd ((h a).mp List.mem_cons_self) (by simp)
  | a :: l, b :: m, hl, hm, h => by
    obtain ⟨h1, h2⟩ := List.pairwise_cons.mp hl
    obtain ⟨h3, h4⟩ := List.pairwise_cons.mp hm
    have e : a = b := by
      rcases List.mem_cons.mp ((h a).mp List.mem_cons_self) with z | z
      · exact z
      · rcases List.mem_cons.mp ((h b).mpr List.mem_cons_self) with y | y
        · exact y.symm
        · have := h3 a z
          have := h1 b y
          omega
    subst e
    refine congrArg _ (asc_eq h2 h4 fun x => ?_)
    constructor
    · intro hx
      rcases List.mem_cons.mp ((h x).mp (List.mem_cons_of_mem _ hx)) with z | z
      · have := h1 x hx
        omega
      · exact z
    · intro hx
      rcases List.mem_cons.mp ((h x).mpr (List.mem_cons_of_mem _ hx)) with z | z
      · have := h3 x hx
        omega
      · exact z
theorem sset_asc (b : Nat) (ns : List Int) : (sset b ns).Pairwise (· < ·) := by
  refine List.Pairwise.filter _ (List.pairwise_map.mpr ?_)
  exact List.pairwise_lt_range.imp fun h => by omega
theorem sset_mem {b : Nat} {ns : List Int} (hb : ∀ x ∈ ns, 0 ≤ x ∧ x < (b : Int)) (x : Int) : x ∈ sset b ns ↔ x ∈ ns := by
  unfold sset
  rw [List.mem_filter, decide_eq_true_iff]
  refine ⟨fun h => h.2, fun h => ⟨?_, h⟩⟩
  have := hb x h
  exact List.mem_map.mpr ⟨x.toNat, List.mem_range.mpr (by omega), by omega⟩
theorem few_distinct : ∀ (b : Nat) (l : List Int), l.Nodup → (∀ x ∈ l, 0 ≤ x ∧ x < (b : Int)) → l.length ≤ b
  | 0, [], _, _ => Nat.le_refl _
  | 0, a :: l, _, h => by
    have := h a List.mem_cons_self
    omega
  | b + 1, l, hn, h => by
    have h1 : (l.erase (b : Int)).length ≤ b := few_distinct b _ (hn.erase _) fun x hx => by
      have h2 := hn.mem_erase_iff.mp hx
      have := h x h2.2
      have := h2.1
      omega
    have := List.length_erase (a := (b : Int)) (l := l)
    split at this <;> omega
section
variable {X : Cx} {T : TbL} {Γ : List (Option D)} {a : Expr} {pos p p2 q : Pos}
theorem setR_few {w : World} {h : Heap} {S : Addr} {f : Int → Bool} {n b : Nat} (r : SetR w h S f n) (hb : ∀ x, f x = true → 0 ≤ x ∧ x < (b : Int)) : n ≤ b := by
  obtain ⟨o, es, ep, t, _, _, _, _, nd, hm, _, _, hn, _⟩ := r
  have := few_distinct b _ nd fun x hx => hb x ((hm x).mpr hx)
  rw [List.length_map, Array.length_toList] at this
  omega
def tSortSet (K : PySem.W.Frag) (ta : TE) : TE := fun σ H Q => ta σ H fun x H1 => ∃ (l : Addr) (ns : List Int) (b : Nat), x = .ref l ∧ SqL K H1 l (ns.map V.int) ∧ ns.length ≤ 4000 ∧ b < 64 ∧ (∀ x ∈ ns, 0 ≤ x ∧ x < (b : Int)) ∧ ∀ p, H1 p = none → Q (.ref p) (upd H1 p (.lst ((sset b ns).map V.int)))
theorem pe_sortSet {ta : TE} (hg : Gl X "sorted") (hm : X.mg "sorted" = none) (hg2 : Gl X "set") (hm2 : X.mg "set" = none) (ha : PE X a ta) (hc : X.calm = true) (hb1 : bootBuiltins "sorted" = some (.builtin "sorted"))
    (na : starEach [a] X.env = (false, eval a X.env) :: starEach [] X.env := by rfl) : PE X (.Call (.Name "sorted" p) [.Call (.Name "set" p2) [a] [] q] [] pos) (tSortSet X.K ta) := by
  refine ⟨fun pins s σ H Q I h => Call_ (ld_blt I hg hm hb1 (PyProof.Rows.callWith_builtin1 (PyProof.Rows.args_cons (Call_ (ld_blt I hg2 hm2 boot_set (PyProof.Rows.callWith_type1 (PyProof.Rows.args_cons (thn (ha.run pins s σ H _ I h) fun v s1 ⟨x, H1, I1, r1, q1⟩ => PyProof.Rows.args_nil ?_) na) na rfl))) rfl) rfl rfl))⟩
  obtain ⟨l, ns, b, rfl, hq, hl, hb, hbd, q1⟩ := q1
  cases r1
  obtain ⟨its, r, pl, hz⟩ := I1.list hq
  have hlen : its.toArray.size = ns.length := by rw [List.size_toArray, ← r.length, List.length_map]
  refine call_setL (I1.ok.hd hc) pl.isList (by simpa using r.ints) hlen.symm (by rw [hlen]; unfold scanBound; omega) fun h' tk ⟨n, _, hS⟩ hk => PyProof.Rows.args_nil ?_
  have I2 : Inv X pins σ H1 { s1 with heap := h', toks := tk } := I1.kept fun b o e => hk b o (Heap.lt_size e) e
  rw [hlen, List.take_length] at hS
  have hn := setR_few hS fun x hx => hbd x (of_decide_eq_true hx)
  refine sorted_set hS (I2.ok.hd hc) (by omega) fun s' p out c ms k g o hp hg hi hs hm _ => ?_
  have em : ms = sset b ns := asc_eq hs (sset_asc b ns) fun x => by rw [sset_mem hbd, hm x, decide_eq_true_iff]
  subst em
  have hn0 : H1 p = none := I2.hok.fresh hp
  have hml : ((sset b ns).map V.int).length ≤ sizeLine := by
    rw [List.length_map, sizeLine_eq]
    have := few_distinct b _ ((sset_asc b ns).imp fun h => Int.ne_of_lt h) fun x hx => hbd x ((sset_mem hbd x).mp hx)
    omega
  have J : Inv X pins σ (upd H1 p (.lst ((sset b ns).map V.int))) s' := I2.call' (ch := []) o (Un.laid k hp hn0) (I2.hok.laid k hp ⟨hml, out.toList, c, vals_of_ints hi, hg⟩) (by rw [g]; exact I2.bare) fun _ z => nomatch z
  exact ⟨.ref p, _, J, rfl, q1 p hn0⟩
/-- sorted(set(xs)) -/
theorem n_sortSet {ns : List Int} (b : Nat) (fr : Fr X.mg) (hc : X.calm = true) (ha : E X T Γ a (.lst (ns.map D.int))) (hl : ns.length ≤ 4000) (hb : b < 64) (hbd : ∀ x ∈ ns, 0 ≤ x ∧ x < (b : Int)) (hg : Gl X "sorted" := by rfl) (hg2 : Gl X "set" := by rfl)
    (na : starEach [a] X.env = (false, eval a X.env) :: starEach [] X.env := by rfl) (hb1 : bootBuiltins "sorted" = some (.builtin "sorted") := by decide +kernel) : N X T Γ (.Call (.Name "sorted" p) [.Call (.Name "set" p2) [a] [] q] [] pos) ((sset b ns).map D.int) := fun W σ H P Q k => by
  refine of_pe (pe_sortSet hg fr.sorted hg2 fr.set pe_r hc hb1 na) (ha W σ H P _ fun v H1 e1 r1 => ?_)
  obtain ⟨l, xs, rfl, h1, h2⟩ := r1
  rw [ints_rep h2] at h1
  refine ⟨l, ns, b, rfl, h1.sq, hl, hb, hbd, fun p hp => ?_⟩
  exact k p _ _ ((Nw.of hp).back e1) (e1.trans (Ex.new hp)) upd_same rep_ints
end
end Dv
/-! ## P5 -/
set_option maxHeartbeats 4000000
/-! The rows' numbers, the rows' tasks. -/
namespace Ev31
open PySem L2 Dv Gx
def ri (r : Row) : List Int := r.map fun (k : Nat) => (k : Int)
def eMany (rows : List (List Row)) : D := .tup (rows.map fun l => .tup (l.map fun r => .int (r.length : Nat)))
def who (r : Row) : List Int := sset 5 (ri r)
def eWho (rows : List (List Row)) : D := .tup (rows.map fun l => .tup (l.map fun r => .tup ((who r).map .int)))
theorem eRow_ri (r : Row) : eRow r = .lst ((ri r).map .int) := by
  unfold eRow ri
  rw [List.map_map]
  rfl
theorem row_mem {c : Nat} {arr : List Int} {k : Nat} {us : List (Option Nat)} {r : Row} (h : r ∈ rowsK c arr k us) {j : Nat} (hj : j ∈ r) : some j ∈ us := by
  rw [rowsK_eq] at h
  obtain ⟨number, _, rfl⟩ := List.mem_map.mp h
  unfold rowJ at hj
  obtain ⟨now, hn, rfl⟩ := List.mem_map.mp hj
  obtain ⟨h1, h2⟩ := List.mem_filter.mp hn
  have h1 := List.mem_range.mp h1
  unfold inJob at h2
  simp only [Bool.and_eq_true] at h2
  have h3 := h2.2.2.2
  have hu : uv us now = us[now] := by
    unfold uv
    rw [List.getD_eq_getElem?_getD, List.getElem?_eq_getElem h1]
    rfl
  rw [hu] at h3 ⊢
  have hm := List.getElem_mem h1
  cases e : us[now] with
  | none => rw [e] at h3; cases h3
  | some j => rw [e] at hm; exact hm
theorem units_lt {ts : List Task} {pat : List (List Int)} {pr : Str} (g : GoodTs ts) (p : GoodPat ts pat) (h : pr ∈ prots) {n j : Nat} (hj : some j ∈ (runP n (Lk.new ts pat pr)).1) : j < ts.length := by
  obtain ⟨m, e⟩ := runP_stN (Lk.new ts pat pr) n
  rw [e] at hj
  obtain ⟨t, _, h2⟩ := List.mem_map.mp hj
  have := next_lt (stN_in (new_in g p h) t).ok h2
  rw [(stN_keep _ t).1] at this
  exact this
theorem rows_lt {ts : List Task} {pat : List (List Int)} {pr : Str} (g : GoodTs ts) (p : GoodPat ts pat) (h : pr ∈ prots) {n : Nat} {l : List Row} (hl : l ∈ rowsP ts pat (runP n (Lk.new ts pat pr)).1) {r : Row} (hr : r ∈ l) : (∀ x ∈ ri r, 0 ≤ x ∧ x < ((5 : Nat) : Int)) ∧ r.length ≤ n := by
  unfold rowsP at hl
  obtain ⟨q, _, rfl⟩ := List.mem_map.mp hl
  constructor
  · intro x hx
    unfold ri at hx
    obtain ⟨j, hj, rfl⟩ := List.mem_map.mp hx
    have := units_lt g p h (row_mem hr hj)
    have := g.most
    omega
  · have h1 := (jrun_ok (c := (cost ts q.2).toNat) (arr := q.1) (k := q.2) ((runP n (Lk.new ts pat pr)).1).zipIdx).2 r hr
    have h2 := runP_len n (Lk.new ts pat pr)
    rw [List.length_zipIdx] at h1
    omega
theorem rows_len {ts : List Task} {pat : List (List Int)} {us : List (Option Nat)} (p : GoodPat ts pat) {l : List Row} (hl : l ∈ rowsP ts pat us) : ∃ a ∈ pat, l.length = a.length := by
  unfold rowsP at hl
  obtain ⟨q, hq, rfl⟩ := List.mem_map.mp hl
  refine ⟨q.1, ?_, ?_⟩
  · have := zip_mem hq
    exact List.mem_of_getElem? this
  · exact (jrun_ok _).1
end Ev31
/-! ## WP -/
set_option maxHeartbeats 4000000
namespace Ev31
open PySem PySem.Spec PyProof.Rows L2 Gx Dv
section
variable {P : Program} {w : World} {K : PySem.W.Frag} {mg : Str → Option Value} {base h : Heap}
def R_blocked_units (N : Nat) (ds : List D) (d : D) : Prop := ∃ (ts : List Task) (pat : List (List Int)) (pr : Str), ds = [eTasks ts, ePat pat, .str pr] ∧
  d = eMany (rowsP ts pat (runP N (Lk.new ts pat pr)).1) ∧ GoodTs ts ∧ GoodPat ts pat ∧ pr ∈ prots ∧ mu (Lk.new ts pat pr) 0 < N ∧ N ≤ 1000
abbrev n_blocked_units : List Str := ["tasks", "pattern", "protocol", "row", "rows"]
theorem sc_blocked_units : FnScope n_blocked_units ["tasks", "pattern", "protocol"] (defScope s_blocked_units) := ⟨rfl, rfl, rfl, by decide +kernel, rfl, by decide +kernel, by decide +kernel⟩
theorem ok_blocked_units (g : Pg w K mg base h) (N : Nat) : FnC P w K mg base (TT K) "blocked_units" 11 (R_blocked_units N) := by
  have c_need_protocol := ok_need_protocol (P := P) g
  have c_blocking_rows := ok_blocking_rows (P := P) g N
  obtain ⟨fd, F⟩ := g.d_blocked_units
  refine fnC_of F g.a_blocked_units sc_blocked_units (fun ds d ⟨x0, x1, x2, e, _⟩ => by rw [e]; rfl) (fun _ _ _ _ _ _ us hl => match us, hl with | [_, _, _], _ => rfl) ?_
  intro cdv A outer s H0 Q Ex0 ds d W hcd hr hR hq σ H hat
  have hu := hu_of hr
  have nd := sc_blocked_units.nd
  obtain ⟨ts, pat, pr, rfl, rfl, gt, gp, hpr, hmu, hN⟩ := hR
  have h0 : At K (TT K) [⟨[], H0, W, none⟩] [.d (eTasks ts), .d (ePat pat), .d (.str pr), .un, .un] σ H := hat
  refine ss_cons (s_drop h0 (ee_sh (e_call c_need_protocol (hr.mono (by decide)) (as_cons (vr 0 rfl) (as_cons (vr 1 rfl) (as_cons (vr 2 rfl) as_nil))) ⟨ts, pat, pr, rfl, rfl, gt, gp, hpr⟩)) fun σ H h1 => ?_)
  have hlen : (rowsP ts pat (runP N (Lk.new ts pat pr)).1).length ≤ 100000 := by
    unfold rowsP
    rw [List.length_map, List.length_zipIdx, gp.len]
    have := gt.most
    omega
  have hal : ∀ l ∈ rowsP ts pat (runP N (Lk.new ts pat pr)).1, l.length ≤ 100000 := fun l hl => by
    obtain ⟨a, ha, e⟩ := rows_len gp hl
    have := few_arr gp ha
    omega
  refine ss_cons (s_ret h1 (ee_sh (e_tupL g.fr (n_e (n_lc' [("rows", 4)] (rowsP ts pat (runP N (Lk.new ts pat pr)).1) eRows (fun a => [(4, eRows a)]) (fun _ => true) (fun l => .tup (l.map fun r => .int (r.length : Nat))) rfl nd (blk_of (by kernel_rfl)) hlen (i_lst (e_call c_blocking_rows (hr.mono (by decide)) (as_cons (vr 0 rfl) (as_cons (vr 1 rfl) (as_cons (vr 2 rfl) as_nil))) ⟨ts, pat, pr, rfl, rfl, gt, gp, hpr, hmu, hN⟩)) (fun a ha s H C cl fp => gd_name 4 nd) (fun a ha s H C cl fp => bs_nil)
    (fun l hl hb s H C cl fp => E.eq (e_tupL g.fr (n_e (n_lc' [("row", 3)] l eRow (fun a => [(3, eRow a)]) (fun _ => true) (fun r => .int (r.length : Nat)) rfl nd (blk_of (by kernel_rfl)) (hal l hl) (i_lst (vr 4 rfl)) (fun a ha s H C cl fp => gd_name 3 nd) (fun a ha s H C cl fp => bs_nil) (fun a ha hb s H C cl fp => E.eq (e_len g.fr (vr 3 rfl)) (by rw [List.length_map]))))) (by rw [Dv.filter_all])))))) (fin0 hq ?_))
  rw [Dv.filter_all]
  rfl
def R_blockers (N : Nat) (ds : List D) (d : D) : Prop := ∃ (ts : List Task) (pat : List (List Int)) (pr : Str), ds = [eTasks ts, ePat pat, .str pr] ∧
  d = eWho (rowsP ts pat (runP N (Lk.new ts pat pr)).1) ∧ GoodTs ts ∧ GoodPat ts pat ∧ pr ∈ prots ∧ mu (Lk.new ts pat pr) 0 < N ∧ N ≤ 1000
abbrev n_blockers : List Str := ["tasks", "pattern", "protocol", "row", "rows"]
theorem sc_blockers : FnScope n_blockers ["tasks", "pattern", "protocol"] (defScope s_blockers) := ⟨rfl, rfl, rfl, by decide +kernel, rfl, by decide +kernel, by decide +kernel⟩
theorem ok_blockers (g : Pg w K mg base h) (N : Nat) : FnC P w K mg base (TT K) "blockers" 11 (R_blockers N) := by
  have c_need_protocol := ok_need_protocol (P := P) g
  have c_blocking_rows := ok_blocking_rows (P := P) g N
  obtain ⟨fd, F⟩ := g.d_blockers
  refine fnC_of F g.a_blockers sc_blockers (fun ds d ⟨x0, x1, x2, e, _⟩ => by rw [e]; rfl) (fun _ _ _ _ _ _ us hl => match us, hl with | [_, _, _], _ => rfl) ?_
  intro cdv A outer s H0 Q Ex0 ds d W hcd hr hR hq σ H hat
  have hu := hu_of hr
  have nd := sc_blockers.nd
  obtain ⟨ts, pat, pr, rfl, rfl, gt, gp, hpr, hmu, hN⟩ := hR
  have h0 : At K (TT K) [⟨[], H0, W, none⟩] [.d (eTasks ts), .d (ePat pat), .d (.str pr), .un, .un] σ H := hat
  refine ss_cons (s_drop h0 (ee_sh (e_call c_need_protocol (hr.mono (by decide)) (as_cons (vr 0 rfl) (as_cons (vr 1 rfl) (as_cons (vr 2 rfl) as_nil))) ⟨ts, pat, pr, rfl, rfl, gt, gp, hpr⟩)) fun σ H h1 => ?_)
  have hlen : (rowsP ts pat (runP N (Lk.new ts pat pr)).1).length ≤ 100000 := by
    unfold rowsP
    rw [List.length_map, List.length_zipIdx, gp.len]
    have := gt.most
    omega
  have hal : ∀ l ∈ rowsP ts pat (runP N (Lk.new ts pat pr)).1, l.length ≤ 100000 := fun l hl => by
    obtain ⟨a, ha, e⟩ := rows_len gp hl
    have := few_arr gp ha
    omega
  refine ss_cons (s_ret h1 (ee_sh (e_tupL g.fr (n_e (n_lc' [("rows", 4)] (rowsP ts pat (runP N (Lk.new ts pat pr)).1) eRows (fun a => [(4, eRows a)]) (fun _ => true) (fun l => .tup (l.map fun r => .tup ((who r).map .int))) rfl nd (blk_of (by kernel_rfl)) hlen (i_lst (e_call c_blocking_rows (hr.mono (by decide)) (as_cons (vr 0 rfl) (as_cons (vr 1 rfl) (as_cons (vr 2 rfl) as_nil))) ⟨ts, pat, pr, rfl, rfl, gt, gp, hpr, hmu, hN⟩)) (fun a ha s H C cl fp => gd_name 4 nd) (fun a ha s H C cl fp => bs_nil)
    (fun l hl hb s H C cl fp => E.eq (e_tupL g.fr (n_e (n_lc' [("row", 3)] l eRow (fun a => [(3, eRow a)]) (fun _ => true) (fun r => .tup ((who r).map .int)) rfl nd (blk_of (by kernel_rfl)) (hal l hl) (i_lst (vr 4 rfl)) (fun a ha s H C cl fp => gd_name 3 nd) (fun a ha s H C cl fp => bs_nil)
      (fun r hr hb s H C cl fp => e_tupL g.fr (n_e (n_sortSet 5 g.fr rfl (E.eq (vr 3 rfl) (eRow_ri r)) (by have := (rows_lt gt gp hpr hl hr).2; unfold ri; rw [List.length_map]; omega) (by decide) (rows_lt gt gp hpr hl hr).1)))))) (by rw [Dv.filter_all])))))) (fin0 hq ?_))
  rw [Dv.filter_all]
  rfl
end
end Ev31
/-! ## DvZ -/
set_option maxHeartbeats 4000000
/-! Judgements by data: expressions that change what one slot owns; their answers are known by a property. -/
namespace Dv
open PySem PySem.Spec PyProof.Rows L2 Gx
theorem set_eq {α : Type} {l : List α} {i : Nat} {a : α} (h : l[i]? = some a) : l.set i a = l := by
  apply List.ext_getElem?
  intro j
  by_cases e : i = j
  · subst e
    rw [List.getElem?_set_self (List.getElem?_eq_some_iff.mp h).1, h]
  · rw [List.getElem?_set_ne e]
theorem sh_set {Γ : List Sl} {i m : Nat} {x : D} : sh (Γ.set i (.own m x)) = (sh Γ).set i none := by
  unfold sh
  rw [List.map_set]
  rfl
/-- no slot owns t -/
def Clear (Γ : List Sl) (ft : Nat → List Addr) (t : Addr) : Prop := ∀ (k m : Nat) (x : D), Γ[k]? = some (.own m x) → t ∉ ft k
/-- what is known of values stays known; what is owned by no slot stays as it is -/
structure Kp (K : PySem.W.Frag) (Γ : List Sl) (W : List Addr) (ft : Nat → List Addr) (H : Hp) (W' : List Addr) (ft' : Nat → List Addr) (H' : Hp) : Prop where
  rep : ∀ d v, Rep K W H d v → Rep K W' H' d v
  an : ∀ t o, t ∈ W → H t = some o → Mu o → Clear Γ ft t → t ∈ W' ∧ H' t = some o ∧ Clear Γ ft' t
section
variable {K : PySem.W.Frag} {T : TbL} {Γ : List Sl} {W W1 W2 : List Addr} {ft ft1 ft2 : Nat → List Addr} {H H1 H2 : Hp}
theorem Kp.all (k : Kp K Γ W ft H W1 ft1 H1) : ∀ {ds : List D} {vs : List V}, Reps K W H ds vs → Reps K W1 H1 ds vs
  | [], _, h => by rw [h.nil_inv]; exact .nil
  | d :: ds, _, h => by
    obtain ⟨x, r, rfl, h1, h2⟩ := h.cons_inv
    exact .cons (k.rep d x h1) (Kp.all k h2)
theorem Kp.refl : Kp K Γ W ft H W ft H := ⟨fun _ _ z => z, fun _ _ a b _ c => ⟨a, b, c⟩⟩
theorem Kp.trans (a : Kp K Γ W ft H W1 ft1 H1) (b : Kp K Γ W1 ft1 H1 W2 ft2 H2) : Kp K Γ W ft H W2 ft2 H2 := ⟨fun d v z => b.rep d v (a.rep d v z), fun t o h1 h2 h3 h4 => by
  obtain ⟨q1, q2, q3⟩ := a.an t o h1 h2 h3 h4
  exact b.an t o q1 q2 h3 q3⟩
theorem Kp.ex (a : Kp K Γ W ft H W1 ft1 H1) (e : Ex T H1 H2) : Kp K Γ W ft H W1 ft1 H2 := ⟨fun d v z => (a.rep d v z).ex e, fun t o h1 h2 h3 h4 => by
  obtain ⟨q1, q2, q3⟩ := a.an t o h1 h2 h3 h4
  exact ⟨q1, ex_mu e q2 h3, q3⟩⟩
end
section
variable (X : Cx) (T : TbL) (bs : List Bas) (Γ : List Sl) (i m : Nat) (Rw : D → Prop)
def Es (e : Expr) (R : D → Prop) : Prop := ∀ x W ft σ H, Rw x → AtV X.K T bs (Γ.set i (.own m x)) W ft σ H → ∀ Q : VK,
  (∀ d v y W' ft' H', R d → Rw y → AtV X.K T bs (Γ.set i (.own m y)) W' ft' σ H' → Rep X.K W' H' d v → Kp X.K (Γ.set i (.own m .no)) W ft H W' ft' H' → Q v H') → rE X e σ H Q
def Ess (es : List Expr) (R : List D → Prop) : Prop := ∀ x W ft σ H, Rw x → AtV X.K T bs (Γ.set i (.own m x)) W ft σ H → ∀ Q : List V → Hp → Prop,
  (∀ ds vs y W' ft' H', R ds → Rw y → AtV X.K T bs (Γ.set i (.own m y)) W' ft' σ H' → Reps X.K W' H' ds vs → Kp X.K (Γ.set i (.own m .no)) W ft H W' ft' H' → Q vs H') → rA X es σ H Q
end
/-- an int with a property -/
abbrev RI (p : Int → Prop) : D → Prop := fun d => ∃ n, d = .int n ∧ p n
section
variable {X : Cx} {T : TbL} {bs : List Bas} {Γ : List Sl} {i m : Nat} {Rw : D → Prop} {a b e : Expr} {es : List Expr} {R Ra : D → Prop} {Rs : List D → Prop} {d : D} {p p2 pos py : Pos} {P q r : Int → Prop}
theorem Es.imp (h : Es X T bs Γ i m Rw e Ra) (k : ∀ d, Ra d → R d) : Es X T bs Γ i m Rw e R := fun x W ft σ H hx w Q kq => h x W ft σ H hx w Q fun d v y W' ft' H' hd => kq d v y W' ft' H' (k d hd)
theorem es_e (h : E X T ((sh Γ).set i none) e d) (hd : R d) : Es X T bs Γ i m Rw e R := fun x W ft σ H hx w Q k => by
  have P := w.pr
  rw [sh_set] at P
  exact h W σ H P Q fun v H2 e2 r2 => k d v x W ft H2 hd hx (w.ex e2) r2 (Kp.refl.ex e2)
theorem es_nil : Ess X T bs Γ i m Rw [] (fun ds => ds = []) := fun x W ft σ H hx w Q k => nil_eval (k [] [] x W ft H rfl hx w .nil Kp.refl)
theorem es_cons {Rt : D → List D → Prop} (h : Es X T bs Γ i m Rw e R) (t : ∀ d, R d → Ess X T bs Γ i m Rw es (Rt d)) (hs : starEach (e :: es) X.env = (false, eval e X.env) :: starEach es X.env := by rfl) : Ess X T bs Γ i m Rw (e :: es) (fun ds => ∃ d r, ds = d :: r ∧ R d ∧ Rt d r) := fun x W ft σ H hx w Q k =>
  cons_eval hs (h x W ft σ H hx w _ fun d v y W1 f1 H1 hd hy w1 r1 k1 => t d hd y W1 f1 σ H1 hy w1 _ fun ds vs z W2 f2 H2 hds hz w2 r2 k2 => k (d :: ds) (v :: vs) z W2 f2 H2 ⟨d, ds, rfl, hd, hds⟩ hz w2 (.cons (k2.rep d v r1) r2) (k1.trans k2))
theorem es_lst (h : Ess X T bs Γ i m Rw es Rs) (hz : ∀ ds, Rs ds → ds.length ≤ 100000) (hR : ∀ ds, Rs ds → R (.lst ds)) : Es X T bs Γ i m Rw (.List es pos) R := fun x W ft σ H hx w Q k =>
  of_pe (pe_lst pa_r) (h x W ft σ H hx w _ fun ds vs y W1 f1 H1 hd hy w1 r1 k1 => ⟨by rw [r1.length]; exact sz_ok (hz ds hd), fun p hp => k (.lst ds) (.ref p) y W1 f1 _ (hR ds hd) hy (w1.ex (Ex.new hp)) ⟨p, vs, rfl, .inl ⟨upd_same, w1.al.nin (Nw.of hp)⟩, r1.ex (T := T) (Ex.new hp)⟩ (k1.ex (T := T) (Ex.new hp))⟩)
theorem es_tup {x1} (h : Ess X T bs Γ i m Rw es Rs) (hz : ∀ ds, Rs ds → ds.length ≤ 100000) (hR : ∀ ds, Rs ds → R (.tup ds)) : Es X T bs Γ i m Rw (.Tuple es x1 pos) R := fun x W ft σ H hx w Q k =>
  of_pe (pe_tup pa_r) (h x W ft σ H hx w _ fun ds vs y W1 f1 H1 hd hy w1 r1 k1 => ⟨by rw [r1.length]; exact sz_ok (hz ds hd), fun p hp => k (.tup ds) (.ref p) y W1 f1 _ (hR ds hd) hy (w1.ex (Ex.new hp)) ⟨p, vs, rfl, .inl (.inl upd_same), r1.ex (T := T) (Ex.new hp)⟩ (k1.ex (T := T) (Ex.new hp))⟩)
theorem es_op {op : Operator} {r2 : R2} {Rb : D → D → Prop} (ho : OpR X (binaryOp op) r2) (ha : Es X T bs Γ i m Rw a Ra) (hb : ∀ d, Ra d → Es X T bs Γ i m Rw b (Rb d)) (hO : ∀ da db, Ra da → Rb da db → ∃ d, R d ∧ O2 X T r2 da db d) : Es X T bs Γ i m Rw (.BinOp a op b pos) R := fun x W ft σ H hx w Q k =>
  of_pe (pe_op ho pe_r pe_r) (ha x W ft σ H hx w _ fun da u y W1 f1 H1 hd hy w1 q1 k1 => hb da hd y W1 f1 σ H1 hy w1 _ fun db v z W2 f2 H2 hd2 hz w2 q2 k2 => by
    obtain ⟨d, hR, o⟩ := hO da db hd hd2
    exact o W2 H2 u v w2.al w2.pr.tb (k2.rep da u q1) q2 Q fun t H3 e3 q3 => k d t z W2 f2 H3 hR hz (w2.ex e3) q3 ((k1.trans k2).ex e3))
theorem es_add (ha : Es X T bs Γ i m Rw a (RI P)) (hb : Es X T bs Γ i m Rw b (RI q)) (h : ∀ n k, P n → q k → r (n + k)) : Es X T bs Γ i m Rw (.BinOp a .Add b pos) (RI r) :=
  es_op op_add ha (fun _ _ => hb) fun _ _ ⟨n, e1, h1⟩ ⟨k, e2, h2⟩ => ⟨.int (n + k), ⟨_, rfl, h n k h1 h2⟩, by rw [e1, e2]; exact o_I0⟩
theorem es_sub (ha : Es X T bs Γ i m Rw a (RI P)) (hb : Es X T bs Γ i m Rw b (RI q)) (h : ∀ n k, P n → q k → r (n - k)) : Es X T bs Γ i m Rw (.BinOp a .Sub b pos) (RI r) :=
  es_op op_sub ha (fun _ _ => hb) fun _ _ ⟨n, e1, h1⟩ ⟨k, e2, h2⟩ => ⟨.int (n - k), ⟨_, rfl, h n k h1 h2⟩, by rw [e1, e2]; exact o_I0⟩
theorem es_mul (ha : Es X T bs Γ i m Rw a (RI P)) (hb : Es X T bs Γ i m Rw b (RI q)) (hc : ∀ n k, P n → q k → CMul n k) (h : ∀ n k, P n → q k → r (n * k)) : Es X T bs Γ i m Rw (.BinOp a .Mult b pos) (RI r) :=
  es_op op_mul ha (fun _ _ => hb) fun _ _ ⟨n, e1, h1⟩ ⟨k, e2, h2⟩ => ⟨.int (n * k), ⟨_, rfl, h n k h1 h2⟩, by rw [e1, e2]; exact o_I (hc n k h1 h2)⟩
theorem es_mod (ha : Es X T bs Γ i m Rw a (RI P)) (hb : Es X T bs Γ i m Rw b (RI q)) (hc : ∀ n k, P n → q k → 0 < k) (h : ∀ n k, P n → q k → r (n % k)) : Es X T bs Γ i m Rw (.BinOp a .Mod b pos) (RI r) :=
  es_op op_mod ha (fun _ _ => hb) fun _ _ ⟨n, e1, h1⟩ ⟨k, e2, h2⟩ => ⟨.int (n % k), ⟨_, rfl, h n k h1 h2⟩, by rw [e1, e2]; exact o_I (C := fun _ j => 0 < j) (hc n k h1 h2)⟩
/-- a place in a list -/
theorem es_ix {l : List D} (ha : E X T ((sh Γ).set i none) a (.lst l)) (hb : Es X T bs Γ i m Rw b (RI P)) (h : ∀ n, P n → ∃ d, atI l n = some d ∧ R d) (hs : PlainIx b := by intro _ _; rfl) : Es X T bs Γ i m Rw (.Subscript a b pos) R := fun x W ft σ H hx w Q k => by
  have Pr0 := w.pr
  rw [sh_set] at Pr0
  refine of_pe (pe_ix ix_list pe_r pe_r hs) (ha W σ H Pr0 _ fun u H1 e1 r1 => hb x W ft σ H1 hx (w.ex e1) _ fun db v y W2 f2 H2 hd hy w2 r2 k2 => ?_)
  obtain ⟨n, rfl, hn⟩ := hd
  obtain ⟨d, hat, hR⟩ := h n hn
  obtain ⟨p, xs, ex, hq, hr⟩ := k2.rep _ _ r1
  obtain ⟨t, ht, rt⟩ := hr.atI hat
  exact ⟨p, xs, n, t, ex, r2, hq.sq, ht, k d t y W2 f2 H2 hR hy w2 rt ((Kp.refl.ex e1).trans k2)⟩
theorem es_callB {id : String} {rr : List V → Hp → VK → Prop} {x : Str} (hc : CallR X (.builtin id) rr) (ha : Ess X T bs Γ i m Rw (e :: es) Rs) (hO : ∀ ds, Rs ds → ∃ d, R d ∧ OC X T rr ds d) (hm : X.mg x = none) (hg : Gl X x := by rfl) (hv : bootBuiltins x = some (.builtin id) := by decide +kernel) (hn : x ≠ "__name__" := by decide) (hdb : (x == ("__debug__" : Str)) = false := by decide)
    (he : starEach (e :: es) X.env = (false, eval e X.env) :: starEach es X.env := by rfl) (hpl : (backTo pos (starEach es X.env)).any (·.1) = false := by rfl) : Es X T bs Γ i m Rw (.Call (.Name x p) (e :: es) [] pos) R := fun y W ft σ H hy w Q k =>
  of_pe (pe_callB hc hg hm hv pa_r hn hdb he hpl) (ha y W ft σ H hy w _ fun ds vs z W1 f1 H1 hd hz w1 r1 k1 => by
    obtain ⟨d, hR, o⟩ := hO ds hd
    exact o W1 H1 vs w1.al w1.pr.tb r1 Q fun t H2 e2 r2 => k d t z W1 f1 H2 hR hz (w1.ex e2) r2 (k1.ex e2))
theorem es_callTy {ty : String} {rr : List V → Hp → VK → Prop} {x : Str} (hc : CallR X (.type ty) rr) (ha : Ess X T bs Γ i m Rw (e :: es) Rs) (hO : ∀ ds, Rs ds → ∃ d, R d ∧ OC X T rr ds d) (hm : X.mg x = none) (hg : Gl X x := by rfl) (hv : bootBuiltins x = some (.type ty) := by decide +kernel) (hn : x ≠ "__name__" := by decide) (hdb : (x == ("__debug__" : Str)) = false := by decide)
    (he : starEach (e :: es) X.env = (false, eval e X.env) :: starEach es X.env := by rfl) (hpl : (backTo pos (starEach es X.env)).any (·.1) = false := by rfl) : Es X T bs Γ i m Rw (.Call (.Name x p) (e :: es) [] pos) R := fun y W ft σ H hy w Q k =>
  of_pe (pe_callTy hc hg hm hv pa_r hn hdb he hpl) (ha y W ft σ H hy w _ fun ds vs z W1 f1 H1 hd hz w1 r1 k1 => by
    obtain ⟨d, hR, o⟩ := hO ds hd
    exact o W1 H1 vs w1.al w1.pr.tb r1 Q fun t H2 e2 r2 => k d t z W1 f1 H2 hR hz (w1.ex e2) r2 (k1.ex e2))
/-- f(x, ..), x the slot's name -/
theorem es_call {f y : Str} {lv : Nat} {pre : D → List D → Prop} {post : D → List D → D → D → Prop} (F : FnW X.prog X.w X.K X.mg X.base T f lv pre post) (hr : Room lv X.A) (ha : Ess X T bs Γ i m Rw es Rs) (hp : ∀ x ds, Rw x → Rs ds → pre x ds) (hq : ∀ x ds y d, Rw x → Rs ds → post x ds y d → Rw y ∧ R d)
    (hl : i < Γ.length) (hi : X.N[i]? = some y := by rfl) (hx : Vis X.env.scope y := by first | exact Or.inl rfl | exact Or.inr (Or.inl rfl) | exact Or.inr (Or.inr rfl)) (hd : (y == ("__debug__" : Str)) = false := by decide) (hcd : (y == ("__classdict__" : Str)) = false := by decide) (hg : Gl X f := by rfl) (hdb : (f == ("__debug__" : Str)) = false := by decide)
    (he : starEach (.Name y py :: es) X.env = (false, eval (.Name y py) X.env) :: starEach es X.env := by rfl) (hpl : (backTo pos (starEach es X.env)).any (·.1) = false := by rfl) : Es X T bs Γ i m Rw (.Call (.Name f p) (.Name y py :: es) [] pos) R := fun x W ft σ H hx0 w Q k => by
  obtain ⟨g, fd, ps, hm, hk, hb, ok⟩ := F
  have slot : ∀ z : D, (Γ.set i (.own m z))[i]? = some (.own m z) := fun z => List.getElem?_set_self hl
  obtain ⟨q0, hs0, _⟩ := w.ow i m _ (slot x)
  refine of_pe (pe_call ok hr hg hm hk hb .nil pass0 pa_r (E := E0) hdb he hpl) (cons_eval he (of_pe (pe_var hi hx hd hcd) ⟨.ref q0, hs0, ha x W ft σ H hx0 w _ fun ds vs z W1 f1 H1 hds hz w1 r1 k1 => ?_⟩))
  obtain ⟨q1, hs1, hW, _, _, own⟩ := w1.ow i m _ (slot z)
  rw [hs0] at hs1
  cases hs1
  refine ⟨W1, f1 i, q0, z, ds, vs ++ [], rfl, hp z ds hz hds, w1.al, w1.tb, hW, own, by rw [List.append_nil]; exact r1, fun y d v H' W' ft' hy mx al' sub new hf hn own2 rv => ?_⟩
  obtain ⟨hy1, hy2⟩ := hq z ds y d hz hds hy
  have w2 := w1.call (slot z) hs0 mx al' sub new hf hn own2
  rw [List.set_set] at w2
  refine k d v y W' _ H' hy2 hy1 w2 rv (k1.trans ⟨fun _ _ s => s.go (mx.sub hW) new, fun t o h1 h2 h3 h4 => ?_⟩)
  have n1 : t ∉ f1 i := h4 i m .no (slot .no)
  refine ⟨sub t h1, mx.ob t o h2 (fun ps zz => by rw [zz] at h3; exact h3) fun zz => absurd zz n1, fun j n u hj => ?_⟩
  by_cases e : i = j
  · simp only [if_pos e]
    intro zz
    rcases hn t zz with c | c
    · exact n1 c
    · exact c.no h2 fun ps zz => by rw [zz] at h3; exact h3
  · simp only [if_neg e]
    exact h4 j n u hj
end
end Dv
/-! ## DwA -/
set_option maxHeartbeats 4000000
/-! Statements whose expressions change what one slot owns. -/
namespace Dv
open PySem PySem.Spec PyProof.Rows L2 Gx
section
variable {K : PySem.W.Frag} {T : TbL} {bs : List Bas} {Γ : List Sl} {W : List Addr} {ft : Nat → List Addr} {σ : L2.St} {H H' : Hp} {t : Addr} {o : HO} {j : Nat} {xs : List V} {l : List D}
/-- a new object, owned by no slot so far -/
theorem AtV.anon (h : AtV K T bs Γ W ft σ H) (hp : Nw H t) (e : Ex T H H') (ho : H' t = some o) (hm : Mu o) : AtV K T bs Γ (t :: W) ft σ H' ∧ Clear Γ ft t ∧ ∀ b ∈ bs, Nw b.H t := by
  refine ⟨⟨fun x hx => ?_, e.tb h.tb, fun b hb => ⟨(h.ba b hb).mx.trans (Mx.of e), fun x hx => ?_, fun x hx => List.mem_cons_of_mem _ ((h.ba b hb).sub x hx), (h.ba b hb).al, (h.ba b hb).bw⟩, h.len, fun j x hx => ?_, fun j m x hx => ?_, h.ne, h.pn⟩, fun k m x hx z => ?_, fun b hb => (h.ba b hb).nw h.al hp⟩
  · rcases List.mem_cons.mp hx with z | z
    · exact ⟨o, by rw [z]; exact ho, fun ps q => by rw [q] at hm; exact hm⟩
    · exact (h.al.ex e) x z
  · rcases List.mem_cons.mp hx with z | z
    · rw [z]
      exact .inr ((h.ba b hb).nw h.al hp)
    · exact (h.ba b hb).new x z
  · obtain ⟨v, h1, h2⟩ := h.sl j x hx
    exact ⟨v, h1, h2.go (Mx.of e) (cons_new hp)⟩
  · obtain ⟨r, h1, h2, h3, h4, h5⟩ := h.ow j m x hx
    exact ⟨r, h1, fun q hq => List.mem_cons_of_mem _ (h2 q hq), h3, h4, h5.go (Mx.of e) (cons_new hp) fun q _ o ho hm => ex_mu e ho hm⟩
  · obtain ⟨_, _, h2, _⟩ := h.ow k m x hx
    exact h.al.nin hp (h2 t z)
/-- it becomes a slot's own -/
theorem AtV.give (h : AtV K T bs Γ W ft σ H) (hW : t ∈ W) (ho : H t = some (.lst xs)) (hr : Reps K W H l xs) (hc : Clear Γ ft t) (hb : ∀ b ∈ bs, Nw b.H t) : AtV K T bs (Γ.set j (.own 0 (.lst l))) W (fun k => if j = k then [t] else ft k) (σ.set j (some (.ref t))) H := by
  have nd : ∀ x, Sl.own 0 (.lst l) ≠ .d x := fun x z => by cases z
  refine ⟨h.al, h.tb, h.ba, by simpa using h.len, fun k x hx => ?_, fun k m x hx => ?_, fun k n m m2 x y hkn h1 h2 => ?_, fun m x b r e1 e2 e3 => ?_⟩
  · obtain ⟨q, hx⟩ := set_d nd hx
    rw [List.getElem?_set_ne q]
    exact h.sl k x hx
  · by_cases q : j = k
    · subst q
      have hl : j < Γ.length := by
        have := (List.getElem?_eq_some_iff.mp hx).1
        simpa using this
      rw [List.getElem?_set_self hl] at hx
      cases hx
      simp only [if_true]
      refine ⟨t, List.getElem?_set_self (Nat.lt_of_lt_of_le hl h.len), fun q hq => ?_, by simp, fun b hb2 q hq => ?_, rfl, xs, ho, hr⟩
      · rw [List.mem_singleton.mp hq]
        exact hW
      · rw [List.mem_singleton.mp hq]
        exact hb b (by simpa using hb2)
    · rw [List.getElem?_set_ne q] at hx ⊢
      simp only [if_neg q]
      exact h.ow k m x hx
  · by_cases n1 : j = k
    · have n2 : j ≠ n := fun z => hkn (n1.symm.trans z)
      rw [List.getElem?_set_ne n2] at h2
      simp only [if_pos n1, if_neg n2]
      intro q hq
      rw [List.mem_singleton.mp hq]
      exact hc n m2 y h2
    · rw [List.getElem?_set_ne n1] at h1
      by_cases n2 : j = n
      · simp only [if_neg n1, if_pos n2]
        intro q hq z
        rw [List.mem_singleton.mp z] at hq
        exact hc k m x h1 hq
      · rw [List.getElem?_set_ne n2] at h2
        simp only [if_neg n1, if_neg n2]
        exact h.ne k n m m2 x y hkn h1 h2
  · by_cases q : j = 0
    · subst q
      have z : m = 0 := by
        have hl : 0 < Γ.length := by
          have := (List.getElem?_eq_some_iff.mp e1).1
          simpa using this
        rw [List.getElem?_set_self hl] at e1
        cases e1
        rfl
      rw [z] at e2
      simp at e2
    · rw [List.getElem?_set_ne q] at e1 ⊢
      exact h.pn m x b r e1 e2 e3
theorem Clear.set {i m : Nat} {x y : D} (h : Clear (Γ.set i (.own m x)) ft t) : Clear (Γ.set i (.own m y)) ft t := fun k n u hk => by
  by_cases e : i = k
  · subst e
    have hl : i < Γ.length := by
      have := (List.getElem?_eq_some_iff.mp hk).1
      simpa using this
    exact h i m x (List.getElem?_set_self hl)
  · rw [List.getElem?_set_ne e] at hk
    exact h k n u (by rw [List.getElem?_set_ne e]; exact hk)
theorem Clear.setD {i : Nat} {x : D} (h : Clear Γ ft t) : Clear (Γ.set i (.d x)) ft t := fun k n u hk => h k n u (set_own (fun m y z => by cases z) hk).2
theorem AtV.putD {i : Nat} {d : D} {v : V} (h : AtV K T bs Γ W ft σ H) (r : Rep K W H d v) : AtV K T bs (Γ.set i (.d d)) W ft (σ.set i (some v)) H := h.put r
end
section
variable {X : Cx} {T : TbL} {De : Ends} {bs : List Bas} {Γ : List Sl} {i j k m n : Nat} {Rw : D → Prop} {σ : L2.St} {H : Hp} {a b c e : Expr} {R Ra Rb Rc : D → Prop} {x0 : D} {l : List D} {x y z : Str} {p px py pz pt pt2 pos apos cpos lp : Pos} {kt k2 : Nat}
theorem Es.at {Q : VK} (he : Es X T bs Γ i m Rw e R) (h : At X.K T bs Γ σ H) (ho : Γ[i]? = some (.own m x0)) (hx : Rw x0) (k : ∀ d v y W' H', R d → Rw y → AtW X.K T bs (Γ.set i (.own m y)) W' σ H' → Rep X.K W' H' d v → Q v H') : rE X e σ H Q := by
  obtain ⟨W, ft, a⟩ := h
  rw [← set_eq ho] at a
  exact he x0 W ft σ H hx a Q fun d v y W' ft' H' h1 h2 h3 h4 _ => k d v y W' H' h1 h2 ⟨ft', h3⟩ h4
/-- name = e -/
theorem s_asgS (h : At X.K T bs Γ σ H) (ho : Γ[i]? = some (.own m x0)) (hx : Rw x0) (he : Es X T bs Γ i m Rw e R) (kk : ∀ d y σ' H', R d → Rw y → At X.K T bs ((Γ.set i (.own m y)).set j (.d d)) σ' H' → De.nx σ' H') (hN : X.N.Nodup) (hj : X.N[j]? = some x := by rfl) (hl : Loc X.env.scope x := by first | exact Or.inl rfl | exact Or.inr rfl)
    (hs : swapsWith e (some (.Name x p)) pos.line X.env = pure false := by rfl) (hf : X.fn x = true ∨ X.env.scope.names.lookup x = some .local := by first | exact .inl rfl | exact .inr rfl) : rS X (.Assign [.Name x p] e pos) De σ H :=
  of_ps (ps_set hN hj hl pe_r hs hf) (he.at h ho hx fun d v y W' H' h1 h2 w r => kk d y _ _ h1 h2 ⟨W', w.put r⟩)
/-- return e -/
theorem s_retS (h : At X.K T bs Γ σ H) (ho : Γ[i]? = some (.own m x0)) (hx : Rw x0) (he : Es X T bs Γ i m Rw e R) (kk : ∀ d v y W' H', R d → Rw y → AtW X.K T bs (Γ.set i (.own m y)) W' σ H' → Rep X.K W' H' d v → De.rt v H') : rS X (.Return (some e) pos) De σ H := of_ps (ps_ret pe_r) (he.at h ho hx kk)
/-- a, b = e1, e2 -/
theorem s_parS (h : At X.K T bs Γ σ H) (ho : Γ[i]? = some (.own m x0)) (hx : Rw x0) (ha : Es X T bs Γ i m Rw a Ra) (hb : Es X T bs Γ i m Rw b Rb) (kk : ∀ d d' y σ' H', Ra d → Rb d' → Rw y → At X.K T bs (((Γ.set i (.own m y)).set j (.d d)).set k (.d d')) σ' H' → De.nx σ' H') (hc : X.calm = true) (hN : X.N.Nodup)
    (hw : swappedStores [.Tuple [.Name x px, .Name y py] kt pt] (.Tuple [a, b] k2 pt2) X.env = pure (some [x, y])) (hj : X.N[j]? = some x := by rfl) (hk : X.N[k]? = some y := by rfl) (hjk : j ≠ k := by decide) (hx1 : X.env.scope.names.lookup x = some .local := by rfl) (hy1 : X.env.scope.names.lookup y = some .local := by rfl)
    (hs : swapsWithSole [.Tuple [.Name x px, .Name y py] kt pt] (.Tuple [a, b] k2 pt2) pos.line X.env = pure false := by rfl) (h1 : starEach [a, b] X.env = (false, eval a X.env) :: starEach [b] X.env := by rfl) (h2 : starEach [b] X.env = (false, eval b X.env) :: starEach [] X.env := by rfl) :
    rS X (.Assign [.Tuple [.Name x px, .Name y py] kt pt] (.Tuple [a, b] k2 pt2) pos) De σ H := by
  obtain ⟨W, ft, w⟩ := h
  rw [← set_eq ho] at w
  exact of_ps (ps_par hc hN hj hk hjk hx1 hy1 pa_r hw hs) (cons_eval h1 (ha x0 W ft σ H hx w _ fun d u y1 W1 f1 H1 q1 q2 w1 r1 k1 => cons_eval h2 (hb y1 W1 f1 σ H1 q2 w1 _ fun d2 v y2 W2 f2 H2 q3 q4 w2 r2 k2 => nil_eval ⟨u, v, rfl, kk d d2 y2 _ _ q1 q3 q4 ⟨W2, f2, (w2.put (k2.rep d u r1)).put r2⟩⟩)))
/-- a, b = e1, [] -/
theorem s_parSN (h : At X.K T bs Γ σ H) (ho : Γ[i]? = some (.own m x0)) (hx : Rw x0) (ha : Es X T bs Γ i m Rw a Ra) (kk : ∀ d y σ' H', Ra d → Rw y → At X.K T bs (((Γ.set i (.own m y)).set j (.d d)).set k (.own 0 (.lst []))) σ' H' → De.nx σ' H') (hc : X.calm = true) (hN : X.N.Nodup)
    (hw : swappedStores [.Tuple [.Name x px, .Name y py] kt pt] (.Tuple [a, .List [] lp] k2 pt2) X.env = pure (some [x, y])) (hj : X.N[j]? = some x := by rfl) (hk : X.N[k]? = some y := by rfl) (hjk : j ≠ k := by decide) (hx1 : X.env.scope.names.lookup x = some .local := by rfl) (hy1 : X.env.scope.names.lookup y = some .local := by rfl)
    (hs : swapsWithSole [.Tuple [.Name x px, .Name y py] kt pt] (.Tuple [a, .List [] lp] k2 pt2) pos.line X.env = pure false := by rfl) (h1 : starEach [a, .List [] lp] X.env = (false, eval a X.env) :: starEach [.List [] lp] X.env := by rfl) (h2 : starEach [.List [] lp] X.env = (false, eval (.List [] lp) X.env) :: starEach [] X.env := by rfl) :
    rS X (.Assign [.Tuple [.Name x px, .Name y py] kt pt] (.Tuple [a, .List [] lp] k2 pt2) pos) De σ H := by
  obtain ⟨W, ft, w⟩ := h
  rw [← set_eq ho] at w
  exact of_ps (ps_par hc hN hj hk hjk hx1 hy1 pa_r hw hs) (cons_eval h1 (ha x0 W ft σ H hx w _ fun d u y1 W1 f1 H1 q1 q2 w1 r1 k1 => cons_eval h2 (of_pe (pe_lst pa_nil) ⟨by simp, fun t ht => nil_eval ⟨u, .ref t, rfl, kk d y1 _ _ q1 q2 ⟨t :: W1, AtW.putOwn ⟨f1, w1.put r1⟩ (l := []) (xs := []) (Nw.of ht) (Ex.new ht) upd_same .nil⟩⟩⟩)))
/-- a, b, c = [], e1, e2 -/
theorem s_par3S (h : At X.K T bs Γ σ H) (ho : Γ[i]? = some (.own m x0)) (hx : Rw x0) (hb : Es X T bs Γ i m Rw b Rb) (hc3 : Es X T bs Γ i m Rw c Rc)
    (kk : ∀ d d' y σ' H', Rb d → Rc d' → Rw y → At X.K T bs ((((Γ.set i (.own m y)).set j (.own 0 (.lst []))).set k (.d d)).set n (.d d')) σ' H' → De.nx σ' H') (hc : X.calm = true) (hN : X.N.Nodup)
    (hw : swappedStores [.Tuple [.Name x px, .Name y py, .Name z pz] kt pt] (.Tuple [.List [] lp, b, c] k2 pt2) X.env = pure (some [x, y, z])) (hj : X.N[j]? = some x := by rfl) (hk : X.N[k]? = some y := by rfl) (hn : X.N[n]? = some z := by rfl) (hjk : j ≠ k := by decide) (hjn : j ≠ n := by decide) (hkn : k ≠ n := by decide)
    (hx1 : X.env.scope.names.lookup x = some .local := by rfl) (hy1 : X.env.scope.names.lookup y = some .local := by rfl) (hz1 : X.env.scope.names.lookup z = some .local := by rfl)
    (hs : swapsWithSole [.Tuple [.Name x px, .Name y py, .Name z pz] kt pt] (.Tuple [.List [] lp, b, c] k2 pt2) pos.line X.env = pure false := by rfl) (h0 : starEach [.List [] lp, b, c] X.env = (false, eval (.List [] lp) X.env) :: starEach [b, c] X.env := by rfl) (h1 : starEach [b, c] X.env = (false, eval b X.env) :: starEach [c] X.env := by rfl) (h2 : starEach [c] X.env = (false, eval c X.env) :: starEach [] X.env := by rfl) :
    rS X (.Assign [.Tuple [.Name x px, .Name y py, .Name z pz] kt pt] (.Tuple [.List [] lp, b, c] k2 pt2) pos) De σ H := by
  obtain ⟨W, ft, w⟩ := h
  rw [← set_eq ho] at w
  refine of_ps (ps_par3 hc hN hj hk hn hjk hjn hkn hx1 hy1 hz1 pa_r hw hs) (cons_eval h0 (of_pe (pe_lst pa_nil) ⟨by simp, fun t ht => ?_⟩))
  obtain ⟨w0, c0, b0⟩ := w.anon (Nw.of ht) (Ex.new ht) (o := .lst []) upd_same trivial
  refine cons_eval h1 (hb x0 _ ft σ _ hx w0 _ fun d u y1 W1 f1 H1 q1 q2 w1 r1 k1 => cons_eval h2 (hc3 y1 W1 f1 σ H1 q2 w1 _ fun d2 v y2 W2 f2 H2 q3 q4 w2 r2 k2 => nil_eval ⟨.ref t, u, v, rfl, ?_⟩))
  obtain ⟨e1, e2, e3⟩ := (k1.trans k2).an t (.lst []) List.mem_cons_self upd_same trivial c0.set
  exact kk d d2 y2 _ _ q1 q3 q4 ⟨W2, _, ((w2.give (j := j) e1 e2 .nil e3.set b0).put (k2.rep d u r1)).put r2⟩
/-- x.append(e) -/
theorem s_appS (h : At X.K T bs Γ σ H) (ho : Γ[i]? = some (.own m x0)) (hx : Rw x0) (hij : i ≠ j) (hoj : Γ[j]? = some (.own n (.lst l))) (he : Es X T bs Γ i m Rw e R) (hz : l.length < 100000) (kk : ∀ d y σ' H', R d → Rw y → At X.K T bs ((Γ.set i (.own m y)).set j (.own n (.lst (l ++ [d])))) σ' H' → De.nx σ' H') (hj : X.N[j]? = some x := by rfl) (hv : Vis X.env.scope x := by first | exact Or.inl rfl | exact Or.inr (Or.inl rfl) | exact Or.inr (Or.inr rfl))
    (hd : (x == ("__debug__" : Str)) = false := by decide) (hcd : (x == ("__classdict__" : Str)) = false := by decide) (hs : swapsWith (.Call (.Attribute (.Name x p) "append" apos) [e] [] cpos) none pos.line X.env = pure false := by rfl)
    (hbase : attributeBase (.Name x p) "append" X.env (eval (.Name x p) X.env) = eval (.Name x p) X.env := by rfl)
    (hfew : ((backTo cpos (starEach [e] X.env)).all (fun x => !x.1) && (backToKw cpos (keywordEach [] X.env)).all (fun x => x.1.isSome) && decide ([e].length + ([] : List Keyword).length + (if ([] : List Keyword).isEmpty then 0 else 1) < 30)) = true := by rfl)
    (hline : (apos.endLine == cpos.line) = true := by rfl) (hst : starEach [e] X.env = (false, eval e X.env) :: starEach [] X.env := by rfl) (hpl : (backTo cpos (starEach [] X.env)).any (·.1) = false := by rfl) :
    rS X (.Expr (.Call (.Attribute (.Name x p) "append" apos) [e] [] cpos) pos) De σ H := by
  obtain ⟨W, w⟩ := h
  obtain ⟨q, xs, hq, hxs, _⟩ := w.own hoj
  refine of_ps (ps_expr (pe_bm PySem.F.plainAttrs_list PySem.F.slot_list_append PySem.F.type_list_append mt_append (pe_var hj hv hd hcd) (pa_cons pe_r pa_nil hst) hbase hfew hline hst hpl) hs) ⟨.ref q, hq, own_tyV hxs, ?_⟩
  obtain ⟨ft, w⟩ := w
  rw [← set_eq ho] at w
  refine he x0 W ft σ H hx w _ fun d v y W2 f2 H2 q1 q2 w2 r2 _ => ?_
  have w2 : AtW X.K T bs (Γ.set i (.own m y)) W2 σ H2 := ⟨f2, w2⟩
  have hoj2 : (Γ.set i (.own m y))[j]? = some (.own n (.lst l)) := by rw [List.getElem?_set_ne hij]; exact hoj
  obtain ⟨q', xs2, hq2, hxs2, hr2⟩ := w2.own hoj2
  rw [hq] at hq2
  cases hq2
  exact ⟨q, xs2, v, rfl, rfl, hxs2, by rw [hr2.length]; exact Nat.lt_of_lt_of_le hz (by decide), kk d y _ _ q1 q2 ⟨W2, w2.mutL hoj2 hq (hr2.append (.one r2))⟩⟩
/-! loops with a property kept -/
theorem s_forI {α S : Type} {as : List α} {ed : α → D} {ps : α → List (Nat × D)} {tg iter : Expr} {body : List Stmt} (Iv : Nat → S → Prop) (Γs : S → List Sl) (s0 : S) (hc : X.calm = true) (h : At X.K T bs Γ σ H) (hi : I X T (sh Γ) tg iter (as.map ed)) (i0 : Iv 0 s0) (h0 : Wk (Γs s0) (Γ.map Sl.up)) (hg : ∀ (i : Nat) (a : α), as[i]? = some a → Gd X tg (ed a) (ps a))
    (hb : ∀ (b0 : Bas) (i : Nat) (a : α) (s : S) σ' H', as[i]? = some a → Iv i s → At X.K T (b0 :: bs) (putS (Γs s) (ps a)) σ' H' → rSs X body { De with nx := fun σ H => ∃ s', Iv (i + 1) s' ∧ At X.K T (b0 :: bs) (Γs s') σ H, ct := fun σ H => ∃ s', Iv (i + 1) s' ∧ At X.K T (b0 :: bs) (Γs s') σ H, bk := De.nx } σ' H')
    (hd : ∀ (s : S) σ' H', Iv as.length s → At X.K T bs ((Γs s).map Sl.dn) σ' H' → De.nx σ' H') (hp : PassesOwn (model X.prog X.w) X.A X.env X.xe := by exact PassesOwn.never) (hs : ∀ x, foldedSetIterable iter X.env x = pure x := by intro _; rfl) : rS X (.For tg iter body [] pos) De σ H := by
  obtain ⟨W, a⟩ := h
  have hJ : (as.map ed).length = as.length := List.length_map ..
  refine of_ps (ps_for hp hc pi_r pg_r pss_r hs) (hi W σ H a.pr _ fun J H1 e1 it => ?_)
  refine ⟨fun i m σ' H' => m = as.length - i ∧ i ≤ as.length ∧ ∃ s, Iv i s ∧ At X.K T (⟨W, H1, W, none⟩ :: bs) (Γs s) σ' H', ⟨as.length, by simp, Nat.zero_le _, s0, i0, W, (a.ex e1).push.wk h0⟩, ?_⟩
  rintro i m σ' H' ⟨rfl, hle, s, hiv, W2, a2⟩
  have ok := a2.ba ⟨W, H1, W, none⟩ List.mem_cons_self
  by_cases hlt : i < as.length
  · have ha : as[i]? = some as[i] := List.getElem?_eq_getElem hlt
    refine .inr ⟨it.go i H' ok.mx (by rw [hJ]; exact hlt), fun σ H => ∃ s', Iv (i + 1) s' ∧ At X.K T (⟨W, H1, W, none⟩ :: bs) (Γs s') σ H, fun σ2 H2 q => ⟨as.length - (i + 1), by omega, rfl, hlt, q⟩, fun v H3 hy => ?_⟩
    obtain ⟨e3, r3⟩ := it.yld W2 i (ed as[i]) H' v H3 ok.new ok.mx (by rw [List.getElem?_map, ha]; rfl) hy
    exact hg i _ ha T (sh (Γs s)) W2 σ' H3 v (a2.ex e3).pr r3 _ fun σ4 sm P4 => hb _ i _ s σ4 H3 ha hiv ⟨W2, (a2.ex e3).sim sm P4⟩
  · have hie : i = as.length := by omega
    subst hie
    exact .inl ⟨by rw [← hJ]; exact it.stop H' ok.mx, hd _ _ _ hiv ⟨W2, a2.pop⟩⟩
/-- for .. in range(e) -/
theorem s_forS {S : Type} {ps : Nat → List (Nat × D)} {tg : Expr} {body : List Stmt} {P : Int → Prop} (Iv : Nat → Nat → S → Prop) (Γs : S → List Sl) (hc : X.calm = true) (fr : Fr X.mg) (h : At X.K T bs Γ σ H) (ho : Γ[i]? = some (.own m x0)) (hx : Rw x0) (he : Es X T bs Γ i m Rw e (RI P)) (hP : ∀ z, P z → 0 ≤ z ∧ z ≤ 100000)
    (i0 : ∀ z y, P z → Rw y → ∃ s0, Iv z.toNat 0 s0 ∧ Wk (Γs s0) ((Γ.set i (.own m y)).map Sl.up)) (hg : ∀ t : Nat, Gd X tg (.int (t : Nat)) (ps t))
    (hb : ∀ (z : Nat) (b0 : Bas) (t : Nat) (s : S) σ' H', t < z → Iv z t s → At X.K T (b0 :: bs) (putS (Γs s) (ps t)) σ' H' → rSs X body { De with nx := fun σ H => ∃ s', Iv z (t + 1) s' ∧ At X.K T (b0 :: bs) (Γs s') σ H, ct := fun σ H => ∃ s', Iv z (t + 1) s' ∧ At X.K T (b0 :: bs) (Γs s') σ H, bk := De.nx } σ' H')
    (hd : ∀ (z : Nat) (s : S) σ' H', Iv z z s → At X.K T bs ((Γs s).map Sl.dn) σ' H' → De.nx σ' H') (hp : PassesOwn (model X.prog X.w) X.A X.env X.xe := by exact PassesOwn.never) (hgl : Gl X "range" := by rfl) (hs1 : starEach [e] X.env = [(false, eval e X.env)] := by rfl) (hs : ∀ x, foldedSetIterable (.Call (.Name "range" p) [e] [] px) X.env x = pure x := by intro _; rfl) : rS X (.For tg (.Call (.Name "range" p) [e] [] px) body [] pos) De σ H := by
  obtain ⟨W0, ft0, w0⟩ := h
  rw [← set_eq ho] at w0
  refine of_ps (ps_for hp hc (pi_range1 (ta := tCons (rE X e) tNil) hgl fr.range (pa_cons pe_r pa_nil hs1) hs1) pg_r pss_r hs) (he x0 W0 ft0 σ H hx w0 _ fun d v y W f1 H1 hd0 hy a r1 _ => ?_)
  have a : AtW X.K T bs (Γ.set i (.own m y)) W σ H1 := ⟨f1, a⟩
  obtain ⟨z, rfl, hz⟩ := hd0
  obtain ⟨z0, z1⟩ := hP z hz
  obtain ⟨s0, is0, wk0⟩ := i0 z y hz hy
  refine ⟨z, by rw [Rep] at r1; rw [r1], by omega, by omega, ?_⟩
  have it : Its X.K T W (Itr 0 z.toNat) H1 (rngD 0 z.toNat) := its_rng
  have hlen : (rngD 0 z.toNat).length = z.toNat := by unfold rngD; simp
  refine ⟨fun t q σ' H' => q = z.toNat - t ∧ t ≤ z.toNat ∧ ∃ s, Iv z.toNat t s ∧ At X.K T (⟨W, H1, W, none⟩ :: bs) (Γs s) σ' H', ⟨z.toNat, by simp, Nat.zero_le _, s0, is0, W, a.push.wk wk0⟩, ?_⟩
  rintro t q σ' H' ⟨rfl, hle, s, hiv, W2, a2⟩
  have ok := a2.ba ⟨W, H1, W, none⟩ List.mem_cons_self
  by_cases hlt : t < z.toNat
  · refine .inr ⟨it.go t H' ok.mx (by rw [hlen]; exact hlt), fun σ H => ∃ s', Iv z.toNat (t + 1) s' ∧ At X.K T (⟨W, H1, W, none⟩ :: bs) (Γs s') σ H, fun σ2 H2 q => ⟨z.toNat - (t + 1), by omega, rfl, hlt, q⟩, fun v H3 hy => ?_⟩
    obtain ⟨e3, r3⟩ := it.yld W2 t (.int (t : Nat)) H' v H3 ok.new ok.mx (by unfold rngD; rw [List.getElem?_map, List.getElem?_range hlt]; simp) hy
    exact hg t T (sh (Γs s)) W2 σ' H3 v (a2.ex e3).pr r3 _ fun σ4 sm P4 => hb z.toNat _ t s σ4 H3 hlt hiv ⟨W2, (a2.ex e3).sim sm P4⟩
  · have hie : t = z.toNat := by omega
    subst hie
    exact .inl ⟨by have := it.stop H' ok.mx; rw [hlen] at this; exact this, hd _ _ _ _ hiv ⟨W2, a2.pop⟩⟩
end
end Dv
/-! ## LA -/
set_option maxHeartbeats 4000000
/-! The law's own: draws. -/
namespace Ev31
open PySem PySem.Spec PyProof.Rows L2 Gx Dv
/-- the row of draws -/
def RowD (x : D) : Prop := ∃ (sc : List Int) (i s c : Int), x = .lst [.lst (sc.map .int), .int i, .int s, .int c] ∧ 0 ≤ i ∧ 0 ≤ s ∧ s < 2147483647
theorem RowD.mk (sc : List Int) (i s c : Int) (h1 : 0 ≤ i) (h2 : 0 ≤ s) (h3 : s < 2147483647) : RowD (.lst [.lst (sc.map .int), .int i, .int s, .int c]) := ⟨sc, i, s, c, rfl, h1, h2, h3⟩
theorem lt_ok {n m : Nat} (h : (n + 1).ble m = true := by rfl) : n < m := Nat.le_of_ble_eq_true h
section
variable {P : Program} {w : World} {K : PySem.W.Frag} {mg : Str → Option Value} {base h : Heap}
def preTaken (x : D) (ds : List D) : Prop := RowD x ∧ ∃ many : Int, ds = [.int many] ∧ 1 ≤ many ∧ many < 1073741824
def postTaken (_ : D) (ds : List D) (y d : D) : Prop := RowD y ∧ ∃ many r : Int, ds = [.int many] ∧ d = .int r ∧ 0 ≤ r ∧ r < many
abbrev n__law_taken : List Str := ["_law_row", "_law_many", "_law_found", "_law_cell"]
theorem sc__law_taken : FnScope n__law_taken ["_law_row", "_law_many"] (defScope s_law_taken) := ⟨rfl, rfl, rfl, by decide +kernel, rfl, by decide +kernel, by decide +kernel⟩
theorem ok__law_taken (g : Pg w K mg base h) : FnW P w K mg base (TT K) "_law_taken" 1 preTaken postTaken := by
  obtain ⟨fd, F⟩ := g.d__law_taken
  refine fnW_of F g.a__law_taken sc__law_taken (fun x ds ⟨_, m, e, _⟩ => by rw [e]; rfl) (fun _ _ _ _ _ _ us hl => match us, hl with | [_, _], _ => rfl) ?_
  rintro cdv A outer s H0 Q Ex0 x ds W ft p hcd hr ⟨⟨sc, i, sd, c, rfl, hi, hs0, hs1⟩, many, rfl, hm1, hm2⟩ hq σ H hat
  have hu := hu_of hr
  have nd := sc__law_taken.nd
  have h0 : At K (TT K) [⟨ft, H0, W, some p⟩] [.own 1 (.lst [.lst (sc.map .int), .int i, .int sd, .int c]), .d (.int many), .un, .un] σ H := hat
  have hmod : ∀ z : Int, 0 ≤ z % many ∧ z % many < many := fun z => ⟨Int.emod_nonneg _ (by omega), Int.emod_lt_of_pos _ (by omega)⟩
  have hmp : ∀ z : Int, 0 ≤ z % 2147483647 ∧ z % 2147483647 < 2147483647 := fun z => ⟨Int.emod_nonneg _ (by omega), Int.emod_lt_of_pos _ (by omega)⟩
  refine ss_cons (s_if h0 (b_gt (e_ix hu (vr 0 rfl) e_int rfl) e_int) (fun hb σ H h1 => ?_) fun hb σ H h1 => ?_)
  · refine ss_cons (s_asg h1 (ee_al (e_mod (e_intI g.fr (e_ix hu (vr 0 rfl) e_int rfl)) (vr 1 rfl) (by omega))) (fun σ H h2 => ?_) (i := 2) nd rfl (Or.inl rfl))
    refine ss_cons (s_setL (j := 3) h2 (i := 0) rfl (ee_al (e_fdiv (e_ix hu (vr 0 rfl) e_int rfl) (vr 1 rfl) ⟨by omega, hm2⟩)) (ee_sh e_int) lt_ok (fun σ H h3 => ?_) rfl (Or.inl rfl))
    exact ss_cons (s_ret h3 (ee_sh (vr 2 rfl)) (finW hq rfl ⟨RowD.mk sc i sd _ hi hs0 hs1, many, _, rfl, rfl, hmod _⟩ rfl))
  refine ss_nil ?_
  refine ss_cons (s_setL (j := 1) h1 (i := 0) rfl (ee_al (e_add (e_ix hu (vr 0 rfl) e_int rfl) e_int)) (ee_sh e_int) lt_ok (fun σ H h2 => ?_) rfl (Or.inl rfl))
  have h2 : At K (TT K) [⟨ft, H0, W, some p⟩] [.own 1 (.lst [.lst (sc.map .int), .int (i + 1), .int sd, .int c]), .d (.int many), .un, .un] σ H := h2
  refine ss_cons (s_if h2 (b_gt (e_ix hu (vr 0 rfl) e_int rfl) (e_len g.fr (e_ix hu (vr 0 rfl) e_int rfl))) (fun hb σ H h3 => ?_) fun hb σ H h3 => ?_)
  · refine ss_cons (s_setL (j := 2) h3 (i := 0) rfl (ee_al (e_mod (e_intI g.fr (e_add (e_mul (e_ix hu (vr 0 rfl) e_int rfl) e_int (.inl (by omega))) e_int)) e_int (by omega))) (ee_sh e_int) lt_ok (fun σ H h4 => ?_) rfl (Or.inl rfl))
    have h4 : At K (TT K) [⟨ft, H0, W, some p⟩] [.own 1 (.lst [.lst (sc.map .int), .int (i + 1), .int ((sd * 48271 + 11) % 2147483647), .int c]), .d (.int many), .un, .un] σ H := h4
    exact ss_cons (s_ret h4 (ee_al (e_mod (e_intI g.fr (e_fdiv (e_ix hu (vr 0 rfl) e_int rfl) e_int ⟨by omega, by omega⟩)) (vr 1 rfl) (by omega))) (finW hq rfl ⟨RowD.mk sc _ _ _ (by omega) (hmp _).1 (hmp _).2, many, _, rfl, rfl, hmod _⟩ rfl))
  refine ss_nil ?_
  have hlen : i.toNat < sc.length := by
    have := of_decide_eq_false hb
    rw [List.length_map] at this
    omega
  obtain ⟨cell, hcell⟩ : ∃ cell, sc[i.toNat]? = some cell := ⟨sc[i.toNat], List.getElem?_eq_getElem hlen⟩
  refine ss_cons (s_asg h3 (d := .int cell) (ee_al (e_ix hu (e_ix hu (vr 0 rfl) e_int rfl) (e_sub (e_ix hu (vr 0 rfl) e_int rfl) e_int) (ix_lstI i.toNat (by omega) hcell))) (fun σ H h4 => ?_) (i := 3) nd rfl (Or.inl rfl))
  refine ss_cons (s_setL (j := 2) h4 (i := 0) rfl (ee_al (e_mod (e_intI g.fr (e_add (e_add (e_mul (e_ix hu (vr 0 rfl) e_int rfl) e_int (.inl (by omega))) (vr 3 rfl)) e_int)) e_int (by omega))) (ee_sh e_int) lt_ok (fun σ H h5 => ?_) rfl (Or.inl rfl))
  have h5 : At K (TT K) [⟨ft, H0, W, some p⟩] [.own 1 (.lst [.lst (sc.map .int), .int (i + 1), .int ((sd * 48271 + cell + 11) % 2147483647), .int c]), .d (.int many), .un, .d (.int cell)] σ H := h5
  refine ss_mid (M := fun σ H => ∃ c', At K (TT K) [⟨ft, H0, W, some p⟩] [.own 1 (.lst [.lst (sc.map .int), .int (i + 1), .int ((sd * 48271 + cell + 11) % 2147483647), .int c']), .d (.int many), .un, .d (.int cell)] σ H)
    (s_if h5 (b_ge (vr 3 rfl) (e_pow e_int e_int ⟨by omega, by omega, by decide⟩)) (fun hb σ H h6 => ?_) fun hb σ H h6 => ss_nil ⟨c, h6⟩) fun σ H ⟨c', h6⟩ => ?_
  · exact ss_cons (s_setL (j := 3) h6 (i := 0) rfl (ee_sh (e_fdiv (vr 3 rfl) (vr 1 rfl) ⟨by omega, hm2⟩)) (ee_sh e_int) lt_ok (fun σ H h7 => ss_nil ⟨_, h7⟩) rfl (Or.inl rfl))
  · exact ss_cons (s_ret h6 (ee_sh (e_mod (e_intI g.fr (vr 3 rfl)) (vr 1 rfl) (by omega))) (finW hq rfl ⟨RowD.mk sc _ _ _ (by omega) (hmp _).1 (hmp _).2, many, _, rfl, rfl, hmod _⟩ rfl))
/-- f(row, n) in an expression -/
theorem es_taken {X : Cx} {bs : List Bas} {Γ : List Sl} {i m : Nat} {e : Expr} {p py pos : Pos} {y : Str} {q r : Int → Prop} (F : FnW X.prog X.w X.K X.mg X.base (TT X.K) "_law_taken" 1 preTaken postTaken) (hr : Room 1 X.A) (ha : Es X (TT X.K) bs Γ i m RowD e (RI q)) (hq : ∀ n, q n → 1 ≤ n ∧ n < 1073741824) (h : ∀ n k, q n → 0 ≤ k → k < n → r k) (hl : i < Γ.length)
    (hi : X.N[i]? = some y := by rfl) (hx : Vis X.env.scope y := by first | exact Or.inl rfl | exact Or.inr (Or.inl rfl) | exact Or.inr (Or.inr rfl)) (hd : (y == ("__debug__" : Str)) = false := by decide) (hcd : (y == ("__classdict__" : Str)) = false := by decide) (hg : Gl X "_law_taken" := by rfl)
    (he1 : starEach [e] X.env = (false, eval e X.env) :: starEach [] X.env := by rfl) (he : starEach [.Name y py, e] X.env = (false, eval (.Name y py) X.env) :: starEach [e] X.env := by rfl) (hpl : (backTo pos (starEach [e] X.env)).any (·.1) = false := by rfl) : Es X (TT X.K) bs Γ i m RowD (.Call (.Name "_law_taken" p) [.Name y py, e] [] pos) (RI r) :=
  es_call F hr (es_cons ha (fun _ _ => es_nil) he1) (fun x ds hx ⟨d, t, e1, ⟨n, e2, hn⟩, e3⟩ => ⟨hx, n, by rw [e1, e2, e3], hq n hn⟩) (fun x ds y d _ ⟨d', t, e1, ⟨n, e2, hn⟩, e3⟩ ⟨h1, many, k, e4, e5, h2, h3⟩ => ⟨h1, k, e5, by
    rw [e1, e2, e3] at e4
    have : n = many := by injection e4 with e4 _; injection e4
    subst this
    exact h n k hn h2 h3⟩) hl hi hx hd hcd hg (by decide) he hpl
def prePick (x : D) (ds : List D) : Prop := RowD x ∧ ∃ l : List D, ds = [.lst l] ∧ 1 ≤ l.length ∧ l.length < 1000
def postPick (_ : D) (ds : List D) (y d : D) : Prop := RowD y ∧ ∃ l : List D, ds = [.lst l] ∧ d ∈ l
abbrev n__law_pick : List Str := ["_law_row", "_law_things"]
theorem sc__law_pick : FnScope n__law_pick ["_law_row", "_law_things"] (defScope s_law_pick) := ⟨rfl, rfl, rfl, by decide +kernel, rfl, by decide +kernel, by decide +kernel⟩
theorem ok__law_pick (g : Pg w K mg base h) : FnW P w K mg base (TT K) "_law_pick" 2 prePick postPick := by
  have c_taken := ok__law_taken (P := P) g
  obtain ⟨fd, F⟩ := g.d__law_pick
  refine fnW_of F g.a__law_pick sc__law_pick (fun x ds ⟨_, m, e, _⟩ => by rw [e]; rfl) (fun _ _ _ _ _ _ us hl => match us, hl with | [_, _], _ => rfl) ?_
  rintro cdv A outer s H0 Q Ex0 x ds W ft p hcd hr ⟨hx, l, rfl, hl1, hl2⟩ hq σ H hat
  have hu := hu_of hr
  have nd := sc__law_pick.nd
  have h0 : At K (TT K) [⟨ft, H0, W, some p⟩] [.own 1 x, .d (.lst l)] σ H := hat
  refine ss_cons (s_retS (i := 0) (m := 1) (R := fun d => d ∈ l) h0 rfl hx (es_ix (P := fun n => 0 ≤ n ∧ n < (l.length : Nat)) (vr 1 rfl) (es_taken (q := fun n => n = (l.length : Nat)) c_taken (hr.mono (by decide)) (es_e (e_len g.fr (vr 1 rfl)) ⟨_, rfl, rfl⟩) (fun n e => by omega) (fun n k e h1 h2 => by omega) lt_ok) fun n hn => ?_) fun d v y W' H' h1 h2 a r => finW hq rfl ⟨h2, l, rfl, h1⟩ rfl v H' W' a r)
  have hlt : n.toNat < l.length := by omega
  refine ⟨l[n.toNat], ?_, List.getElem_mem hlt⟩
  unfold atI ixN
  rw [if_pos (by omega), if_pos (by omega)]
  exact List.getElem?_eq_getElem hlt
end
end Ev31
/-! ## DwB -/
set_option maxHeartbeats 4000000
/-! List times int, a list that grows, sorted tuples of ints. -/
namespace Dv
open PySem PySem.Spec PyProof.Rows L2 Gx
section
variable {X : Cx} {T : TbL} {Γ : List (Option D)} {a b e : Expr} {l m : List D} {pos p : Pos} {k : Int}
theorem Reps.rep {K : PySem.W.Frag} {W : List Addr} {H : Hp} {xs : List V} (r : Reps K W H l xs) : ∀ n : Nat, Reps K W H (List.replicate n l).flatten (List.replicate n xs).flatten
  | 0 => .nil
  | n + 1 => by
    rw [List.replicate_succ, List.replicate_succ, List.flatten_cons, List.flatten_cons]
    exact r.append (Reps.rep r n)
theorem new_go {K : PySem.W.Frag} {W : List Addr} {H : Hp} {p : Addr} {o : HO} {l : List D} {xs : List V} (hp : H p = none) (r : Reps K W H l xs) : Reps K (p :: W) (upd H p o) l xs := r.go (T := []) (Mx.of (Ex.new hp)) fun x z => by
  rcases List.mem_cons.mp z with z | z
  · exact .inr (z ▸ Nw.of hp)
  · exact .inl z
theorem n_rep (ha : N X T Γ a l) (hb : E X T Γ b (.int k)) (hk : 0 ≤ k ∧ k ≤ 1000) (hl : l.length ≤ 100) : N X T Γ (.BinOp a .Mult b pos) (List.replicate k.toNat l).flatten := fun W σ H P Q q => by
  refine of_pe (pe_op op_rep pe_r pe_r) (ha W σ H P _ fun t xs H1 n1 e1 h1 r1 => ?_)
  have P1 : Pr X.K T (t :: W) H1 Γ σ := P.late (Mx.of e1) (cons_new n1) fun x hx => by
    rcases List.mem_cons.mp hx with z | z
    · exact ⟨_, by rw [z]; exact h1, fun ps w => by cases w⟩
    · exact (P.al.ex e1) x z
  refine hb (t :: W) σ H1 P1 _ fun v H2 e2 r2 => ?_
  have h2 : H2 t = some (.lst xs) := e2.ob _ _ h1 fun ps z => by cases z
  rw [Rep] at r2
  subst r2
  refine ⟨t, k, xs, rfl, rfl, h2, by omega, by omega, ?_, fun p hp => ?_⟩
  · rw [r1.length, sizeLine_eq]
    have : l.length * k.toNat ≤ 100 * 1000 := Nat.mul_le_mul hl (by omega)
    omega
  · have r3 : Reps X.K W H2 l xs := (r1.ex e2).less fun x z => List.mem_cons_of_mem _ z
    exact q p _ _ (((Nw.of hp).back e2).back e1) ((e1.trans e2).trans (Ex.new hp)) upd_same (new_go hp (r3.rep _))
end
section
variable {X : Cx} {T : TbL} {De : Ends} {bs : List Bas} {Γ : List Sl} {σ : L2.St} {H : Hp} {b : Expr} {l l2 : List D} {i m : Nat} {x : Str} {p p2 pos pos2 : Pos}
/-- x = x + b, x a list of its own -/
theorem s_grow (h : At X.K T bs Γ σ H) (ho : Γ[i]? = some (.own m (.lst l))) (hb : N X T (sh Γ) b l2) (hz : l.length + l2.length ≤ 100000) (k : ∀ σ' H', At X.K T bs (Γ.set i (.own 0 (.lst (l ++ l2)))) σ' H' → De.nx σ' H') (hN : X.N.Nodup) (hi : X.N[i]? = some x := by rfl) (hx : Loc X.env.scope x := by first | exact Or.inl rfl | exact Or.inr rfl)
    (hv : Vis X.env.scope x := by first | exact Or.inl rfl | exact Or.inr (Or.inl rfl) | exact Or.inr (Or.inr rfl)) (hd : (x == ("__debug__" : Str)) = false := by decide) (hcd : (x == ("__classdict__" : Str)) = false := by decide)
    (hs : swapsWith (.BinOp (.Name x p2) .Add b pos2) (some (.Name x p)) pos.line X.env = pure false := by rfl) (hf : X.fn x = true ∨ X.env.scope.names.lookup x = some .local := by first | exact .inl rfl | exact .inr rfl) : rS X (.Assign [.Name x p] (.BinOp (.Name x p2) .Add b pos2) pos) De σ H := by
  obtain ⟨W, a⟩ := h
  obtain ⟨q, xs, hq, hxs, hr⟩ := a.own ho
  refine of_ps (ps_set hN hi hx (pe_op op_cat (pe_var hi hv hd hcd) pe_r) hs hf) ⟨.ref q, hq, hb W σ H a.pr _ fun t zs H1 n1 e1 h1 r1 => ?_⟩
  have h2 : H1 q = some (.lst xs) := e1.ob _ _ hxs fun ps z => by cases z
  refine ⟨q, t, xs, zs, rfl, rfl, h2, h1, by rw [hr.length, r1.length, sizeLine_eq]; omega, fun c hc => ?_⟩
  have r3 : Reps X.K W H1 l2 zs := r1.less fun x z => List.mem_cons_of_mem _ z
  exact k _ _ ⟨_, a.putOwn ((Nw.of hc).back e1) (e1.trans (Ex.new hc)) upd_same (new_go hc ((hr.ex e1).append r3))⟩
end
section
variable {K : PySem.W.Frag} {W : List Addr} {H : Hp}
theorem Reps.perm {xs ys : List V} (h : xs.Perm ys) : ∀ {l : List D}, Reps K W H l xs → ∃ l', l'.Perm l ∧ Reps K W H l' ys := by
  induction h with
  | nil => exact fun r => ⟨_, .refl _, r⟩
  | cons x _ ih =>
    intro l r
    cases l with
    | nil => exact absurd r.nil_inv (by simp)
    | cons d l =>
      obtain ⟨y, t, e, h1, h2⟩ := r.cons_inv
      injection e with e1 e2
      subst e1 e2
      obtain ⟨l', p, r'⟩ := ih h2
      exact ⟨d :: l', p.cons d, .cons h1 r'⟩
  | swap x y t =>
    intro l r
    cases l with
    | nil => exact absurd r.nil_inv (by simp)
    | cons d l =>
      obtain ⟨u, t1, e, h1, h2⟩ := r.cons_inv
      injection e with e1 e2
      subst e1 e2
      cases l with
      | nil => exact absurd h2.nil_inv (by simp)
      | cons d2 l =>
        obtain ⟨u2, t2, e, h3, h4⟩ := h2.cons_inv
        injection e with e1 e2
        subst e1 e2
        exact ⟨d2 :: d :: l, .swap d d2 l, .cons h3 (.cons h1 h4)⟩
  | trans _ _ ih1 ih2 =>
    intro l r
    obtain ⟨l1, p1, r1⟩ := ih1 r
    obtain ⟨l2, p2, r2⟩ := ih2 r1
    exact ⟨l2, p2.trans p1, r2⟩
theorem perm_map {α : Type} {f : α → D} (hf : ∀ a b, f a = f b → a = b) : ∀ {l : List α} {m : List D}, m.Perm (l.map f) → ∃ l' : List α, m = l'.map f ∧ l'.Perm l := by
  intro l m h
  have hm : ∀ d ∈ m, ∃ a, f a = d := fun d hd => by
    obtain ⟨a, _, e⟩ := List.mem_map.mp (h.mem_iff.mp hd)
    exact ⟨a, e⟩
  have : ∃ l' : List α, m = l'.map f := by
    clear h
    induction m with
    | nil => exact ⟨[], rfl⟩
    | cons d m ih =>
      obtain ⟨a, e⟩ := hm d List.mem_cons_self
      obtain ⟨l', e2⟩ := ih fun d hd => hm d (List.mem_cons_of_mem _ hd)
      exact ⟨a :: l', by rw [e2, ← e]; rfl⟩
  obtain ⟨l', rfl⟩ := this
  refine ⟨l', rfl, ?_⟩
  classical
  rw [List.perm_iff_count]
  intro a
  have h1 := List.perm_iff_count.mp h (f a)
  have cnt : ∀ l : List α, (l.map f).count (f a) = l.count a := fun l => by
    induction l with
    | nil => rfl
    | cons b l ih =>
      rw [List.map_cons, List.count_cons, List.count_cons, ih]
      by_cases e : b = a
      · subst e
        simp
      · have : ¬ f b = f a := fun z => e (hf _ _ z)
        simp [e, this]
  rw [cnt, cnt] at h1
  exact h1
end
section
variable {X : Cx} {T : TbL} {bs : List Bas} {Γ : List Sl} {i j m n : Nat} {Rw : D → Prop} {R : D → Prop} {x : Str} {p p2 pos : Pos}
/-- sorted(x), x a list of tuples of ints that another slot owns -/
theorem es_sort {α : Type} {f : α → List Int} {l : List α} (B : Int) (c : Nat) (fr : Fr X.mg) (hij : i ≠ j) (ho : Γ[j]? = some (.own n (.lst (l.map fun a => .tup ((f a).map .int))))) (hf : ∀ a b, f a = f b → a = b) (hl : l.length < 64) (hb : ∀ a ∈ l, (f a).length = c ∧ TS.Bd B (f a)) (h1 : 1 ≤ c)
    (hR : ∀ l' : List α, l'.Perm l → l'.Pairwise (fun a b => TS.code B (f a) ≤ TS.code B (f b)) → R (.lst (l'.map fun a => .tup ((f a).map .int))))
    (hj : X.N[j]? = some x := by rfl) (hv : Vis X.env.scope x := by first | exact Or.inl rfl | exact Or.inr (Or.inl rfl) | exact Or.inr (Or.inr rfl)) (hd : (x == ("__debug__" : Str)) = false := by decide) (hcd : (x == ("__classdict__" : Str)) = false := by decide) (hg : Gl X "sorted" := by rfl) (hb1 : bootBuiltins "sorted" = some (.builtin "sorted") := by decide +kernel)
    (hs : starEach [.Name x p2] X.env = (false, eval (.Name x p2) X.env) :: starEach [] X.env := by rfl) (hpl : (backTo pos (starEach [] X.env)).any (·.1) = false := by rfl) : Es X T bs Γ i m Rw (.Call (.Name "sorted" p) [.Name x p2] [] pos) R := fun y W ft σ H hy w Q k => by
  have ho2 : (Γ.set i (.own m y))[j]? = some (.own n (.lst (l.map fun a => .tup ((f a).map .int)))) := by rw [List.getElem?_set_ne hij]; exact ho
  obtain ⟨q, xs, hq, hxs, hr⟩ := AtW.own ⟨ft, w⟩ ho2
  refine of_pe (pe_callB (cr_sortT (d := c) (B := B) h1) hg fr.sorted hb1 (pa_cons (pe_var hj hv hd hcd) pa_nil hs) (by decide) (by decide) hs hpl) ⟨.ref q, hq, q, xs, rfl, .inl (.inl hxs), ?_, fun v hv => ?_, fun ys t hp hw ht => ?_⟩
  · rw [hr.length, List.length_map]
    exact hl
  · obtain ⟨d, hd, hrd⟩ : ∃ d ∈ l.map (fun a => D.tup ((f a).map .int)), Rep X.K W H d v := by
      have : ∀ {l : List D} {xs : List V}, Reps X.K W H l xs → v ∈ xs → ∃ d ∈ l, Rep X.K W H d v := by
        intro l
        induction l with
        | nil => intro xs r hm; rw [r.nil_inv] at hm; cases hm
        | cons d l ih =>
          intro xs r hm
          obtain ⟨x, t, rfl, h1, h2⟩ := r.cons_inv
          rcases List.mem_cons.mp hm with z | z
          · exact ⟨d, List.mem_cons_self, by rw [z]; exact h1⟩
          · obtain ⟨d', m1, m2⟩ := ih h2 z
            exact ⟨d', List.mem_cons_of_mem _ m1, m2⟩
      exact this hr hv
    obtain ⟨a, ha, rfl⟩ := List.mem_map.mp hd
    obtain ⟨t, zs, e, h2, h3⟩ := hrd
    rw [ints_rep h3] at h2
    exact ⟨f a, ⟨t, e, h2⟩, hb a ha⟩
  · obtain ⟨l', pl, rl⟩ := Reps.perm hp.symm hr
    obtain ⟨ls, rfl, pls⟩ := perm_map (f := fun a => D.tup ((f a).map .int)) (fun a b e => hf a b (by
      injection e with e
      exact (List.map_inj_right (fun x y z => by injection z)).mp e)) pl
    have hpw : ls.Pairwise (fun a b => TS.code B (f a) ≤ TS.code B (f b)) := by
      have key : ∀ {ls : List α} {ys : List V}, Reps X.K W H (ls.map fun a => D.tup ((f a).map .int)) ys → ys.Pairwise (fun x y => ∀ n m, TupI X.K H x n → TupI X.K H y m → TS.code B n ≤ TS.code B m) → ls.Pairwise (fun a b => TS.code B (f a) ≤ TS.code B (f b)) := by
        have one : ∀ {a : α} {v : V}, Rep X.K W H (D.tup ((f a).map .int)) v → TupI X.K H v (f a) := fun {a v} hrd => by
          obtain ⟨t, zs, e, h2, h3⟩ := hrd
          rw [ints_rep h3] at h2
          exact ⟨t, e, h2⟩
        intro ls
        induction ls with
        | nil => intro _ _ _; exact .nil
        | cons a ls ih =>
          intro ys r hw
          obtain ⟨v, t, rfl, h1, h2⟩ := r.cons_inv
          obtain ⟨w1, w2⟩ := List.pairwise_cons.mp hw
          refine .cons (fun b hb => ?_) (ih h2 w2)
          obtain ⟨n, hn⟩ := List.mem_iff_getElem?.mp hb
          obtain ⟨u, hu1, hu2⟩ := h2.get (i := n) (d := D.tup ((f b).map .int)) (by rw [List.getElem?_map, hn]; rfl)
          exact w1 u (List.mem_of_getElem? hu1) _ _ (one h1) (one hu2)
      exact key rl hw
    refine k _ (.ref t) y W ft _ (hR ls pls hpw) hy (w.ex (Ex.new ht)) ⟨t, ys, rfl, .inl ⟨upd_same, w.al.nin (Nw.of ht)⟩, rl.ex (T := T) (Ex.new ht)⟩ (Kp.refl.ex (T := T) (Ex.new ht))
/-- tuple(e) -/
theorem es_tupOf {e : Expr} (fr : Fr X.mg) (he : Es X T bs Γ i m Rw e (fun d => ∃ l, d = .lst l ∧ R (.tup l))) (hg : Gl X "tuple" := by rfl) (hs : starEach [e] X.env = (false, eval e X.env) :: starEach [] X.env := by rfl) (hpl : (backTo pos (starEach [] X.env)).any (·.1) = false := by rfl) : Es X T bs Γ i m Rw (.Call (.Name "tuple" p) [e] [] pos) R :=
  es_callTy call_tuple_of (es_cons he (fun _ _ => es_nil) hs) (fun ds ⟨d, r, e1, ⟨l, e2, hl⟩, e3⟩ => ⟨.tup l, hl, fun W H xs _ _ rr Q k => by
    rw [e1, e2, e3] at rr
    obtain ⟨x, e, h⟩ := rr.one_inv
    rw [Rep] at h
    obtain ⟨t, ys, rfl, hq, hr⟩ := h
    exact ⟨t, ys, e, .inl ⟨hq.sq, fun p hp => k _ _ (Ex.new hp) ⟨p, ys, rfl, .inl (.inl upd_same), hr.ex (T := T) (Ex.new hp)⟩⟩⟩⟩) fr.tuple hg (by decide +kernel) (by decide) (by decide) hs hpl
/-- int(e) -/
theorem es_int {e : Expr} {P : Int → Prop} (fr : Fr X.mg) (he : Es X T bs Γ i m Rw e (RI P)) (hg : Gl X "int" := by rfl) (hs : starEach [e] X.env = (false, eval e X.env) :: starEach [] X.env := by rfl) (hpl : (backTo pos (starEach [] X.env)).any (·.1) = false := by rfl) : Es X T bs Γ i m Rw (.Call (.Name "int" p) [e] [] pos) (RI P) :=
  es_callTy call_int1 (es_cons he (fun _ _ => es_nil) hs) (fun ds ⟨d, r, e1, ⟨n, e2, hn⟩, e3⟩ => ⟨.int n, ⟨n, rfl, hn⟩, fun W H xs _ _ rr Q k => by
    rw [e1, e2, e3] at rr
    obtain ⟨x, e, h⟩ := rr.one_inv
    rw [Rep] at h
    subst h
    exact .inl ⟨n, e, k _ H (Ex.refl H) rfl⟩⟩) fr.int hg (by decide +kernel) (by decide) (by decide) hs hpl
/-- min(a, b) -/
theorem es_min2 {a b : Expr} {P q r : Int → Prop} (fr : Fr X.mg) (hc : X.calm = true) (ha : Es X T bs Γ i m Rw a (RI P)) (hb : Es X T bs Γ i m Rw b (RI q)) (h : ∀ x y, P x → q y → r (min x y)) (hg : Gl X "min" := by rfl) (hs : starEach [a, b] X.env = (false, eval a X.env) :: starEach [b] X.env := by rfl) (hs2 : starEach [b] X.env = (false, eval b X.env) :: starEach [] X.env := by rfl) (hpl : (backTo pos (starEach [b] X.env)).any (·.1) = false := by rfl) :
    Es X T bs Γ i m Rw (.Call (.Name "min" p) [a, b] [] pos) (RI r) :=
  es_callB (call_min2 hc) (es_cons ha (fun _ _ => es_cons hb (fun _ _ => es_nil) hs2) hs) (fun ds ⟨d, t, e1, ⟨x, e2, hx⟩, d', t', e3, ⟨y, e4, hy⟩, e5⟩ => ⟨.int (min x y), ⟨_, rfl, h x y hx hy⟩, fun W H xs _ _ rr Q k => by
    rw [e1, e2, e3, e4, e5] at rr
    obtain ⟨u, v, e, hu, hv⟩ := rr.two_inv
    rw [Rep] at hu hv
    subst hu hv
    refine ⟨x, y, e, k _ H (Ex.refl H) ?_⟩
    have : (if y < x then y else x) = min x y := by
      rw [Int.min_def]
      split <;> split <;> omega
    rw [this]
    rfl⟩) fr.min hg (by decide +kernel) (by decide) (by decide) hs hpl
end
end Dv
/-! ## P6 -/
set_option maxHeartbeats 4000000
/-! Drawn sections are good. -/
namespace Ev31
open PySem L2 Dv Gx
def fitS (a b : Sec) : Prop := fit a b = true ∧ a ≠ b
/-- sections found so far: within e, at most n -/
structure Fnd (e : Int) (n : Nat) (l : List Sec) : Prop where
  few : l.length ≤ n
  rng : ∀ s ∈ l, 0 ≤ s.1 ∧ 1 ≤ s.2.1 ∧ s.1 + s.2.1 ≤ e ∧ 0 ≤ s.2.2 ∧ s.2.2 ≤ 2
  fits : l.Pairwise fitS
structure GoodSecs (c : Int) (l : List Sec) : Prop where
  few : l.length ≤ 4
  sec : ∀ s ∈ l, isSec c s = true
  asc : ∀ (k : Nat) (a b : Sec), l[k]? = some a → l[k + 1]? = some b → geI (lS a) (lS b) = false
  fits : ∀ (j k : Nat) (a b : Sec), j < k → l[j]? = some a → l[k]? = some b → fit a b = true
theorem fit_in {a b : Sec} (h1 : a.1 ≤ b.1) (h2 : b.1 + b.2.1 ≤ a.1 + a.2.1) (h3 : a.2.1 ≠ b.2.1) (h4 : a.2.2 ≠ b.2.2) : fitS a b := by
  refine ⟨?_, fun z => h3 (by rw [z])⟩
  unfold fit
  split
  · rfl
  · simp [h1, h2, h3, h4]
theorem fit_off {a b : Sec} (h : a.1 + a.2.1 ≤ b.1) (h1 : 1 ≤ a.2.1) : fitS a b := by
  refine ⟨?_, fun z => by rw [z] at h h1; omega⟩
  unfold fit
  rw [if_pos (by simp [h])]
theorem fit_comm {a b : Sec} : fit a b = fit b a := by
  unfold fit
  have e1 : (decide (a.1 + a.2.1 ≤ b.1) || decide (b.1 + b.2.1 ≤ a.1)) = (decide (b.1 + b.2.1 ≤ a.1) || decide (a.1 + a.2.1 ≤ b.1)) := Bool.or_comm _ _
  rw [e1]
  split
  · rfl
  · rw [Bool.or_comm]
    congr 1
    have : ∀ x y : Int, (decide (V.int x = V.int y)) = decide (V.int y = V.int x) := fun x y => decide_eq_decide.mpr ⟨Eq.symm, Eq.symm⟩
    rw [this a.2.1, this a.2.2]
theorem fitS.symm {a b : Sec} (h : fitS a b) : fitS b a := ⟨by rw [fit_comm]; exact h.1, fun z => h.2 z.symm⟩
theorem Fnd.nil {e : Int} {n : Nat} : Fnd e n [] := ⟨Nat.zero_le _, fun s h => (nomatch h), .nil⟩
theorem Fnd.up {e e' : Int} {n n' : Nat} {l : List Sec} (h : Fnd e n l) (he : e ≤ e') (hn : n ≤ n') : Fnd e' n' l := ⟨Nat.le_trans h.few hn, fun s hs => by have := h.rng s hs; omega, h.fits⟩
theorem Fnd.snoc {e e' : Int} {n : Nat} {l : List Sec} {s : Sec} (h : Fnd e n l) (he : e ≤ e') (h1 : 0 ≤ s.1 ∧ 1 ≤ s.2.1 ∧ s.1 + s.2.1 ≤ e' ∧ 0 ≤ s.2.2 ∧ s.2.2 ≤ 2) (h2 : ∀ a ∈ l, fitS a s) : Fnd e' (n + 1) (l ++ [s]) := by
  refine ⟨by rw [List.length_append]; have := h.few; simp; omega, fun t ht => ?_, ?_⟩
  · rcases List.mem_append.mp ht with z | z
    · have := h.rng t z
      omega
    · rw [List.mem_singleton.mp z]
      exact h1
  · rw [List.pairwise_append]
    exact ⟨h.fits, List.pairwise_singleton _ _, fun a ha b hb => by rw [List.mem_singleton.mp hb]; exact h2 a ha⟩
theorem code3 (a b c : Int) : TS.code 64 [a, b, c] = a * 4096 + b * 64 + c := by
  simp [TS.code]
  omega
theorem geI3 (a b : Sec) : geI (lS a) (lS b) = (if a.1 = b.1 then (if a.2.1 = b.2.1 then (if a.2.2 = b.2.2 then true else decide (b.2.2 ≤ a.2.2)) else decide (b.2.1 ≤ a.2.1)) else decide (b.1 ≤ a.1)) := by
  unfold geI lS
  show Ob.lexAt _ _ _ 0 3 = _
  rw [Ob.lexAt_succ, Ob.lexAt_succ, Ob.lexAt_succ, Ob.lexAt_zero]
  simp
theorem secs_good {c : Int} {l l' : List Sec} (h : Fnd c 4 l) (hc : c ≤ 20) (hp : l'.Perm l) (hw : l'.Pairwise (fun a b => TS.code 64 (lS a) ≤ TS.code 64 (lS b))) : GoodSecs c l' := by
  have rng : ∀ s ∈ l', 0 ≤ s.1 ∧ 1 ≤ s.2.1 ∧ s.1 + s.2.1 ≤ c ∧ 0 ≤ s.2.2 ∧ s.2.2 ≤ 2 := fun s hs => h.rng s (hp.mem_iff.mp hs)
  have fits : l'.Pairwise fitS := (hp.pairwise_iff fun {_ _} z => z.symm).mpr h.fits
  refine ⟨by rw [hp.length_eq]; exact h.few, fun s hs => ?_, fun k a b ha hb => ?_, fun j k a b hjk ha hb => ?_⟩
  · have := rng s hs
    simp [isSec, isIn]
    omega
  · obtain ⟨h1, e1⟩ := List.getElem?_eq_some_iff.mp ha
    obtain ⟨h2, e2⟩ := List.getElem?_eq_some_iff.mp hb
    have w := List.pairwise_iff_getElem.mp hw k (k + 1) h1 h2 (by omega)
    have f := (List.pairwise_iff_getElem.mp fits k (k + 1) h1 h2 (by omega)).2
    rw [e1, e2] at w f
    have r1 := rng a (List.mem_of_getElem? ha)
    have r2 := rng b (List.mem_of_getElem? hb)
    unfold lS at w
    rw [code3, code3] at w
    rw [geI3]
    obtain ⟨a1, a2, a3⟩ := a
    obtain ⟨b1, b2, b3⟩ := b
    simp only at *
    split
    · split
      · split
        · rename_i x y z
          exact absurd (by rw [x, y, z]) f
        · simp
          omega
      · simp
        omega
    · simp
      omega
  · obtain ⟨h1, e1⟩ := List.getElem?_eq_some_iff.mp ha
    obtain ⟨h2, e2⟩ := List.getElem?_eq_some_iff.mp hb
    have f := (List.pairwise_iff_getElem.mp fits j k h1 h2 hjk).1
    rw [e1, e2] at f
    exact f
end Ev31
/-! ## LB -/
set_option maxHeartbeats 4000000
/-! The law's own: drawn sections. -/
namespace Ev31
open PySem PySem.Spec PyProof.Rows L2 Gx Dv
/-- a list of ints with a property -/
def RL (q : Int → Prop) : D → Prop := fun d => ∃ l : List D, d = .lst l ∧ 1 ≤ l.length ∧ l.length < 1000 ∧ ∀ d ∈ l, RI q d
def RLs (q : Int → Prop) (n : Nat) : List D → Prop := fun ds => ds.length = n ∧ ∀ d ∈ ds, RI q d
section
variable {X : Cx} {bs : List Bas} {Γ : List Sl} {i m n : Nat} {e : Expr} {es : List Expr} {p py pos : Pos} {y : Str} {q r : Int → Prop} {T : TbL} {Rw : D → Prop}
theorem esl_nil : Ess X T bs Γ i m Rw [] (RLs q 0) := fun x W ft σ H hx w Q k => es_nil x W ft σ H hx w Q fun ds vs y W' ft' H' h => k ds vs y W' ft' H' ⟨by rw [h]; rfl, fun d hd => by rw [h] at hd; cases hd⟩
theorem esl_cons (h : Es X T bs Γ i m Rw e (RI q)) (t : Ess X T bs Γ i m Rw es (RLs q n)) (hs : starEach (e :: es) X.env = (false, eval e X.env) :: starEach es X.env := by rfl) : Ess X T bs Γ i m Rw (e :: es) (RLs q (n + 1)) := fun x W ft σ H hx w Q k => es_cons h (fun _ _ => t) hs x W ft σ H hx w Q fun ds vs y W' ft' H' ⟨d, r, e1, h1, h2⟩ => k ds vs y W' ft' H' ⟨by rw [e1, List.length_cons, h2.1], fun u hu => by
  rw [e1] at hu
  rcases List.mem_cons.mp hu with z | z
  · rw [z]; exact h1
  · exact h2.2 u z⟩
theorem es_ints (h : Ess X T bs Γ i m Rw es (RLs q n)) (hn : 1 ≤ n ∧ n < 1000 := by decide) : Es X T bs Γ i m Rw (.List es pos) (RL q) := es_lst h (fun ds hd => by rw [hd.1]; omega) fun ds hd => ⟨ds, rfl, by rw [hd.1]; exact hn.1, by rw [hd.1]; exact hn.2, hd.2⟩
theorem es_i {x : Int} (h : E X T ((sh Γ).set i none) e (.int x)) (hq : q x) : Es X T bs Γ i m Rw e (RI q) := es_e h ⟨x, rfl, hq⟩
/-- f(row, list of ints) -/
theorem es_pick (F : FnW X.prog X.w X.K X.mg X.base (TT X.K) "_law_pick" 2 prePick postPick) (hr : Room 2 X.A) (ha : Es X (TT X.K) bs Γ i m RowD e (RL q)) (hl : i < Γ.length)
    (hi : X.N[i]? = some y := by rfl) (hx : Vis X.env.scope y := by first | exact Or.inl rfl | exact Or.inr (Or.inl rfl) | exact Or.inr (Or.inr rfl)) (hd : (y == ("__debug__" : Str)) = false := by decide) (hcd : (y == ("__classdict__" : Str)) = false := by decide) (hg : Gl X "_law_pick" := by rfl)
    (he1 : starEach [e] X.env = (false, eval e X.env) :: starEach [] X.env := by rfl) (he : starEach [.Name y py, e] X.env = (false, eval (.Name y py) X.env) :: starEach [e] X.env := by rfl) (hpl : (backTo pos (starEach [e] X.env)).any (·.1) = false := by rfl) : Es X (TT X.K) bs Γ i m RowD (.Call (.Name "_law_pick" p) [.Name y py, e] [] pos) (RI q) :=
  es_call F hr (es_cons ha (fun _ _ => es_nil) he1) (fun x ds hx ⟨d, t, e1, ⟨l, e2, h1, h2, _⟩, e3⟩ => ⟨hx, l, by rw [e1, e2, e3], h1, h2⟩) (fun x ds y d _ ⟨d', t, e1, ⟨l, e2, _, _, h3⟩, e3⟩ ⟨h1, l', e4, h4⟩ => ⟨h1, by
    rw [e1, e2, e3] at e4
    have : l = l' := by injection e4 with e4 _; injection e4
    subst this
    exact h3 d h4⟩) hl hi hx hd hcd hg (by decide) he hpl
end
section
variable {P : Program} {w : World} {K : PySem.W.Frag} {mg : Str → Option Value} {base h : Heap}
def preSecs (x : D) (ds : List D) : Prop := RowD x ∧ ∃ c : Int, ds = [.int c] ∧ 1 ≤ c ∧ c ≤ 20
def postSecs (_ : D) (ds : List D) (y d : D) : Prop := RowD y ∧ ∃ (c : Int) (l : List Sec), ds = [.int c] ∧ d = .tup (l.map eSec) ∧ GoodSecs c l
abbrev n__law_sections : List Str := ["_law_row", "_law_cost", "_law_way", "_law_start", "_law_length", "_law_lock", "_law_found", "_law_inner", "_law_size", "_law_other", "_law_deep", "_law_last", "_law_after"]
theorem sc__law_sections : FnScope n__law_sections ["_law_row", "_law_cost"] (defScope s_law_sections) := ⟨rfl, rfl, rfl, by decide +kernel, rfl, by decide +kernel, by decide +kernel⟩
theorem ok__law_sections (g : Pg w K mg base h) : FnW P w K mg base (TT K) "_law_sections" 3 preSecs postSecs := by
  have c_taken := ok__law_taken (P := P) g
  have c_pick := ok__law_pick (P := P) g
  obtain ⟨fd, F⟩ := g.d__law_sections
  refine fnW_of F g.a__law_sections sc__law_sections (fun x ds ⟨_, m, e, _⟩ => by rw [e]; rfl) (fun _ _ _ _ _ _ us hl => match us, hl with | [_, _], _ => rfl) ?_
  rintro cdv A outer s H0 Q Ex0 x ds W ft p hcd hr ⟨hx, c, rfl, hc1, hc2⟩ hq σ H hat
  have hu := hu_of hr
  have nd := sc__law_sections.nd
  have h0 : At K (TT K) [⟨ft, H0, W, some p⟩] [.own 1 x, .d (.int c), .un, .un, .un, .un, .un, .un, .un, .un, .un, .un, .un] σ H := hat
  refine ss_cons (s_parS (i := 0) (m := 1) (j := 2) (k := 3) (Ra := RI fun n => 0 ≤ n ∧ n < 7) (Rb := RI fun n => 0 ≤ n) h0 rfl hx
    (es_taken (q := fun n => n = 7) c_taken (hr.mono (by decide)) (es_i e_int rfl) (fun n e => by omega) (fun n k e h1 h2 => by omega) lt_ok)
    (es_pick c_pick (hr.mono (by decide)) (es_ints (esl_cons (es_i e_int (by decide)) (esl_cons (es_i e_int (by decide)) (esl_cons (es_i e_int (by decide)) (esl_cons (es_taken (q := fun n => n = c) c_taken (hr.mono (by decide)) (es_i (vr 1 rfl) rfl) (fun n e => by omega) (fun n k e h1 h2 => h1) lt_ok) esl_nil))))) lt_ok)
    (fun d d' y σ H hd hd' hy h1 => ?_) rfl nd (by kernel_rfl))
  obtain ⟨way, rfl, hw⟩ := hd
  obtain ⟨st0, rfl, hst⟩ := hd'
  have h1 : At K (TT K) [⟨ft, H0, W, some p⟩] [.own 1 y, .d (.int c), .d (.int way), .d (.int st0), .un, .un, .un, .un, .un, .un, .un, .un, .un] σ H := h1
  refine ss_cons (s_asg h1 (ee_sh (e_min2 g.fr rfl (as_cons (vr 3 rfl) (as_cons (e_sub (vr 1 rfl) e_int) as_nil)))) (fun σ H h2 => ?_) (i := 3) nd rfl (Or.inl rfl))
  obtain ⟨start, hstart, e1⟩ : ∃ start, (0 ≤ start ∧ start ≤ c - 1) ∧ min st0 (c - 1) = start := ⟨_, ⟨by omega, by omega⟩, rfl⟩
  rw [e1] at h2
  refine ss_cons (s_parS (i := 0) (m := 1) (j := 4) (k := 5) (Ra := RI fun n => n = c - start) (Rb := RI fun n => 0 ≤ n ∧ n ≤ 2) h2 rfl hy (es_i (e_sub (vr 1 rfl) (vr 3 rfl)) rfl)
    (es_pick c_pick (hr.mono (by decide)) (es_ints (esl_cons (es_i e_int (by decide)) (esl_cons (es_i e_int (by decide)) (esl_cons (es_i e_int (by decide)) (esl_cons (es_i e_int (by decide)) (esl_cons (es_i e_int (by decide)) esl_nil)))))) lt_ok)
    (fun d d' y2 σ H hd hd' hy2 h3 => ?_) rfl nd (by kernel_rfl))
  obtain ⟨_, rfl, rfl⟩ := hd
  obtain ⟨lock, rfl, hlock⟩ := hd'
  have h3 : At K (TT K) [⟨ft, H0, W, some p⟩] [.own 1 y2, .d (.int c), .d (.int way), .d (.int start), .d (.int (c - start)), .d (.int lock), .un, .un, .un, .un, .un, .un, .un] σ H := h3
  refine ss_cons (s_asgS (i := 0) (m := 1) (j := 4) (R := RI fun n => 1 ≤ n ∧ n ≤ c - start) h3 rfl hy2
    (es_pick c_pick (hr.mono (by decide)) (es_ints (esl_cons (es_i (vr 4 rfl) (by omega)) (esl_cons (es_i (e_max2 g.fr rfl (as_cons e_int (as_cons (e_sub (vr 4 rfl) e_int) as_nil))) (by omega)) (esl_cons (es_add (P := fun n => n = 1) (q := fun n => 0 ≤ n ∧ n < c - start) (es_i e_int rfl) (es_taken (q := fun n => n = c - start) c_taken (hr.mono (by decide)) (es_i (vr 4 rfl) rfl) (fun n e => by omega) (fun n k e h1 h2 => by omega) lt_ok) (fun n k h1 h2 => by omega)) esl_nil)))) lt_ok)
    (fun d y3 σ H hd hy3 h4 => ?_) nd)
  obtain ⟨len, rfl, hlen⟩ := hd
  have h4 : At K (TT K) [⟨ft, H0, W, some p⟩] [.own 1 y3, .d (.int c), .d (.int way), .d (.int start), .d (.int len), .d (.int lock), .un, .un, .un, .un, .un, .un, .un] σ H := h4
  refine ss_cons (s_new h4 (l := if decide (0 < way) then [eSec (start, len, lock)] else []) (nn_sh (n_ifx (p := decide (0 < way)) (b_gt (vr 2 rfl) e_int) (fun hb => N.eq (n_lst (as_cons (e_tup (as_cons (vr 3 rfl) (as_cons (vr 4 rfl) (as_cons (vr 5 rfl) as_nil)))) as_nil)) (by rw [if_pos hb]; rfl)) fun hb => N.eq (n_lst as_nil) (by rw [if_neg (by rw [hb]; exact Bool.false_ne_true)]))) (fun σ H h5 => ?_) (i := 6) nd rfl (Or.inl rfl))
  obtain ⟨l1, hl1, f1⟩ : ∃ l1 : List Sec, (if decide (0 < way) then [eSec (start, len, lock)] else []) = l1.map eSec ∧ ((way ≤ 0 ∧ l1 = []) ∨ (0 < way ∧ l1 = [(start, len, lock)])) := by
    by_cases hw0 : 0 < way
    · exact ⟨[(start, len, lock)], by rw [if_pos (decide_eq_true hw0)]; rfl, .inr ⟨hw0, rfl⟩⟩
    · exact ⟨[], by rw [if_neg (by rw [decide_eq_false hw0]; exact Bool.false_ne_true)]; rfl, .inl ⟨by omega, rfl⟩⟩
  rw [hl1] at h5
  have g1 : Fnd (start + len) 1 l1 := by
    rcases f1 with ⟨_, e⟩ | ⟨_, e⟩
    · rw [e]; exact Fnd.nil
    · rw [e]
      exact (Fnd.nil (e := start + len) (n := 0)).snoc (s := (start, len, lock)) (Int.le_refl _) (by simp only; omega) (fun a ha => (nomatch ha))
  have h5 : At K (TT K) [⟨ft, H0, W, some p⟩] [.own 1 y3, .d (.int c), .d (.int way), .d (.int start), .d (.int len), .d (.int lock), .own 0 (.lst (l1.map eSec)), .un, .un, .un, .un, .un, .un] σ H := h5
  refine ss_mid (M := fun σ H => ∃ y l2, RowD y ∧ Fnd (start + len) 3 l2 ∧ At K (TT K) [⟨ft, H0, W, some p⟩] [.own 1 y, .d (.int c), .d (.int way), .d (.int start), .d (.int len), .d (.int lock), .own 0 (.lst (l2.map eSec)), .un, .un, .un, .un, .un, .un] σ H)
    (s_if h5 (b_bw (bw_and (b_gt (vr 2 rfl) e_int) fun _ => bw_and1 (b_gt (vr 4 rfl) e_int))) (fun hb σ H h6 => ?_) fun hb σ H h6 => ss_nil ⟨y3, l1, hy3, g1.up (Int.le_refl _) (by omega), h6⟩) fun σ H ⟨y, l2, hy, g2, h6⟩ => ?_
  · simp only [Bool.and_eq_true, decide_eq_true_iff] at hb
    have e2 : l1 = [(start, len, lock)] := by
      rcases f1 with ⟨z, _⟩ | ⟨_, e⟩
      · omega
      · exact e
    refine ss_cons (s_asgS (i := 0) (m := 1) (j := 7) (R := RI fun n => start ≤ n ∧ n < start + len) h6 rfl hy3 (es_add (P := fun n => n = start) (q := fun n => 0 ≤ n ∧ n < len) (es_i (vr 3 rfl) rfl) (es_taken (q := fun n => n = len) c_taken (hr.mono (by decide)) (es_i (vr 4 rfl) rfl) (fun n e => by omega) (fun n k e h1 h2 => by omega) lt_ok) (fun n k h1 h2 => by omega)) (fun d y4 σ H hd hy4 h7 => ?_) nd)
    obtain ⟨inner, rfl, hinner⟩ := hd
    have h7 : At K (TT K) [⟨ft, H0, W, some p⟩] [.own 1 y4, .d (.int c), .d (.int way), .d (.int start), .d (.int len), .d (.int lock), .own 0 (.lst (l1.map eSec)), .d (.int inner), .un, .un, .un, .un, .un] σ H := h7
    refine ss_cons (s_asgS (i := 0) (m := 1) (j := 8) (R := RI fun n => 1 ≤ n ∧ n ≤ start + len - inner) h7 rfl hy4 (es_add (P := fun n => n = 1) (q := fun n => 0 ≤ n ∧ n < start + len - inner) (es_i e_int rfl) (es_taken (q := fun n => n = start + len - inner) c_taken (hr.mono (by decide)) (es_i (e_sub (e_add (vr 3 rfl) (vr 4 rfl)) (vr 7 rfl)) rfl) (fun n e => by omega) (fun n k e h1 h2 => by omega) lt_ok) (fun n k h1 h2 => by omega)) (fun d y5 σ H hd hy5 h8 => ?_) nd)
    obtain ⟨size, rfl, hsize⟩ := hd
    have h8 : At K (TT K) [⟨ft, H0, W, some p⟩] [.own 1 y5, .d (.int c), .d (.int way), .d (.int start), .d (.int len), .d (.int lock), .own 0 (.lst (l1.map eSec)), .d (.int inner), .d (.int size), .un, .un, .un, .un] σ H := h8
    refine ss_cons (s_if h8 (b_lt (vr 8 rfl) (vr 4 rfl)) (fun hb2 σ H h9 => ?_) fun hb2 σ H h9 => ss_nil (ss_nil ⟨y5, l1, hy5, g1.up (Int.le_refl _) (by omega), h9.wk ⟨rfl, rfl, rfl, rfl, rfl, rfl, rfl, trivial⟩⟩))
    have hb2 := of_decide_eq_true hb2
    refine ss_cons (s_asgS (i := 0) (m := 1) (j := 9) (R := RI fun n => 0 ≤ n ∧ n ≤ 2 ∧ n ≠ lock) h9 rfl hy5 (es_mod (P := fun n => n = lock + 1 ∨ n = lock + 2) (q := fun n => n = 3) (es_int g.fr (es_add (P := fun n => n = lock + 1) (q := fun n => 0 ≤ n ∧ n < 2) (es_i (e_add (vr 5 rfl) e_int) rfl) (es_taken (q := fun n => n = 2) c_taken (hr.mono (by decide)) (es_i e_int rfl) (fun n e => by omega) (fun n k e h1 h2 => by omega) lt_ok) (fun n k h1 h2 => by omega))) (es_i e_int rfl) (fun n k h1 h2 => by omega) (fun n k h1 h2 => by subst h2; omega)) (fun d y6 σ H hd hy6 h10 => ?_) nd)
    obtain ⟨other, rfl, hother⟩ := hd
    have h10 : At K (TT K) [⟨ft, H0, W, some p⟩] [.own 1 y6, .d (.int c), .d (.int way), .d (.int start), .d (.int len), .d (.int lock), .own 0 (.lst (l1.map eSec)), .d (.int inner), .d (.int size), .d (.int other), .un, .un, .un] σ H := h10
    refine ss_cons (s_app h10 (i := 6) rfl (ee_sh (e_tup (as_cons (vr 7 rfl) (as_cons (vr 8 rfl) (as_cons (vr 9 rfl) as_nil))))) (by rw [List.length_map]; have := g1.few; omega) (fun σ H h11 => ?_) rfl (Or.inl rfl))
    have hsn : ∀ (l : List Sec) (s : Sec), l.map eSec ++ [D.tup [.int s.1, .int s.2.1, .int s.2.2]] = (l ++ [s]).map eSec := fun l s => by rw [List.map_append]; rfl
    have g2 : Fnd (start + len) 2 (l1 ++ [(inner, size, other)]) := g1.snoc (Int.le_refl _) (by simp only; omega) fun a ha => by
      rw [e2] at ha
      rw [List.mem_singleton.mp ha]
      exact fit_in (by simp only; omega) (by simp only; omega) (by simp only; omega) (by simp only; omega)
    have h11 : At K (TT K) [⟨ft, H0, W, some p⟩] [.own 1 y6, .d (.int c), .d (.int way), .d (.int start), .d (.int len), .d (.int lock), .own 0 (.lst (l1.map eSec ++ [D.tup [.int inner, .int size, .int other]])), .d (.int inner), .d (.int size), .d (.int other), .un, .un, .un] σ H := h11
    rw [hsn l1 (inner, size, other)] at h11
    refine ss_cons (s_if h11 (b_bw (bw_and (b_gt (vr 2 rfl) e_int) fun _ => bw_and1 (b_gt (vr 8 rfl) e_int))) (fun hb3 σ H h12 => ?_) fun hb3 σ H h12 => ss_nil (ss_nil (ss_nil ⟨y6, _, hy6, g2.up (Int.le_refl _) (by omega), h12.wk ⟨rfl, rfl, rfl, rfl, rfl, rfl, rfl, trivial⟩⟩)))
    simp only [Bool.and_eq_true, decide_eq_true_iff] at hb3
    refine ss_cons (s_asgS (i := 0) (m := 1) (j := 10) (R := RI fun n => inner ≤ n ∧ n < inner + size) h12 rfl hy6 (es_add (P := fun n => n = inner) (q := fun n => 0 ≤ n ∧ n < size) (es_i (vr 7 rfl) rfl) (es_taken (q := fun n => n = size) c_taken (hr.mono (by decide)) (es_i (vr 8 rfl) rfl) (fun n e => by omega) (fun n k e h1 h2 => by omega) lt_ok) (fun n k h1 h2 => by omega)) (fun d y7 σ H hd hy7 h13 => ?_) nd)
    obtain ⟨deep, rfl, hdeep⟩ := hd
    have h13 : At K (TT K) [⟨ft, H0, W, some p⟩] [.own 1 y7, .d (.int c), .d (.int way), .d (.int start), .d (.int len), .d (.int lock), .own 0 (.lst ((l1 ++ [(inner, size, other)]).map eSec)), .d (.int inner), .d (.int size), .d (.int other), .d (.int deep), .un, .un] σ H := h13
    refine ss_cons (s_asgS (i := 0) (m := 1) (j := 11) (R := RI fun n => 1 ≤ n ∧ n ≤ inner + size - deep) h13 rfl hy7 (es_add (P := fun n => n = 1) (q := fun n => 0 ≤ n ∧ n < inner + size - deep) (es_i e_int rfl) (es_taken (q := fun n => n = inner + size - deep) c_taken (hr.mono (by decide)) (es_i (e_sub (e_add (vr 7 rfl) (vr 8 rfl)) (vr 10 rfl)) rfl) (fun n e => by omega) (fun n k e h1 h2 => by omega) lt_ok) (fun n k h1 h2 => by omega)) (fun d y8 σ H hd hy8 h14 => ?_) nd)
    obtain ⟨last, rfl, hlast⟩ := hd
    have h14 : At K (TT K) [⟨ft, H0, W, some p⟩] [.own 1 y8, .d (.int c), .d (.int way), .d (.int start), .d (.int len), .d (.int lock), .own 0 (.lst ((l1 ++ [(inner, size, other)]).map eSec)), .d (.int inner), .d (.int size), .d (.int other), .d (.int deep), .d (.int last), .un] σ H := h14
    refine ss_cons (s_grow h14 (i := 6) rfl (n_rep (n_lst (as_cons (e_tup (as_cons (vr 10 rfl) (as_cons (vr 11 rfl) (as_cons (e_sub (e_sub e_int (vr 5 rfl)) (vr 9 rfl)) as_nil)))) as_nil)) (e_intB g.fr (e_lt (vr 11 rfl) (vr 8 rfl))) (by split <;> omega) (Nat.le_of_ble_eq_true rfl)) ?_ (fun σ H h15 => ?_) nd)
    · have := g2.few
      by_cases hd : last < size <;> simp [hd] <;> simp at this <;> omega
    · refine ss_nil (ss_nil (ss_nil ?_))
      by_cases hd : last < size
      · have h15 : At K (TT K) [⟨ft, H0, W, some p⟩] [.own 1 y8, .d (.int c), .d (.int way), .d (.int start), .d (.int len), .d (.int lock), .own 0 (.lst ((l1 ++ [(inner, size, other)]).map eSec ++ (List.replicate (if decide (last < size) then (1 : Int) else 0).toNat [D.tup [.int deep, .int last, .int (3 - lock - other)]]).flatten)), .d (.int inner), .d (.int size), .d (.int other), .d (.int deep), .d (.int last), .un] σ H := h15
        rw [decide_eq_true hd] at h15
        have h15 : At K (TT K) [⟨ft, H0, W, some p⟩] [.own 1 y8, .d (.int c), .d (.int way), .d (.int start), .d (.int len), .d (.int lock), .own 0 (.lst ((l1 ++ [(inner, size, other)]).map eSec ++ [D.tup [.int deep, .int last, .int (3 - lock - other)]])), .d (.int inner), .d (.int size), .d (.int other), .d (.int deep), .d (.int last), .un] σ H := h15
        rw [hsn (l1 ++ [(inner, size, other)]) (deep, last, 3 - lock - other)] at h15
        refine ⟨y8, _, hy8, g2.snoc (Int.le_refl _) (by simp only; omega) fun a ha => ?_, h15.wk ⟨rfl, rfl, rfl, rfl, rfl, rfl, rfl, trivial⟩⟩
        rcases List.mem_append.mp ha with z | z
        · rw [e2] at z
          rw [List.mem_singleton.mp z]
          exact fit_in (by simp only; omega) (by simp only; omega) (by simp only; omega) (by simp only; omega)
        · rw [List.mem_singleton.mp z]
          exact fit_in (by simp only; omega) (by simp only; omega) (by simp only; omega) (by simp only; omega)
      · have h15 : At K (TT K) [⟨ft, H0, W, some p⟩] [.own 1 y8, .d (.int c), .d (.int way), .d (.int start), .d (.int len), .d (.int lock), .own 0 (.lst ((l1 ++ [(inner, size, other)]).map eSec ++ (List.replicate (if decide (last < size) then (1 : Int) else 0).toNat [D.tup [.int deep, .int last, .int (3 - lock - other)]]).flatten)), .d (.int inner), .d (.int size), .d (.int other), .d (.int deep), .d (.int last), .un] σ H := h15
        rw [decide_eq_false hd] at h15
        have h15 : At K (TT K) [⟨ft, H0, W, some p⟩] [.own 1 y8, .d (.int c), .d (.int way), .d (.int start), .d (.int len), .d (.int lock), .own 0 (.lst ((l1 ++ [(inner, size, other)]).map eSec ++ [])), .d (.int inner), .d (.int size), .d (.int other), .d (.int deep), .d (.int last), .un] σ H := h15
        rw [List.append_nil] at h15
        exact ⟨y8, _, hy8, g2.up (Int.le_refl _) (by omega), h15.wk ⟨rfl, rfl, rfl, rfl, rfl, rfl, rfl, trivial⟩⟩
  · refine ss_mid (M := fun σ H => ∃ y l3, RowD y ∧ Fnd c 4 l3 ∧ At K (TT K) [⟨ft, H0, W, some p⟩] [.own 1 y, .d (.int c), .d (.int way), .d (.int start), .d (.int len), .d (.int lock), .own 0 (.lst (l3.map eSec)), .un, .un, .un, .un, .un, .un] σ H)
      (s_if h6 (b_bw (bw_and (b_in (xs := [.int 2, .int 6]) (vr 2 rfl) (n_e (n_lst (as_cons e_int (as_cons e_int as_nil)))) rfl rfl rfl rfl rfl) fun _ => bw_and1 (b_lt (e_add (vr 3 rfl) (vr 4 rfl)) (vr 1 rfl)))) (fun hb σ H h7 => ?_) fun hb σ H h7 => ss_nil ⟨y, l2, hy, g2.up (by omega) (by omega), h7⟩) fun σ H ⟨y, l3, hy, g3, h7⟩ => ?_
    · rw [Bool.and_eq_true, decide_eq_true_iff] at hb
      have hb := hb.2
      refine ss_cons (s_asgS (i := 0) (m := 1) (j := 12) (R := RI fun n => start + len ≤ n ∧ n < c) h7 rfl hy (es_add (P := fun n => n = start + len) (q := fun n => 0 ≤ n ∧ n < c - start - len) (es_i (e_add (vr 3 rfl) (vr 4 rfl)) rfl) (es_taken (q := fun n => n = c - start - len) c_taken (hr.mono (by decide)) (es_i (e_sub (e_sub (vr 1 rfl) (vr 3 rfl)) (vr 4 rfl)) rfl) (fun n e => by omega) (fun n k e h1 h2 => by omega) lt_ok) (fun n k h1 h2 => by omega)) (fun d y9 σ H hd hy9 h8 => ?_) nd)
      obtain ⟨aft, rfl, haft⟩ := hd
      have h8 : At K (TT K) [⟨ft, H0, W, some p⟩] [.own 1 y9, .d (.int c), .d (.int way), .d (.int start), .d (.int len), .d (.int lock), .own 0 (.lst (l2.map eSec)), .un, .un, .un, .un, .un, .d (.int aft)] σ H := h8
      refine ss_cons (s_appS (i := 0) (m := 1) (j := 6) (R := fun d => ∃ a b : Int, d = eSec (aft, a, b) ∧ 1 ≤ a ∧ a ≤ c - aft ∧ 0 ≤ b ∧ b ≤ 2) h8 rfl hy9 (by decide) rfl (es_tup (es_cons (R := RI fun n => n = aft) (es_i (vr 12 rfl) rfl) (fun _ _ => es_cons (R := RI fun n => 1 ≤ n ∧ n ≤ c - aft) (es_add (P := fun n => n = 1) (q := fun n => 0 ≤ n ∧ n < c - aft) (es_i e_int rfl) (es_taken (q := fun n => n = c - aft) c_taken (hr.mono (by decide)) (es_i (e_sub (vr 1 rfl) (vr 12 rfl)) rfl) (fun n e => by omega) (fun n k e h1 h2 => by omega) lt_ok) (fun n k h1 h2 => by omega)) (fun _ _ => es_cons (R := RI fun n => 0 ≤ n ∧ n ≤ 2) (es_taken (q := fun n => n = 3) c_taken (hr.mono (by decide)) (es_i e_int rfl) (fun n e => by omega) (fun n k e h1 h2 => by omega) lt_ok) fun _ _ => es_nil)))
        (fun ds hd => ?_) fun ds hd => ?_) (by rw [List.length_map]; have := g2.few; omega) fun d y10 σ H hd hy10 h9 => ?_)
      · obtain ⟨d1, r1, e1, _, d2, r2, e2, _, d3, r3, e3, _, e4⟩ := hd
        rw [e1, e2, e3, e4]
        exact Nat.le_of_ble_eq_true rfl
      · obtain ⟨d1, r1, e1, ⟨n1, f1, rfl⟩, d2, r2, e2, ⟨n2, f2, q2⟩, d3, r3, e3, ⟨n3, f3, q3⟩, e4⟩ := hd
        exact ⟨n2, n3, by rw [e1, f1, e2, f2, e3, f3, e4]; rfl, q2.1, q2.2, q3.1, q3.2⟩
      · obtain ⟨a, b, rfl, q1, q2, q3, q4⟩ := hd
        have h9 : At K (TT K) [⟨ft, H0, W, some p⟩] [.own 1 y10, .d (.int c), .d (.int way), .d (.int start), .d (.int len), .d (.int lock), .own 0 (.lst (l2.map eSec ++ [eSec (aft, a, b)])), .un, .un, .un, .un, .un, .d (.int aft)] σ H := h9
        rw [show l2.map eSec ++ [eSec (aft, a, b)] = (l2 ++ [(aft, a, b)]).map eSec by rw [List.map_append]; rfl] at h9
        refine ss_nil ⟨y10, _, hy10, g2.snoc (by omega) (by simp only; omega) fun t ht => ?_, h9.wk ⟨rfl, rfl, rfl, rfl, rfl, rfl, rfl, trivial⟩⟩
        have := g2.rng t ht
        exact fit_off (by simp only; omega) (by omega)
    · refine ss_cons (s_retS (i := 0) (m := 1) (R := fun d => ∃ l : List Sec, d = .tup (l.map eSec) ∧ GoodSecs c l) h7 rfl hy (es_tupOf g.fr (es_sort (f := lS) (j := 6) (l := l3) 64 3 g.fr (by decide) rfl (fun a b e => by
          obtain ⟨a1, a2, a3⟩ := a
          obtain ⟨b1, b2, b3⟩ := b
          simp only [lS, List.cons.injEq, and_true] at e
          rw [e.1, e.2.1, e.2.2]) (by have := g3.few; omega) (fun s hs => ⟨rfl, fun m hm => ?_⟩) (by decide) fun l' hp hw => ⟨_, rfl, l', rfl, secs_good g3 hc2 hp hw⟩)) fun d v y' W' H' ⟨l, e, hg⟩ h2 a r => finW hq rfl ⟨h2, c, l, rfl, e, hg⟩ rfl v H' W' a r)
      have := g3.rng s hs
      simp only [lS, List.mem_cons, List.not_mem_nil, or_false] at hm
      rcases hm with rfl | rfl | rfl <;> omega
end
end Ev31
/-! ## LC -/
set_option maxHeartbeats 4000000
/-! The law's own: drawn tasks, drawn patterns. -/
namespace Ev31
open PySem PySem.Spec PyProof.Rows L2 Gx Dv
section
variable {P : Program} {w : World} {K : PySem.W.Frag} {mg : Str → Option Value} {base h : Heap}
/-- tasks as the law draws them -/
structure DrawnT (ts : List Task) : Prop where
  good : GoodTs ts
  most : ts.length ≤ 4
  gaps : ∀ t ∈ ts, t.2.1 ≤ 30
def preLocked (x : D) (ds : List D) : Prop := RowD x ∧ ds = [.int 4]
def postLocked (_ : D) (_ : List D) (y d : D) : Prop := RowD y ∧ ∃ ts : List Task, d = eTasks ts ∧ DrawnT ts
abbrev n__law_locked : List Str := ["_law_row", "_law_many", "_law_found", "_law_k", "_law_cost"]
theorem sc__law_locked : FnScope n__law_locked ["_law_row", "_law_many"] (defScope s_law_locked) := ⟨rfl, rfl, rfl, by decide +kernel, rfl, by decide +kernel, by decide +kernel⟩
theorem ok__law_locked (g : Pg w K mg base h) : FnW P w K mg base (TT K) "_law_locked" 4 preLocked postLocked := by
  have c_taken := ok__law_taken (P := P) g
  have c_pick := ok__law_pick (P := P) g
  have c_secs := ok__law_sections (P := P) g
  obtain ⟨fd, F⟩ := g.d__law_locked
  refine fnW_of F g.a__law_locked sc__law_locked (fun x ds ⟨_, e⟩ => by rw [e]; rfl) (fun _ _ _ _ _ _ us hl => match us, hl with | [_, _], _ => rfl) ?_
  rintro cdv A outer s H0 Q Ex0 x ds W ft p hcd hr ⟨hx, rfl⟩ hq σ H hat
  have hu := hu_of hr
  have nd := sc__law_locked.nd
  have h0 : At K (TT K) [⟨ft, H0, W, some p⟩] [.own 1 x, .d (.int 4), .un, .un, .un] σ H := hat
  refine ss_cons (s_new h0 (nn_sh (n_lst as_nil)) (fun σ H h1 => ?_) (i := 2) nd rfl (Or.inl rfl))
  refine ss_cons (s_forS (S := D × List Task) (ps := fun t => [(3, .int (t : Nat))]) (i := 0) (m := 1) (P := fun n => 2 ≤ n ∧ n ≤ 4) (fun z t s => RowD s.1 ∧ s.2.length = t ∧ 2 ≤ z ∧ z ≤ 4 ∧ ∀ u ∈ s.2, GoodT u ∧ u.2.1 ≤ 30) (fun s => [.own 2 s.1, .d (.int 4), .own 1 (.lst (s.2.map eTask)), .un, .un]) rfl g.fr h1 rfl hx
    (es_min2 (P := fun n => n = 4) (q := fun n => 2 ≤ n ∧ n < 6) g.fr rfl (es_i (vr 1 rfl) rfl) (es_add (P := fun n => n = 2) (q := fun n => 0 ≤ n ∧ n < 4) (es_i e_int rfl) (es_taken (q := fun n => n = 4) c_taken (hr.mono (by decide)) (es_i (vr 1 rfl) rfl) (fun n e => by omega) (fun n k e h1 h2 => by omega) lt_ok) (fun n k h1 h2 => by omega)) (fun n k h1 h2 => by omega))
    (fun z h => by omega) (fun z y hz hy => ⟨(y, []), ⟨hy, rfl, by omega, by omega, fun u hu => (nomatch hu)⟩, rfl, rfl, rfl, trivial⟩) (fun t => gd_name 3 nd) (fun z b0 t s σ H htz is h2 => ?_) fun z s σ H is h2 => ?_)
  · obtain ⟨y, ts⟩ := s
    obtain ⟨hy, hlen, hz1, hz2, hgood⟩ := is
    have hlen : ts.length = t := hlen
    have h2 : At K (TT K) [b0, ⟨ft, H0, W, some p⟩] [.own 2 y, .d (.int 4), .own 1 (.lst (ts.map eTask)), .d (.int t), .un] σ H := h2
    refine ss_cons (s_asgS (i := 0) (m := 2) (j := 4) (R := RI fun n => 1 ≤ n ∧ n ≤ 20) h2 rfl hy (es_pick c_pick (hr.mono (by decide)) (es_ints (esl_cons (es_i e_int (by decide)) (esl_cons (es_i e_int (by decide)) (esl_cons (es_i e_int (by decide)) (esl_cons (es_i e_int (by decide)) (esl_cons (es_i e_int (by decide)) (esl_cons (es_i e_int (by decide)) (esl_cons (es_i e_int (by decide)) (esl_cons (es_i e_int (by decide)) (esl_cons (es_i e_int (by decide)) (esl_cons (es_i e_int (by decide)) esl_nil))))))))))) lt_ok) (fun d y2 σ H hd hy2 h3 => ?_) nd)
    obtain ⟨c, rfl, hc⟩ := hd
    have h3 : At K (TT K) [b0, ⟨ft, H0, W, some p⟩] [.own 2 y2, .d (.int 4), .own 1 (.lst (ts.map eTask)), .d (.int t), .d (.int c)] σ H := h3
    refine ss_cons (s_appS (i := 0) (m := 2) (j := 2) (R := fun d => ∃ u : Task, d = eTask u ∧ GoodT u ∧ u.2.1 ≤ 30) h3 rfl hy2 (by decide) rfl (es_tup (es_cons (R := RI fun n => n = c) (es_i (vr 4 rfl) rfl) (fun _ _ => es_cons (R := RI fun n => 6 ≤ n ∧ n ≤ 30) (es_pick c_pick (hr.mono (by decide)) (es_ints (esl_cons (es_i e_int (by decide)) (esl_cons (es_i e_int (by decide)) (esl_cons (es_i e_int (by decide)) (esl_cons (es_i e_int (by decide)) (esl_cons (es_i e_int (by decide)) esl_nil)))))) lt_ok)
      (fun _ _ => es_cons (R := fun d => ∃ l : List Sec, d = .tup (l.map eSec) ∧ GoodSecs c l) (es_call (Rs := fun ds => ds = [.int c]) c_secs (hr.mono (by decide)) (fun x W ft σ H hx w Q k => es_cons (R := RI fun n => n = c) (es_i (vr 4 rfl) rfl) (fun _ _ => es_nil) rfl x W ft σ H hx w Q fun ds vs y W' ft' H' ⟨d, r, e1, ⟨n, e2, e3⟩, e4⟩ => k ds vs y W' ft' H' (by rw [e1, e2, e3, e4])) (fun x ds hx e => ⟨hx, c, e, hc.1, hc.2⟩) (fun x ds y d _ e ⟨h1, c', l, e2, e3, h4⟩ => ⟨h1, l, e3, by
          rw [e] at e2
          have : c = c' := by injection e2 with e2 _; injection e2
          rw [this]
          exact h4⟩) lt_ok) fun _ _ => es_nil))) (fun ds hd => ?_) fun ds hd => ?_) (by rw [List.length_map]; omega) fun d y3 σ H hd hy3 h4 => ?_)
    · obtain ⟨d1, r1, e1, _, d2, r2, e2, _, d3, r3, e3, _, e4⟩ := hd
      rw [e1, e2, e3, e4]
      exact Nat.le_of_ble_eq_true rfl
    · obtain ⟨d1, r1, e1, ⟨n1, f1, rfl⟩, d2, r2, e2, ⟨n2, f2, q2⟩, d3, r3, e3, ⟨l, f3, q3⟩, e4⟩ := hd
      refine ⟨(n1, n2, l), by rw [e1, f1, e2, f2, e3, f3, e4]; rfl, ⟨?_, ?_, q3.few, q3.sec, q3.asc, q3.fits⟩, q2.2⟩
      · simp [isIn]; omega
      · simp [isIn]; omega
    · obtain ⟨u, rfl, gu, hu30⟩ := hd
      have h4 : At K (TT K) [b0, ⟨ft, H0, W, some p⟩] [.own 2 y3, .d (.int 4), .own 1 (.lst (ts.map eTask ++ [eTask u])), .d (.int t), .d (.int c)] σ H := h4
      rw [show ts.map eTask ++ [eTask u] = (ts ++ [u]).map eTask by rw [List.map_append]; rfl] at h4
      refine ss_nil ⟨(y3, ts ++ [u]), ⟨hy3, by simp [hlen], hz1, hz2, fun v hv => ?_⟩, h4.wk ⟨rfl, rfl, rfl, trivial⟩⟩
      rcases List.mem_append.mp hv with q | q
      · exact hgood v q
      · rw [List.mem_singleton.mp q]
        exact ⟨gu, hu30⟩
  · obtain ⟨y, ts⟩ := s
    obtain ⟨hy, hlen, hz1, hz2, hgood⟩ := is
    have h2 : At K (TT K) [⟨ft, H0, W, some p⟩] [.own 1 y, .d (.int 4), .own 0 (.lst (ts.map eTask)), .un, .un] σ H := h2
    have hlen : ts.length = z := hlen
    have h3 := h2.frz (i := 2) rfl
    exact ss_cons (s_ret h3 (ee_sh (e_tupL g.fr (vr 2 rfl))) (finW hq rfl ⟨hy, ts, rfl, ⟨by omega, by omega, fun u hu => (hgood u hu).1⟩, by omega, fun u hu => (hgood u hu).2⟩ rfl))
/-! patterns -/
structure Arr (gap : Int) (t : Nat) (l : List Int) (at_ : Int) : Prop where
  len : l.length = t
  lo : 0 ≤ at_
  hi : at_ ≤ 10 + 32 * (t : Int)
  good : GoodA gap l
  last : ∀ y, l[l.length - 1]? = some y → y + gap ≤ at_
theorem Arr.nil {gap a : Int} (h : 0 ≤ a ∧ a ≤ 10) : Arr gap 0 [] a := ⟨rfl, h.1, by omega, fun k x e => by simp at e, fun y e => by simp at e⟩
theorem Arr.snoc {gap a d : Int} {t : Nat} {l : List Int} (h : Arr gap t l a) (ht : t ≤ 1) (hg : 0 ≤ gap ∧ gap ≤ 30) (hd : 0 ≤ d ∧ d ≤ 2) : Arr gap (t + 1) (l ++ [a]) (a + gap + d) := by
  have h1 := h.len
  have h2 := h.lo
  have h3 := h.hi
  refine ⟨by simp [h1], by omega, by omega, fun k x e => ?_, fun y e => ?_⟩
  · by_cases c : k < l.length
    · rw [List.getElem?_append_left c] at e
      obtain ⟨q1, q2⟩ := h.good k x e
      refine ⟨q1, fun hk y ey => q2 hk y ?_⟩
      rw [List.getElem?_append_left (by omega)] at ey
      exact ey
    · have hk : k = l.length := by
        have := (List.getElem?_eq_some_iff.mp e).1
        simp at this
        omega
      subst hk
      rw [List.getElem?_append_right (Nat.le_refl _)] at e
      simp at e
      subst e
      refine ⟨by simp [isIn]; omega, fun hk y ey => ?_⟩
      rw [List.getElem?_append_left (by omega)] at ey
      exact h.last y ey
  · simp at e
    omega
/-- patterns as the law draws them -/
structure DrawnP (ts : List Task) (pat : List (List Int)) : Prop where
  good : GoodPat ts pat
  few : ∀ a ∈ pat, 1 ≤ a.length ∧ a.length ≤ 2
def preArr (x : D) (ds : List D) : Prop := RowD x ∧ ∃ ts : List Task, ds = [eTasks ts] ∧ DrawnT ts
def postArr (_ : D) (ds : List D) (y d : D) : Prop := RowD y ∧ ∃ (ts : List Task) (pat : List (List Int)), ds = [eTasks ts] ∧ d = ePat pat ∧ DrawnP ts pat
abbrev n__law_arrivals : List Str := ["_law_row", "_law_tasks", "_law_found", "_law_step", "_law_way", "_law_k", "_law_at", "_law_some", "_law_turn"]
theorem sc__law_arrivals : FnScope n__law_arrivals ["_law_row", "_law_tasks"] (defScope s_law_arrivals) := ⟨rfl, rfl, rfl, by decide +kernel, rfl, by decide +kernel, by decide +kernel⟩
/-- arrivals found so far -/
structure Pats (ts : List Task) (pat : List (List Int)) : Prop where
  few : ∀ a ∈ pat, 1 ≤ a.length ∧ a.length ≤ 2
  arr : ∀ (k : Nat) (t : Task) (a : List Int), ts[k]? = some t → pat[k]? = some a → GoodA t.2.1 a
theorem Pats.done {ts : List Task} {pat : List (List Int)} (h : Pats ts pat) (hl : pat.length = ts.length) (hm : ts.length ≤ 4) : DrawnP ts pat := by
  refine ⟨⟨hl, h.arr, ?_⟩, h.few⟩
  have : ∀ p : List (List Int), (∀ a ∈ p, a.length ≤ 2) → (p.map fun a => ((a.length : Nat) : Int)).sum ≤ 2 * (p.length : Int) := by
    intro p
    induction p with
    | nil => intro _; simp
    | cons a p ih =>
      intro hh
      have h1 := hh a List.mem_cons_self
      have h2 := ih fun b hb => hh b (List.mem_cons_of_mem _ hb)
      simp only [List.map_cons, List.sum_cons, List.length_cons]
      omega
  have := this pat fun a ha => (h.few a ha).2
  omega
theorem imm_ints (l : List Int) : imm (.tup (l.map .int)) = true := imms_map (f := D.int) fun _ _ => rfl
theorem ok__law_arrivals (g : Pg w K mg base h) : FnW P w K mg base (TT K) "_law_arrivals" 2 preArr postArr := by
  have c_taken := ok__law_taken (P := P) g
  obtain ⟨fd, F⟩ := g.d__law_arrivals
  refine fnW_of F g.a__law_arrivals sc__law_arrivals (fun x ds ⟨_, m, e, _⟩ => by rw [e]; rfl) (fun _ _ _ _ _ _ us hl => match us, hl with | [_, _], _ => rfl) ?_
  rintro cdv A outer s H0 Q Ex0 x ds W ft p hcd hr ⟨hx, ts, rfl, dt⟩ hq σ H hat
  have hu := hu_of hr
  have nd := sc__law_arrivals.nd
  have hm := dt.most
  have h0 : At K (TT K) [⟨ft, H0, W, some p⟩] [.own 1 x, .d (eTasks ts), .un, .un, .un, .un, .un, .un, .un] σ H := hat
  refine ss_cons (s_par3S (i := 0) (m := 1) (j := 2) (k := 3) (n := 4) (Rb := RI fun n => 1 ≤ n ∧ n ≤ 3) (Rc := RI fun n => 0 ≤ n) h0 rfl hx
    (es_add (P := fun n => n = 1) (q := fun n => 0 ≤ n ∧ n < 3) (es_i e_int rfl) (es_taken (q := fun n => n = 3) c_taken (hr.mono (by decide)) (es_i e_int rfl) (fun n e => by omega) (fun n k e h1 h2 => by omega) lt_ok) (fun n k h1 h2 => by omega))
    (es_taken (q := fun n => n = 5) c_taken (hr.mono (by decide)) (es_i e_int rfl) (fun n e => by omega) (fun n k e h1 h2 => by omega) lt_ok)
    (fun d d' y σ H hd hd' hy h1 => ?_) rfl nd (by kernel_rfl))
  obtain ⟨step, rfl, hstep⟩ := hd
  obtain ⟨way, rfl, hway⟩ := hd'
  have h1 : At K (TT K) [⟨ft, H0, W, some p⟩] [.own 1 y, .d (eTasks ts), .own 0 (.lst []), .d (.int step), .d (.int way), .un, .un, .un, .un] σ H := h1
  refine ss_cons (s_forI (S := D × List (List Int)) (as := List.range ts.length) (ed := fun k => .int (k : Nat)) (ps := fun k => [(5, .int (k : Nat))]) (fun i s => RowD s.1 ∧ s.2.length = i ∧ Pats ts s.2) (fun s => [.own 2 s.1, .d (eTasks ts), .own 1 (.lst (s.2.map eInts)), .d (.int step), .d (.int way), .un, .un, .un, .un]) (y, []) rfl h1 (i_rng (n := ts.length) g.fr (E.eq (e_len g.fr (vr 1 rfl)) (by rw [List.length_map])) (by omega)) ⟨hy, rfl, fun a ha => (nomatch ha), fun k t a _ e => by simp at e⟩ ⟨rfl, rfl, rfl, rfl, rfl, trivial⟩ (fun i a hia => gd_name 5 nd) (fun b0 i k s σ H hia is h2 => ?_) fun s σ H is h2 => ?_)
  · obtain ⟨y2, pat⟩ := s
    obtain ⟨hy2, hlen, hpat⟩ := is
    have hlen : pat.length = i := hlen
    have hik : k = i ∧ i < ts.length := by
      have h1 := (List.getElem?_eq_some_iff.mp hia).1
      rw [List.length_range] at h1
      rw [List.getElem?_range h1] at hia
      exact ⟨(Option.some.inj hia).symm, h1⟩
    obtain ⟨rfl, hk⟩ := hik
    have ek := get_ix hk
    have hgt := dt.good.all _ (List.getElem_mem hk)
    have hg30 := dt.gaps _ (List.getElem_mem hk)
    have hgap : 0 ≤ ts[k].2.1 ∧ ts[k].2.1 ≤ 30 := by
      have := hgt.gap
      simp [isIn] at this
      omega
    have elen : ∀ {X : Cx} {Γ : List (Option D)} {p px pos : Pos}, True := trivial
    have h2 : At K (TT K) [b0, ⟨ft, H0, W, some p⟩] [.own 2 y2, .d (eTasks ts), .own 1 (.lst (pat.map eInts)), .d (.int step), .d (.int way), .d (.int k), .un, .un, .un] σ H := h2
    refine ss_cons (s_parSN (i := 0) (m := 2) (j := 6) (k := 7) (Ra := RI fun n => 0 ≤ n ∧ n ≤ 10) h2 rfl hy2 (es_taken (q := fun n => n = 1 + 2 * ((ts.length : Int) - k)) c_taken (hr.mono (by decide)) (es_i (e_add e_int (e_mul e_int (e_sub (E.eq (e_len g.fr (vr 1 rfl)) (by rw [List.length_map])) (vr 5 rfl)) (.inl (by omega)))) rfl) (fun n e => by omega) (fun n k e h1 h2 => by omega) lt_ok) (fun d y3 σ H hd hy3 h3 => ?_) rfl nd (by kernel_rfl))
    obtain ⟨a0, rfl, ha0⟩ := hd
    have h3 : At K (TT K) [b0, ⟨ft, H0, W, some p⟩] [.own 2 y3, .d (eTasks ts), .own 1 (.lst (pat.map eInts)), .d (.int step), .d (.int way), .d (.int k), .d (.int a0), .own 0 (.lst []), .un] σ H := h3
    refine ss_mid (M := fun σ H => ∃ y a, RowD y ∧ (0 ≤ a ∧ a ≤ 10) ∧ At K (TT K) [b0, ⟨ft, H0, W, some p⟩] [.own 2 y, .d (eTasks ts), .own 1 (.lst (pat.map eInts)), .d (.int step), .d (.int way), .d (.int k), .d (.int a), .own 0 (.lst []), .un] σ H)
      (s_if h3 (b_gt (vr 4 rfl) e_int) (fun hb σ H h4 => ?_) fun hb σ H h4 => ss_nil ⟨y3, a0, hy3, ha0, h4⟩) fun σ H ⟨y4, a, hy4, ha, h4⟩ => ?_
    · refine ss_cons (s_asgS (i := 0) (m := 2) (j := 6) (R := RI fun n => 0 ≤ n ∧ n ≤ 10) h4 rfl hy3 (es_add (P := fun n => 0 ≤ n ∧ n ≤ 9) (q := fun n => 0 ≤ n ∧ n < 2) (es_i (e_mul (vr 3 rfl) (e_sub (e_sub (E.eq (e_len g.fr (vr 1 rfl)) (by rw [List.length_map])) e_int) (vr 5 rfl)) (.inl (by omega))) ?_) (es_taken (q := fun n => n = 2) c_taken (hr.mono (by decide)) (es_i e_int rfl) (fun n e => by omega) (fun n k e h1 h2 => by omega) lt_ok) (fun n k h1 h2 => by omega)) (fun d y5 σ H hd hy5 h5 => ?_) nd)
      · have h5 : step = 1 ∨ step = 2 ∨ step = 3 := by omega
        rcases h5 with rfl | rfl | rfl <;> omega
      · obtain ⟨a, rfl, ha⟩ := hd
        exact ss_nil ⟨y5, a, hy5, ha, h5⟩
    · refine ss_cons (s_forS (S := D × List Int × Int) (ps := fun t => [(8, .int (t : Nat))]) (i := 0) (m := 2) (P := fun n => 1 ≤ n ∧ n ≤ 2) (fun z t s => RowD s.1 ∧ 1 ≤ z ∧ z ≤ 2 ∧ Arr ts[k].2.1 t s.2.1 s.2.2) (fun s => [.own 3 s.1, .d (eTasks ts), .own 2 (.lst (pat.map eInts)), .d (.int step), .d (.int way), .d (.int k), .d (.int s.2.2), .own 1 (.lst (s.2.1.map .int)), .un]) rfl g.fr h4 rfl hy4
        (es_add (P := fun n => n = 1) (q := fun n => 0 ≤ n ∧ n < 2) (es_i e_int rfl) (es_taken (q := fun n => n = 2) c_taken (hr.mono (by decide)) (es_i e_int rfl) (fun n e => by omega) (fun n k e h1 h2 => by omega) lt_ok) (fun n k h1 h2 => by omega))
        (fun z h => by omega) (fun z y hz hy => ⟨(y, [], a), ⟨hy, by omega, by omega, Arr.nil ha⟩, rfl, rfl, rfl, rfl, rfl, rfl, rfl, rfl, trivial⟩) (fun t => gd_name 8 nd) (fun z b1 t s σ H htz is h5 => ?_) fun z s σ H is h5 => ?_)
      · obtain ⟨y5, l, at1⟩ := s
        obtain ⟨hy5, hz1, hz2, arr⟩ := is
        have arr : Arr ts[k].2.1 t l at1 := arr
        have hll : l.length = t := arr.len
        have h5 : At K (TT K) [b1, b0, ⟨ft, H0, W, some p⟩] [.own 3 y5, .d (eTasks ts), .own 2 (.lst (pat.map eInts)), .d (.int step), .d (.int way), .d (.int k), .d (.int at1), .own 1 (.lst (l.map .int)), .d (.int t)] σ H := h5
        refine ss_cons (s_app h5 (i := 7) rfl (ee_sh (vr 6 rfl)) (by rw [List.length_map]; omega) (fun σ H h6 => ?_) rfl (Or.inl rfl))
        have h6 : At K (TT K) [b1, b0, ⟨ft, H0, W, some p⟩] [.own 3 y5, .d (eTasks ts), .own 2 (.lst (pat.map eInts)), .d (.int step), .d (.int way), .d (.int k), .d (.int at1), .own 1 (.lst (l.map .int ++ [.int at1])), .d (.int t)] σ H := h6
        rw [show l.map D.int ++ [.int at1] = (l ++ [at1]).map .int by rw [List.map_append]; rfl] at h6
        refine ss_cons (s_asgS (i := 0) (m := 3) (j := 6) (R := RI fun n => ∃ d, 0 ≤ d ∧ d ≤ 2 ∧ n = at1 + ts[k].2.1 + d) h6 rfl hy5 (es_add (P := fun n => n = at1 + ts[k].2.1) (q := fun n => 0 ≤ n ∧ n < 3) (es_i (e_add (vr 6 rfl) (e_ix hu (e_ix hu (vr 1 rfl) (vr 5 rfl) (ix_tup ek)) e_int rfl)) rfl) (es_taken (q := fun n => n = 3) c_taken (hr.mono (by decide)) (es_i e_int rfl) (fun n e => by omega) (fun n k e h1 h2 => by omega) lt_ok) (fun n d h1 h2 => ⟨d, by omega, by omega, by omega⟩)) (fun d y6 σ H hd hy6 h7 => ?_) nd)
        obtain ⟨_, rfl, d, hd1, hd2, rfl⟩ := hd
        exact ss_nil ⟨(y6, l ++ [at1], at1 + ts[k].2.1 + d), ⟨hy6, hz1, hz2, arr.snoc (by omega) hgap ⟨hd1, hd2⟩⟩, h7.wk ⟨rfl, rfl, rfl, rfl, rfl, rfl, rfl, rfl, trivial⟩⟩
      · obtain ⟨y5, l, at1⟩ := s
        obtain ⟨hy5, hz1, hz2, arr⟩ := is
        have arr : Arr ts[k].2.1 z l at1 := arr
        have hll : l.length = z := arr.len
        have h5 : At K (TT K) [b0, ⟨ft, H0, W, some p⟩] [.own 2 y5, .d (eTasks ts), .own 1 (.lst (pat.map eInts)), .d (.int step), .d (.int way), .d (.int k), .d (.int at1), .own 0 (.lst (l.map .int)), .un] σ H := h5
        refine ss_cons (s_app h5 (i := 2) rfl (ee_al (e_tupL g.fr (vr 7 rfl)) (imm_ints l)) (by rw [List.length_map]; omega) (fun σ H h6 => ?_) rfl (Or.inl rfl))
        have h6 : At K (TT K) [b0, ⟨ft, H0, W, some p⟩] [.own 2 y5, .d (eTasks ts), .own 1 (.lst (pat.map eInts ++ [eInts l])), .d (.int step), .d (.int way), .d (.int k), .d (.int at1), .own 0 (.lst (l.map .int)), .un] σ H := h6
        rw [show pat.map eInts ++ [eInts l] = (pat ++ [l]).map eInts by rw [List.map_append]; rfl] at h6
        refine ss_nil ⟨(y5, pat ++ [l]), ⟨hy5, by simp [hlen], fun a ha => ?_, fun j t a ht e => ?_⟩, h6.wk ⟨rfl, rfl, rfl, rfl, rfl, trivial⟩⟩
        · rcases List.mem_append.mp ha with q | q
          · exact hpat.few a q
          · rw [List.mem_singleton.mp q]
            omega
        · have hlen : pat.length = k := hlen
          by_cases c : j < pat.length
          · rw [List.getElem?_append_left c] at e
            exact hpat.arr j t a ht e
          · have hj : j = pat.length := by
              have := (List.getElem?_eq_some_iff.mp e).1
              simp at this
              omega
            rw [hj, List.getElem?_append_right (Nat.le_refl _)] at e
            simp at e
            subst e
            rw [hj, hlen, ek] at ht
            cases ht
            exact arr.good
  · obtain ⟨y2, pat⟩ := s
    obtain ⟨hy2, hlen, hpat⟩ := is
    have h2 : At K (TT K) [⟨ft, H0, W, some p⟩] [.own 1 y2, .d (eTasks ts), .own 0 (.lst (pat.map eInts)), .d (.int step), .d (.int way), .un, .un, .un, .un] σ H := h2
    have hlen : pat.length = (List.range ts.length).length := hlen
    rw [List.length_range] at hlen
    have h3 := h2.frz (i := 2) rfl
    exact ss_cons (s_ret h3 (ee_sh (e_tupL g.fr (vr 2 rfl))) (finW hq rfl ⟨hy2, ts, pat, rfl, rfl, hpat.done hlen hm⟩ rfl))
end
end Ev31
/-! ## DwC -/
set_option maxHeartbeats 4000000
/-! isinstance with two classes; == and != of data; get; min of keys; joined lists; slices. -/
namespace Dv
open PySem PySem.Spec PyProof.Rows L2 Gx
section
variable {X : Cx} {T : TbL} {Γ : List (Option D)} {a b e f o : Expr} {d da db : D} {l m : List D} {pos p p2 p3 p4 tpos apos : Pos} {k : Nat} {q : Bool} {i j : Int}
/-- isinstance(x, (tuple, list)) -/
theorem e_isiTL {t : String} (fr : Fr X.mg) (ha : E X T Γ a d) (ht : tyD d = some t) (hk : PySem.W.kitAny X.K (.type t) [.type "tuple", .type "list"] = some q) (hg : Gl X "isinstance" := by rfl) (hg1 : Gl X "tuple" := by rfl) (hg2 : Gl X "list" := by rfl) (hv1 : bootBuiltins "tuple" = some (.type "tuple") := by decide +kernel) (hv2 : bootBuiltins "list" = some (.type "list") := by decide +kernel)
    (h1 : starEach [a, .Tuple [.Name "tuple" p3, .Name "list" p4] k tpos] X.env = (false, eval a X.env) :: starEach [.Tuple [.Name "tuple" p3, .Name "list" p4] k tpos] X.env := by rfl)
    (h2 : starEach [.Tuple [.Name "tuple" p3, .Name "list" p4] k tpos] X.env = (false, eval (.Tuple [.Name "tuple" p3, .Name "list" p4] k tpos) X.env) :: starEach [] X.env := by rfl)
    (h3 : starEach [.Name "tuple" p3, .Name "list" p4] X.env = (false, eval (.Name "tuple" p3) X.env) :: starEach [.Name "list" p4] X.env := by rfl) (h4 : starEach [.Name "list" p4] X.env = (false, eval (.Name "list" p4) X.env) :: starEach [] X.env := by rfl)
    (hpl : (backTo pos (starEach [.Tuple [.Name "tuple" p3, .Name "list" p4] k tpos] X.env)).any (·.1) = false := by rfl) :
    E X T Γ (.Call (.Name "isinstance" p) [a, .Tuple [.Name "tuple" p3, .Name "list" p4] k tpos] [] pos) (.bl q) := fun W σ H P Q kq =>
  of_pe (pe_callB (t := tCons (rE X a) (tCons (tTup (tCons (tC (.ty "tuple")) (tCons (tC (.ty "list")) tNil))) tNil)) call_isiT hg fr.isinstance boot_isinstance (pa_cons pe_r (pa_cons (pe_tup (pa_cons (pe_bltn hg1 fr.tuple hv1 rfl (by decide) (by decide)) (pa_cons (pe_bltn hg2 fr.list hv2 rfl (by decide) (by decide)) pa_nil h4) h3)) pa_nil h2) h1) (by decide) (by decide) h1 hpl)
    (ha W σ H P _ fun x H1 e1 r1 => ⟨Nat.le_of_ble_eq_true rfl, fun tp htp => ⟨x, tp, [.ty "tuple", .ty "list"], .type t, [.type "tuple", .type "list"], q, rfl, upd_same, .cons (.ty _) (.cons (.ty _) .nil), ty_rep (r1.ex (T := T) (Ex.new htp)) ht, hk, kq _ _ (e1.trans (Ex.new htp)) rfl⟩⟩)
/-! data as the kit compares it -/
mutual
def pyD : D → PyData
  | .no => .none
  | .bl b => .bool b
  | .int i => .int i
  | .tup l => .tuple (pysD l)
  | .lst l => .list (pysD l)
  | _ => .none
def pysD : List D → List PyData
  | [] => []
  | d :: l => pyD d :: pysD l
end
mutual
def okD : D → Bool
  | .no => true
  | .bl _ => true
  | .int _ => true
  | .tup l => oksD l
  | .lst l => oksD l
  | _ => false
def oksD : List D → Bool
  | [] => true
  | d :: l => okD d && oksD l
end
mutual
theorem rep_dp {K : PySem.W.Frag} {W : List Addr} {H : Hp} : ∀ {d : D} {v : V}, okD d = true → Rep K W H d v → Dp K H v (pyD d)
  | .no, _, _, h => by rw [Rep] at h; subst h; exact .non
  | .bl _, _, _, h => by rw [Rep] at h; subst h; exact .bl _
  | .int _, _, _, h => by rw [Rep] at h; subst h; exact .int _
  | .tup l, _, q, h => by
    obtain ⟨a, xs, rfl, h1, h2⟩ := h
    rw [pyD]
    exact .tup h1 (reps_dp (by simpa [okD] using q) h2)
  | .lst l, _, q, h => by
    obtain ⟨a, xs, rfl, h1, h2⟩ := h
    rw [pyD]
    exact .lst h1.sq (reps_dp (by simpa [okD] using q) h2)
  | .str _, _, q, _ => by simp [okD] at q
  | .dct _ _, _, q, _ => by simp [okD] at q
  | .obj _ _ _, _, q, _ => by simp [okD] at q
  | .rws _, _, q, _ => by simp [okD] at q
  | .ob2 _ _ _ _, _, q, _ => by simp [okD] at q
theorem reps_dp {K : PySem.W.Frag} {W : List Addr} {H : Hp} : ∀ {l : List D} {xs : List V}, oksD l = true → Reps K W H l xs → DpAll K H xs (pysD l)
  | [], _, _, h => by rw [h.nil_inv]; exact .nil
  | d :: l, _, q, h => by
    obtain ⟨x, r, rfl, h1, h2⟩ := h.cons_inv
    simp only [oksD, Bool.and_eq_true] at q
    rw [pysD]
    exact .cons (rep_dp q.1 h1) (reps_dp q.2 h2)
end
mutual
def depD : D → Nat
  | .tup l => depsD l + 1
  | .lst l => depsD l + 1
  | _ => 0
def depsD : List D → Nat
  | [] => 0
  | d :: l => max (depD d) (depsD l)
end
mutual
theorem pyD_ok : ∀ {d : D}, okD d = true → (pyD d).canLay0 = true ∧ (pyD d).depth = depD d
  | .no, _ => ⟨rfl, rfl⟩
  | .bl _, _ => ⟨rfl, rfl⟩
  | .int _, _ => ⟨rfl, rfl⟩
  | .tup l, q => by
    obtain ⟨h1, h2⟩ := pysD_ok (l := l) (by simpa [okD] using q)
    simp [pyD, PyData.canLay0, PyData.depth, depD, h1, h2]
  | .lst l, q => by
    obtain ⟨h1, h2⟩ := pysD_ok (l := l) (by simpa [okD] using q)
    simp [pyD, PyData.canLay0, PyData.depth, depD, h1, h2]
  | .str _, q => by simp [okD] at q
  | .dct _ _, q => by simp [okD] at q
  | .obj _ _ _, q => by simp [okD] at q
  | .rws _, q => by simp [okD] at q
  | .ob2 _ _ _ _, q => by simp [okD] at q
theorem pysD_ok : ∀ {l : List D}, oksD l = true → PyData.canLayAll0 (pysD l) = true ∧ PyData.depthAll (pysD l) = depsD l
  | [], _ => ⟨rfl, rfl⟩
  | d :: l, q => by
    simp only [oksD, Bool.and_eq_true] at q
    obtain ⟨h1, h2⟩ := pyD_ok q.1
    obtain ⟨h3, h4⟩ := pysD_ok q.2
    simp [pysD, PyData.canLayAll0, PyData.depthAll, depsD, h1, h2, h3, h4]
end
theorem oks_all {l : List D} (h : ∀ d ∈ l, okD d = true) : oksD l = true := by
  induction l with
  | nil => rfl
  | cons a l ih => simp [oksD, h a List.mem_cons_self, ih fun d hd => h d (List.mem_cons_of_mem _ hd)]
theorem deps_all {l : List D} {n : Nat} (h : ∀ d ∈ l, depD d ≤ n) : depsD l ≤ n := by
  induction l with
  | nil => exact Nat.zero_le _
  | cons a l ih =>
    have h1 := h a List.mem_cons_self
    have h2 := ih fun d hd => h d (List.mem_cons_of_mem _ hd)
    show max _ _ ≤ n
    omega
structure Cmp (d : D) : Prop where
  ok : okD d = true
  dep : depD d ≤ 60
theorem Cmp.shaped {d : D} (h : Cmp d) : SeqAt.shaped (pyD d) = true := by
  obtain ⟨h1, h2⟩ := pyD_ok h.ok
  unfold SeqAt.shaped
  rw [h1, h2, Bool.true_and]
  have := h.dep
  exact decide_eq_true (by omega)
theorem Cmp.lst (h : ∀ d ∈ l, okD d = true ∧ depD d ≤ 50) : Cmp (.lst l) := ⟨by rw [okD]; exact oks_all fun d hd => (h d hd).1, by rw [depD]; have := deps_all fun d hd => (h d hd).2; omega⟩
theorem Cmp.tup (h : ∀ d ∈ l, okD d = true ∧ depD d ≤ 50) : Cmp (.tup l) := ⟨by rw [okD]; exact oks_all fun d hd => (h d hd).1, by rw [depD]; have := deps_all fun d hd => (h d hd).2; omega⟩
theorem o_eqD (ca : Cmp da) (cb : Cmp db) : O2 X T (rEqD X.K) da db (.bl (PyData.eqv (pyD da) (pyD db))) := fun W H x y _ _ rx ry Q q => ⟨_, _, rep_dp ca.ok rx, rep_dp cb.ok ry, ca.shaped, cb.shaped, q _ H (Ex.refl H) rfl⟩
theorem o_neD (ca : Cmp da) (cb : Cmp db) : O2 X T (rNeD X.K) da db (.bl (!PyData.eqv (pyD da) (pyD db))) := fun W H x y _ _ rx ry Q q => ⟨_, _, rep_dp ca.ok rx, rep_dp cb.ok ry, ca.shaped, cb.shaped, q _ H (Ex.refl H) rfl⟩
theorem e_eqD (hu : X.A.units + 64 < cLine) (ha : E X T Γ a da) (hb : E X T Γ b db) (ca : Cmp da) (cb : Cmp db) (hm : behindInMarks .Eq b = false := by first | exact nobehind _ (by decide) (by decide) | rfl) : E X T Γ (.Compare a [.Eq] [b] pos) (.bl (PyData.eqv (pyD da) (pyD db))) := e_cmp (op_eqD hu) (o_eqD ca cb) hm ha hb
theorem b_eqD (hu : X.A.units + 64 < cLine) (ha : E X T Γ a da) (hb : E X T Γ b db) (ca : Cmp da) (cb : Cmp db) (hm : behindInMarks .Eq b = false := by first | exact nobehind _ (by decide) (by decide) | rfl) : B X T Γ (.Compare a [.Eq] [b] pos) (PyData.eqv (pyD da) (pyD db)) := b_cmp (op_eqD hu) (o_eqD ca cb) hm ha hb
theorem b_neD (hu : X.A.units + 64 < cLine) (ha : E X T Γ a da) (hb : E X T Γ b db) (ca : Cmp da) (cb : Cmp db) (hm : behindInMarks .NotEq b = false := by first | exact nobehind _ (by decide) (by decide) | rfl) : B X T Γ (.Compare a [.NotEq] [b] pos) (!PyData.eqv (pyD da) (pyD db)) := b_cmp (op_neD hu) (o_neD ca cb) hm ha hb
theorem eqv_nilL : PyData.eqv (pyD (.lst l)) (pyD (.lst [])) = l.isEmpty := by
  cases l <;> simp [pyD, pysD, PyData.eqv, PyData.eqvAll]
theorem eqv_nilT : PyData.eqv (pyD (.tup l)) (pyD (.tup [])) = l.isEmpty := by
  cases l <;> simp [pyD, pysD, PyData.eqv, PyData.eqvAll]
theorem cmp_nilL : Cmp (.lst []) := ⟨rfl, by decide⟩
theorem cmp_nilT : Cmp (.tup []) := ⟨rfl, by decide⟩
/-- x == [], x != [] -/
theorem b_eqNil {lp : Pos} (hu : X.A.units + 64 < cLine) (ha : E X T Γ a (.lst l)) (ca : Cmp (.lst l)) (hm : behindInMarks .Eq (.List [] lp) = false := by first | exact nobehind _ (by decide) (by decide) | rfl) : B X T Γ (.Compare a [.Eq] [.List [] lp] pos) l.isEmpty := (b_eqD hu ha (n_e (n_lst as_nil)) ca cmp_nilL hm).eq eqv_nilL
theorem b_neNil {lp : Pos} (hu : X.A.units + 64 < cLine) (ha : E X T Γ a (.lst l)) (ca : Cmp (.lst l)) (hm : behindInMarks .NotEq (.List [] lp) = false := by first | exact nobehind _ (by decide) (by decide) | rfl) : B X T Γ (.Compare a [.NotEq] [.List [] lp] pos) (!l.isEmpty) := (b_neD hu ha (n_e (n_lst as_nil)) ca cmp_nilL hm).eq (by rw [eqv_nilL])
theorem e_eqNil {lp : Pos} (hu : X.A.units + 64 < cLine) (ha : E X T Γ a (.lst l)) (ca : Cmp (.lst l)) (hm : behindInMarks .Eq (.List [] lp) = false := by first | exact nobehind _ (by decide) (by decide) | rfl) : E X T Γ (.Compare a [.Eq] [.List [] lp] pos) (.bl l.isEmpty) := (e_eqD hu ha (n_e (n_lst as_nil)) ca cmp_nilL hm).eq (congrArg D.bl eqv_nilL)
theorem b_neNilT {lp : Pos} {kk : Nat} (hu : X.A.units + 64 < cLine) (ha : E X T Γ a (.tup l)) (ca : Cmp (.tup l)) (hm : behindInMarks .NotEq (.Tuple [] kk lp) = false := by first | exact nobehind _ (by decide) (by decide) | rfl) : B X T Γ (.Compare a [.NotEq] [.Tuple [] kk lp] pos) (!l.isEmpty) := (b_neD hu ha (e_tup as_nil) ca cmp_nilT hm).eq (by rw [eqv_nilT])
theorem eqv_ints : ∀ {xs ys : List Int}, PyData.eqvAll (pysD (xs.map .int)) (pysD (ys.map .int)) = decide (xs = ys)
  | [], [] => by simp [pysD, PyData.eqvAll]
  | [], y :: ys => by simp [pysD, PyData.eqvAll]
  | x :: xs, [] => by simp [pysD, PyData.eqvAll]
  | x :: xs, y :: ys => by
    have ih := eqv_ints (xs := xs) (ys := ys)
    simp only [List.map_cons, pysD, pyD, PyData.eqvAll, PyData.eqv, ih]
    rw [Bool.eq_iff_iff]
    simp
theorem cmp_ints {xs : List Int} : Cmp (.lst (xs.map .int)) := .lst fun d hd => by
  obtain ⟨x, _, rfl⟩ := List.mem_map.mp hd
  exact ⟨rfl, Nat.le_of_ble_eq_true rfl⟩
theorem cmp_intsT {xs : List Int} : Cmp (.tup (xs.map .int)) := .tup fun d hd => by
  obtain ⟨x, _, rfl⟩ := List.mem_map.mp hd
  exact ⟨rfl, Nat.le_of_ble_eq_true rfl⟩
/-! dict.get(k, x) -/
theorem e_get2 {ks : List Int} {cpos : Pos} (hu : X.A.units + 1 < cLine) (ho : E X T Γ o (.dct ks l)) (he : E X T Γ e (.int i)) (hf : E X T Γ f d) (m : M2 X o "get" apos e f cpos) : E X T Γ (.Call (.Attribute o "get" apos) [e, f] [] cpos) ((dAt ks l i).getD d) := fun W σ H P Q k => by
  refine of_pe (pe_dget2 hu pe_r pe_r pe_r m) (ho W σ H P _ fun x H1 e1 r1 => ?_)
  rw [Rep] at r1
  obtain ⟨t, kvs, rfl, hW, h1, h2, h3⟩ := r1
  refine ⟨t, rfl, .inl ⟨kvs, .inl h1⟩, he W σ H1 (P.ex e1) _ fun y H2 e2 r2 => hf W σ H2 ((P.ex e1).ex e2) _ fun z H3 e3 r3 => ?_⟩
  rw [Rep] at r2
  subst r2
  have h1' : H3 t = some (.dK kvs) := e3.ob _ _ (e2.ob _ _ h1 fun ps z => by cases z) fun ps z => by cases z
  refine ⟨valV kvs (.inl i), .inl ⟨kvs, .inl i, .inl h1', rfl, rfl⟩, ?_⟩
  obtain ⟨q1, q2⟩ := dAt_rep (i := i) h2 h3
  cases hd : dAt ks l i with
  | none =>
    rw [q2 hd]
    exact k z H3 ((e1.trans e2).trans e3) (by rw [hd]; exact r3)
  | some u =>
    obtain ⟨v, hv, rv⟩ := q1 hd
    rw [hv]
    exact k v H3 ((e1.trans e2).trans e3) (by rw [hd]; exact (rv.ex e2).ex e3)
/-- two new lists joined -/
theorem n_cat (ha : N X T Γ a l) (hb : N X T Γ b m) (hz : l.length + m.length ≤ 100000) : N X T Γ (.BinOp a .Add b pos) (l ++ m) := fun W σ H P Q q => by
  refine of_pe (pe_op op_cat pe_r pe_r) (ha W σ H P _ fun t xs H1 n1 e1 h1 r1 => ?_)
  have P1 : Pr X.K T (t :: W) H1 Γ σ := P.late (Mx.of e1) (cons_new n1) fun x hx => by
    rcases List.mem_cons.mp hx with z | z
    · exact ⟨_, by rw [z]; exact h1, fun ps w => by cases w⟩
    · exact (P.al.ex e1) x z
  refine hb (t :: W) σ H1 P1 _ fun u ys H2 n2 e2 h2 r2 => ?_
  have h1' : H2 t = some (.lst xs) := e2.ob _ _ h1 fun ps z => by cases z
  refine ⟨t, u, xs, ys, rfl, rfl, h1', h2, by rw [r1.length, r2.length, sizeLine_eq]; omega, fun p hp => ?_⟩
  have r3 : Reps X.K W H2 l xs := (r1.ex e2).less fun x z => List.mem_cons_of_mem _ z
  have r4 : Reps X.K W H2 m ys := r2.less fun x z => List.mem_cons_of_mem _ (List.mem_cons_of_mem _ z)
  exact q p _ _ (((Nw.of hp).back e2).back e1) ((e1.trans e2).trans (Ex.new hp)) upd_same (new_go hp (r3.append r4))
end
end Dv
/-! ## DwD -/
set_option maxHeartbeats 4000000
/-! min of key tuples; more stores. -/
namespace Dv
open PySem PySem.Spec PyProof.Rows L2 Gx
/-! ### min of a list of (int, truth, int) -/
def IsQ (K : PySem.W.Frag) (H : Hp) (v : V) (k : KD) : Prop := ∃ t, v = .ref t ∧ SqT K H t (kdV k)
section
variable {X : Cx} {pins : List (Addr × Obj)} {σ : L2.St} {H : Hp} {s : Shared}
theorem IsQ.reads {v : V} {u : Value} {k : KD} (I : Inv X pins σ H s) (h : IsQ X.K H v k) (r : RelV v u) : Reads s.heap u (kdD k) [] := by
  obtain ⟨t, rfl, e⟩ := h
  obtain rfl : u = Value.ref t := r
  obtain ⟨its, rv, ⟨o, ho, hc, n, hd⟩, _⟩ := I.tuple e
  have hall : ReadsAll s.heap its.toArray.toList [.int k.1, .bool k.2.1, .int k.2.2] [] := by
    match its, (show Vals [.int k.1, .bl k.2.1, .int k.2.2] its from rv) with
    | [u1, u2, u3], .cons r1 (.cons r2 (.cons r3 .nil)) =>
      obtain ⟨t1, rfl⟩ := r1
      obtain rfl : u2 = Value.bool k.2.1 := r2
      obtain ⟨t3, rfl⟩ := r3
      exact .cons (as := []) (bs := []) (.int _ _) (.cons (as := []) (bs := []) (.bool _) (.cons (as := []) (bs := []) (.int _ _) .nil))
  exact .tuple ho hc hd hall
theorem readsQ {xs : List V} {us : List Value} {ks : List KD} (I : Inv X pins σ H s) (r : Vals xs us) (h : Paired (IsQ X.K H) xs ks) : ReadsAll s.heap us (ks.map kdD) [] := by
  induction h generalizing us with
  | nil => cases r; exact .nil
  | cons hk _ ih =>
    cases r with
    | cons r1 r2 => exact .cons (as := []) (bs := []) (hk.reads I r1) (ih r2)
def rMinQ (K : PySem.W.Frag) : List V → Hp → VK → Prop := fun vs H Q => ∃ (a : Addr) (xs : List V) (k : KD) (ks : List KD), vs = [V.ref a] ∧ SqL K H a xs ∧ Paired (IsQ K H) xs (k :: ks) ∧ ∀ v, v ∈ xs → IsQ K H v (kMin k ks) → Q v H
theorem cr_minQ {k : Nat} (hr : Room k X.A) : CallR X (.builtin "min") (rMinQ X.K) := by
  intro pins s σ H vs us Q I r h
  obtain ⟨a, xs, k1, ks, rfl, hs, hp, q⟩ := h
  obtain ⟨its, rv, hl, _⟩ := I.list hs
  rw [Vals.ref1 r]
  have hR := readsQ I rv hp
  have hal : PySem.W.AlikeAll (kdD k1 :: ks.map kdD) := by
    refine ⟨fun x hx y hy => ?_, fun x hx => ?_⟩
    · obtain ⟨a, _, rfl⟩ := List.mem_map.mp (show x ∈ (k1 :: ks).map kdD from hx)
      obtain ⟨b, _, rfl⟩ := List.mem_map.mp (show y ∈ (k1 :: ks).map kdD from hy)
      simp [kdD, PySem.W.alike, PySem.W.alikeAll]
    · obtain ⟨a, _, rfl⟩ := List.mem_map.mp (show x ∈ (k1 :: ks).map kdD from hx)
      simp [kdD]
  have hdep : ∀ l : List KD, PyData.depthAll (l.map kdD) ≤ 8 := by
    intro l
    induction l with
    | nil => simp [PyData.depthAll]
    | cons x l ih => simp [PyData.depthAll, kdD, PyData.depth] at *; omega
  refine PySem.W.min_list_data hr.hd hl.isList (vs := its.toArray) (by simpa using hR) hal (by have := hr.un; have := hdep (k1 :: ks); simp only [List.map_cons] at this; omega) fun i v h' tk bs hv hrd hk => ?_
  have hv' : its[i]? = some v := by simpa using hv
  have hx : ∃ x, xs[i]? = some x ∧ RelV x v := by
    have hl := rv.length
    have hi : i < xs.length := by
      have := (List.getElem?_eq_some_iff.mp hv').1
      omega
    obtain ⟨u, e1, e2⟩ := rv.get (i := i) (x := xs[i]) (by simp [hi])
    rw [hv'] at e1
    cases e1
    exact ⟨_, by simp [hi], e2⟩
  obtain ⟨x, hx, rx⟩ := hx
  refine ⟨x, H, I.kept (t' := tk) hk, rx, q x (List.mem_of_getElem? hx) ?_⟩
  obtain ⟨y, hy, hkx⟩ := Gx.paired_get hp hx
  have hrd2 := (hkx.reads (I.kept (t' := tk) hk) rx)
  rw [minD_kMin] at hrd
  have e := PySem.W.alike_unique _ _ _ _ _ (by simp [kdD, PySem.W.alike, PySem.W.alikeAll]) hrd2 hrd
  rw [← kdD_inj e]
  exact hkx
end
def eKD (k : KD) : D := .tup [.int k.1, .bl k.2.1, .int k.2.2]
section
variable {X : Cx} {T : TbL} {Γ : List (Option D)} {a e : Expr} {d da db : D} {l m : List D} {pos p p2 : Pos}
theorem rep_kd {K : PySem.W.Frag} {W : List Addr} {H : Hp} {k : KD} {v : V} (h : Rep K W H (eKD k) v) : IsQ K H v k := by
  obtain ⟨t, xs, rfl, h1, h2⟩ := h
  obtain ⟨x, y, z, rfl, rx, ry, rz⟩ := h2.three_inv
  cases (show x = .int k.1 from rx)
  cases (show y = .bl k.2.1 from ry)
  cases (show z = .int k.2.2 from rz)
  exact ⟨t, rfl, h1⟩
theorem kd_rep {K : PySem.W.Frag} {W : List Addr} {H : Hp} {k : KD} {v : V} (h : IsQ K H v k) : Rep K W H (eKD k) v := by
  obtain ⟨t, rfl, h1⟩ := h
  exact ⟨t, kdV k, rfl, h1, .cons rfl (.cons rfl (.cons rfl .nil))⟩
theorem reps_kd {K : PySem.W.Frag} {W : List Addr} {H : Hp} : ∀ {ks : List KD} {xs : List V}, Reps K W H (ks.map eKD) xs → Paired (IsQ K H) xs ks
  | [], _, h => by rw [h.nil_inv]; exact .nil
  | k :: ks, _, h => by
    obtain ⟨x, r, rfl, h1, h2⟩ := h.cons_inv
    exact .cons (rep_kd h1) (reps_kd h2)
theorem e_minQ {k : Nat} {k1 : KD} {ks : List KD} (fr : Fr X.mg) (hr : Room k X.A) (ha : E X T Γ a (.lst ((k1 :: ks).map eKD))) (hg : Gl X "min" := by rfl) (h1 : starEach [a] X.env = (false, eval a X.env) :: starEach [] X.env := by rfl) (hpl : (backTo pos (starEach [] X.env)).any (·.1) = false := by rfl) (hv : bootBuiltins "min" = some (.builtin "min") := by decide +kernel) :
    E X T Γ (.Call (.Name "min" p) [a] [] pos) (eKD (kMin k1 ks)) :=
  e_callB (cr_minQ hr) (fun W H xs _ _ r Q kk => by
    obtain ⟨x, e, h⟩ := r.one_inv
    obtain ⟨t, ys, rfl, hq, hs⟩ := h
    exact ⟨t, ys, k1, ks, e, hq.sq, reps_kd hs, fun v _ hv => kk v H (Ex.refl H) (kd_rep hv)⟩) hg fr.min hv (as_cons ha as_nil h1) (by decide) (by decide) h1 hpl
end
section
variable {X : Cx} {T : TbL} {De : Ends} {bs : List Bas} {Γ : List Sl} {σ : L2.St} {H : Hp} {a b e ix ix2 : Expr} {d da db : D} {l l1 l2 : List D} {i j k m n : Nat} {x y z : Str} {p p2 px py pz pt pt2 pos lp tpos tpos2 dp sp up vp : Pos} {kt k2 c : Nat}
/-- x = x[:-1], x a list of its own -/
theorem s_cutLast (h : At X.K T bs Γ σ H) (ho : Γ[i]? = some (.own m (.lst l))) (hne : l ≠ []) (kk : ∀ σ' H', At X.K T bs (Γ.set i (.own 0 (.lst l.dropLast))) σ' H' → De.nx σ' H') (hN : X.N.Nodup) (hi : X.N[i]? = some x := by rfl) (hx : Loc X.env.scope x := by first | exact Or.inl rfl | exact Or.inr rfl)
    (hv : Vis X.env.scope x := by first | exact Or.inl rfl | exact Or.inr (Or.inl rfl) | exact Or.inr (Or.inr rfl)) (hd : (x == ("__debug__" : Str)) = false := by decide) (hcd : (x == ("__classdict__" : Str)) = false := by decide)
    (hs : swapsWith (.Subscript (.Name x p2) (.Slice none (some (.UnaryOp .USub (.Constant (.int 1) c vp) up)) none sp) tpos) (some (.Name x p)) pos.line X.env = pure false := by rfl) (hf : X.fn x = true ∨ X.env.scope.names.lookup x = some .local := by first | exact .inl rfl | exact .inr rfl) :
    rS X (.Assign [.Name x p] (.Subscript (.Name x p2) (.Slice none (some (.UnaryOp .USub (.Constant (.int 1) c vp) up)) none sp) tpos) pos) De σ H := by
  obtain ⟨W, a⟩ := h
  obtain ⟨q, xs, hq, hxs, hr⟩ := a.own ho
  refine of_ps (ps_set hN hi hx (pe_slice sl_list (pe_var hi hv hd hcd) po_none (po_some (pe_un un_neg pe_int))) hs hf) ⟨.ref q, hq, 1, rfl, -1, rfl, q, xs, rfl, .inl (.inl hxs), fun t ht => ?_⟩
  have hlen := hr.length
  have hpos : 0 < l.length := List.length_pos_iff.mpr hne
  have e : cutV xs none (some (-1)) = xs.dropLast := by
    show (xs.drop 0).take ((if (-1 : Int) < 0 then ((-1 : Int) + (xs.length : Int)).toNat else min (-1 : Int).toNat xs.length) - 0) = _
    rw [List.drop_zero, List.dropLast_eq_take, if_pos (by decide)]
    congr 1
    omega
  rw [e]
  exact kk _ _ ⟨_, a.putOwn (Nw.of ht) (Ex.new ht) upd_same (new_go ht hr.dropLast)⟩
/-- a target that is a tuple, a value that is shared -/
theorem s_asgT {tg : Expr} {ps : List (Nat × D)} (h : At X.K T bs Γ σ H) (he : EE X T Γ e d) (hg : Gd X tg d ps) (kk : ∀ σ' H', At X.K T bs (putS Γ ps) σ' H' → De.nx σ' H') (hs : swapsWithSole [tg] e pos.line X.env = pure false := by rfl) (hw : swappedStores [tg] e X.env = pure none := by rfl)
    (h1 : (assignEach [tg] X.env).map (·.2) = [assign tg X.env] := by rfl) : rS X (.Assign [tg] e pos) De σ H := by
  obtain ⟨W, a⟩ := h
  refine of_ps (ps_asg pe_r pg_r hs hw h1) (a.run he fun v H2 e2 r2 => ?_)
  exact hg T (sh Γ) W σ H2 v (a.ex e2).pr r2 _ fun σ' sm P' => kk _ _ ⟨W, (a.ex e2).sim sm P'⟩
/-- x, y = {}, e, by way of a tuple -/
theorem s_par2D (h : At X.K T bs Γ σ H) (hc : X.calm = true) (hN : X.N.Nodup) (hb : E X T (sh Γ) b db) (kk : ∀ σ' H', At X.K T bs ((Γ.set i (.own 0 (mkD [] fun _ => .no))).set j (.d db)) σ' H' → De.nx σ' H')
    (hw : swappedStores [.Tuple [.Name x px, .Name y py] kt pt] (.Tuple [.Dict [] [] dp, b] k2 pt2) X.env = pure none := by rfl) (hi : X.N[i]? = some x := by rfl) (hj : X.N[j]? = some y := by rfl) (hx : Loc X.env.scope x := by first | exact Or.inl rfl | exact Or.inr rfl) (hy : Loc X.env.scope y := by first | exact Or.inl rfl | exact Or.inr rfl) (hfx : X.fn x = true ∨ X.env.scope.names.lookup x = some .local := by first | exact .inl rfl | exact .inr rfl) (hfy : X.fn y = true ∨ X.env.scope.names.lookup y = some .local := by first | exact .inl rfl | exact .inr rfl)
    (hn2 : (assignEach [.Name x px, .Name y py] X.env).length = 2 := by rfl) (hst2 : (assignEach [.Name x px, .Name y py] X.env).findIdx? (·.1) = none := by rfl)
    (hs3 : (assignEach [.Name x px, .Name y py] X.env).map (·.2) = assign (.Name x px) X.env :: (assignEach [.Name y py] X.env).map (·.2) := by rfl) (hs4 : (assignEach [.Name y py] X.env).map (·.2) = assign (.Name y py) X.env :: (assignEach [] X.env).map (·.2) := by rfl)
    (hs5 : (assignEach [.Tuple [.Name x px, .Name y py] kt pt] X.env).map (·.2) = [assign (.Tuple [.Name x px, .Name y py] kt pt) X.env] := by rfl)
    (hs : swapsWithSole [.Tuple [.Name x px, .Name y py] kt pt] (.Tuple [.Dict [] [] dp, b] k2 pt2) pos.line X.env = pure false := by rfl) (h1 : starEach [.Dict [] [] dp, b] X.env = (false, eval (.Dict [] [] dp) X.env) :: starEach [b] X.env := by rfl) (h2 : starEach [b] X.env = (false, eval b X.env) :: starEach [] X.env := by rfl) :
    rS X (.Assign [.Tuple [.Name x px, .Name y py] kt pt] (.Tuple [.Dict [] [] dp, b] k2 pt2) pos) De σ H := by
  obtain ⟨W, w⟩ := h
  refine of_ps (ps_asg (pe_tup pa_r) (pg_tup (n := 2) hc (pgs_cons (pg_name hN hi hx hfx) (pgs_cons (pg_name hN hj hy hfy) pgs_nil hs4) hs3) hn2 hst2) hs hw hs5) (cons_eval h1 (of_pe pe_dnewK fun q hq => cons_eval h2 (hb (q :: W) σ _ (w.prN (H' := upd H q (.dK [])) (Nw.of hq) (Ex.new hq) ⟨_, upd_same, trivial⟩) _ fun v H2 e2 r2 => nil_eval ⟨Nat.le_of_ble_eq_true rfl, fun t ht => ?_⟩)))
  have b1 := ((w.putOwnD (i := i) (ks := []) (l := []) (Nw.of hq) (Ex.new hq) upd_same rfl .nil).ex e2).put (i := j) r2
  exact ⟨t, [.ref q, v], rfl, .inl (.inl upd_same), rfl, .ref q, [v], rfl, v, [], rfl, rfl, kk _ _ ⟨_, b1.ex (Ex.new ht)⟩⟩
/-- x, y, z = a, b, [], new lists, by way of a tuple -/
theorem s_par3N (h : At X.K T bs Γ σ H) (hc : X.calm = true) (hN : X.N.Nodup) (ha : N X T (sh Γ) a l1) (hb : N X T (sh Γ) b l2) (hij : i ≠ j)
    (kk : ∀ σ' H', At X.K T bs (((Γ.set i (.own 0 (.lst l1))).set j (.own 0 (.lst l2))).set k (.own 0 (.lst []))) σ' H' → De.nx σ' H')
    (hw : swappedStores [.Tuple [.Name x px, .Name y py, .Name z pz] kt pt] (.Tuple [a, b, .List [] lp] k2 pt2) X.env = pure none := by rfl) (hi : X.N[i]? = some x := by rfl) (hj : X.N[j]? = some y := by rfl) (hk : X.N[k]? = some z := by rfl) (hx : Loc X.env.scope x := by first | exact Or.inl rfl | exact Or.inr rfl) (hy : Loc X.env.scope y := by first | exact Or.inl rfl | exact Or.inr rfl) (hz : Loc X.env.scope z := by first | exact Or.inl rfl | exact Or.inr rfl)
    (hfx : X.fn x = true ∨ X.env.scope.names.lookup x = some .local := by first | exact .inl rfl | exact .inr rfl) (hfy : X.fn y = true ∨ X.env.scope.names.lookup y = some .local := by first | exact .inl rfl | exact .inr rfl) (hfz : X.fn z = true ∨ X.env.scope.names.lookup z = some .local := by first | exact .inl rfl | exact .inr rfl)
    (hn2 : (assignEach [.Name x px, .Name y py, .Name z pz] X.env).length = 3 := by rfl) (hst2 : (assignEach [.Name x px, .Name y py, .Name z pz] X.env).findIdx? (·.1) = none := by rfl)
    (hs3 : (assignEach [.Name x px, .Name y py, .Name z pz] X.env).map (·.2) = assign (.Name x px) X.env :: (assignEach [.Name y py, .Name z pz] X.env).map (·.2) := by rfl) (hs4 : (assignEach [.Name y py, .Name z pz] X.env).map (·.2) = assign (.Name y py) X.env :: (assignEach [.Name z pz] X.env).map (·.2) := by rfl) (hs6 : (assignEach [.Name z pz] X.env).map (·.2) = assign (.Name z pz) X.env :: (assignEach [] X.env).map (·.2) := by rfl)
    (hs5 : (assignEach [.Tuple [.Name x px, .Name y py, .Name z pz] kt pt] X.env).map (·.2) = [assign (.Tuple [.Name x px, .Name y py, .Name z pz] kt pt) X.env] := by rfl)
    (hs : swapsWithSole [.Tuple [.Name x px, .Name y py, .Name z pz] kt pt] (.Tuple [a, b, .List [] lp] k2 pt2) pos.line X.env = pure false := by rfl) (h1 : starEach [a, b, .List [] lp] X.env = (false, eval a X.env) :: starEach [b, .List [] lp] X.env := by rfl) (h2 : starEach [b, .List [] lp] X.env = (false, eval b X.env) :: starEach [.List [] lp] X.env := by rfl) (h3 : starEach [.List [] lp] X.env = (false, eval (.List [] lp) X.env) :: starEach [] X.env := by rfl) :
    rS X (.Assign [.Tuple [.Name x px, .Name y py, .Name z pz] kt pt] (.Tuple [a, b, .List [] lp] k2 pt2) pos) De σ H := by
  obtain ⟨W, w⟩ := h
  refine of_ps (ps_asg (pe_tup pa_r) (pg_tup (n := 3) hc (pgs_cons (pg_name hN hi hx hfx) (pgs_cons (pg_name hN hj hy hfy) (pgs_cons (pg_name hN hk hz hfz) pgs_nil hs6) hs4) hs3) hn2 hst2) hs hw hs5) (cons_eval h1 (ha W σ H w.pr _ fun q xs H1 n1 e1 g1 r1 => cons_eval h2 (hb (q :: W) σ H1 (w.prN n1 e1 ⟨_, g1, trivial⟩) _ fun q2 ys H2 n2 e2 g2 r2 =>
    cons_eval h3 (of_pe (pe_lst pa_nil) ⟨by simp, fun q3 h3 => nil_eval ⟨Nat.le_of_ble_eq_true rfl, fun t ht => ?_⟩⟩))))
  have b1 := w.putOwn (i := i) n1 e1 g1 r1
  have b2 := b1.putOwn (i := j) n2 e2 g2 r2
  have b3 := b2.putOwn (i := k) (l := []) (xs := []) (Nw.of h3) (Ex.new h3) upd_same .nil
  exact ⟨t, [.ref q, .ref q2, .ref q3], rfl, .inl (.inl upd_same), rfl, .ref q, _, rfl, .ref q2, _, rfl, .ref q3, [], rfl, rfl, kk _ _ ⟨_, b3.ex (Ex.new ht)⟩⟩
/-- x[ix], y[ix2] = e1, e2: ints, in two lists of their own -/
theorem s_set2 {n1 n2 : Int} {t t2 : Nat} (hc : X.calm = true) (h : At X.K T bs Γ σ H) (ho : Γ[i]? = some (.own m (.lst l1))) (ho2 : Γ[j]? = some (.own n (.lst l2))) (hij : i ≠ j) (he : EE X T Γ (.Tuple [a, b] k2 pt2) (.tup [.int n1, .int n2])) (hix : EE X T Γ ix (.int (t : Nat))) (hix2 : EE X T (Γ.set i (.own m (.lst (l1.set t (.int n1))))) ix2 (.int (t2 : Nat))) (ht : t < l1.length) (ht2 : t2 < l2.length)
    (kk : ∀ σ' H', At X.K T bs ((Γ.set i (.own m (.lst (l1.set t (.int n1))))).set j (.own n (.lst (l2.set t2 (.int n2))))) σ' H' → De.nx σ' H')
    (hi : X.N[i]? = some x := by rfl) (hx : Vis X.env.scope x := by first | exact Or.inl rfl | exact Or.inr (Or.inl rfl) | exact Or.inr (Or.inr rfl)) (hd : (x == ("__debug__" : Str)) = false := by decide) (hcd : (x == ("__classdict__" : Str)) = false := by decide)
    (hi2 : X.N[j]? = some y := by rfl) (hx2 : Vis X.env.scope y := by first | exact Or.inl rfl | exact Or.inr (Or.inl rfl) | exact Or.inr (Or.inr rfl)) (hd2 : (y == ("__debug__" : Str)) = false := by decide) (hcd2 : (y == ("__classdict__" : Str)) = false := by decide)
    (ha : ∀ v, assign (.Subscript (.Name x px) ix tpos) X.env v = (do
      let ov ← holding [v] (eval (.Name x px) X.env)
      let iv ← holding [v, ov] (eval ix X.env)
      standAt tpos
      holding [v, ov, iv] (setItem ov iv v)
      release [v, ov, iv] []) := by intro _; rfl)
    (ha2 : ∀ v, assign (.Subscript (.Name y py) ix2 tpos2) X.env v = (do
      let ov ← holding [v] (eval (.Name y py) X.env)
      let iv ← holding [v, ov] (eval ix2 X.env)
      standAt tpos2
      holding [v, ov, iv] (setItem ov iv v)
      release [v, ov, iv] []) := by intro _; rfl)
    (hl : (assignEach [.Subscript (.Name x px) ix tpos, .Subscript (.Name y py) ix2 tpos2] X.env).length = 2 := by rfl) (hst : (assignEach [.Subscript (.Name x px) ix tpos, .Subscript (.Name y py) ix2 tpos2] X.env).findIdx? (·.1) = none := by rfl)
    (hs3 : (assignEach [.Subscript (.Name x px) ix tpos, .Subscript (.Name y py) ix2 tpos2] X.env).map (·.2) = assign (.Subscript (.Name x px) ix tpos) X.env :: (assignEach [.Subscript (.Name y py) ix2 tpos2] X.env).map (·.2) := by rfl)
    (hs4 : (assignEach [.Subscript (.Name y py) ix2 tpos2] X.env).map (·.2) = assign (.Subscript (.Name y py) ix2 tpos2) X.env :: (assignEach [] X.env).map (·.2) := by rfl)
    (hs : swapsWithSole [.Tuple [.Subscript (.Name x px) ix tpos, .Subscript (.Name y py) ix2 tpos2] kt pt] (.Tuple [a, b] k2 pt2) pos.line X.env = pure false := by rfl)
    (hw : swappedStores [.Tuple [.Subscript (.Name x px) ix tpos, .Subscript (.Name y py) ix2 tpos2] kt pt] (.Tuple [a, b] k2 pt2) X.env = pure none := by rfl)
    (h1 : (assignEach [.Tuple [.Subscript (.Name x px) ix tpos, .Subscript (.Name y py) ix2 tpos2] kt pt] X.env).map (·.2) = [assign (.Tuple [.Subscript (.Name x px) ix tpos, .Subscript (.Name y py) ix2 tpos2] kt pt) X.env] := by rfl) :
    rS X (.Assign [.Tuple [.Subscript (.Name x px) ix tpos, .Subscript (.Name y py) ix2 tpos2] kt pt] (.Tuple [a, b] k2 pt2) pos) De σ H := by
  obtain ⟨W, w⟩ := h
  refine of_ps (ps_asg pe_r (pg_tup (n := 2) hc (pgs_cons (pg_sub (pe_var hi hx hd hcd) pe_r set_list ha) (pgs_cons (pg_sub (pe_var hi2 hx2 hd2 hcd2) pe_r set_list ha2) pgs_nil hs4) hs3) hl hst) hs hw h1) (w.run he fun v H2 e2 r2 => ?_)
  obtain ⟨tp, vs, rfl, g1, g2⟩ := r2
  obtain ⟨u1, u2, rfl, q1, q2⟩ := g2.two_inv
  rw [Rep] at q1 q2
  subst q1 q2
  have w2 := w.ex e2
  obtain ⟨q, xs, hq, hxs, hr⟩ := w2.own ho
  refine ⟨tp, _, rfl, g1, rfl, .int n1, _, rfl, .ref q, hq, w2.run hix fun y3 H3 e3 r3 => ?_⟩
  have z3 : H3 q = some (.lst xs) := e3.ob _ _ hxs fun ps z => by cases z
  have w3 := (w2.ex e3).mutL (l' := l1.set t (.int n1)) (xs := xs.set t (.int n1)) ho hq ((hr.ex e3).set t rfl)
  refine ⟨q, xs, t, t, rfl, r3, z3, ?_, .int n2, [], rfl, ?_⟩
  · unfold ixN
    rw [hr.length, if_pos (by omega), if_pos (by omega)]
    simp
  have ho2' : (Γ.set i (.own m (.lst (l1.set t (.int n1)))))[j]? = some (.own n (.lst l2)) := by rw [List.getElem?_set_ne hij]; exact ho2
  obtain ⟨q', xs', hq', hxs', hr'⟩ := w3.own ho2'
  refine ⟨.ref q', hq', w3.run hix2 fun y4 H4 e4 r4 => ?_⟩
  have z4 : H4 q' = some (.lst xs') := e4.ob _ _ hxs' fun ps z => by cases z
  have w4 := (w3.ex e4).mutL (l' := l2.set t2 (.int n2)) (xs := xs'.set t2 (.int n2)) ho2' hq' ((hr'.ex e4).set t2 rfl)
  refine ⟨q', xs', t2, t2, rfl, r4, z4, ?_, rfl, kk _ _ ⟨W, w4⟩⟩
  unfold ixN
  rw [hr'.length, if_pos (by omega), if_pos (by omega)]
  simp
end
end Dv
/-! ## LD -/
set_option maxHeartbeats 4000000
/-! The law's own: equal data, held locks, ceilings. -/
namespace Ev31
open PySem PySem.Spec PyProof.Rows L2 Gx Dv
theorem hu64_of {k : Nat} {A : Around} (h : Room k A) : A.units + 64 < cLine := by have := h.un; omega
/-- ints and tuples, not deeper than n -/
def AlkD : Nat → D → Prop
  | 0, d => ∃ i, d = .int i
  | n + 1, d => (∃ i, d = .int i) ∨ ∃ l, d = .tup l ∧ l.length ≤ 1000 ∧ ∀ x ∈ l, AlkD n x
section
variable {P : Program} {w : World} {K : PySem.W.Frag} {mg : Str → Option Value} {base h : Heap}
def R_alike (n : Nat) (ds : List D) (d : D) : Prop := ∃ x, ds = [x, x] ∧ d = .bl true ∧ AlkD n x
abbrev n__law_alike : List Str := ["_law_found", "_law_due", "_law_k"]
theorem sc__law_alike : FnScope n__law_alike ["_law_found", "_law_due"] (defScope s_law_alike) := ⟨rfl, rfl, rfl, by decide +kernel, rfl, by decide +kernel, by decide +kernel⟩
theorem ok__law_alike (g : Pg w K mg base h) : ∀ n : Nat, FnC P w K mg base (TT K) "_law_alike" (n + 1) (R_alike n) := by
  have intCase : ∀ (n k : Nat) {cdv : Value} {A : Around} {outer : List Env} {s : Shared} {H0 : Hp} {Q : VK} {Ex0 : XK} {W : List Addr} {fd : FuncData} (f : Addr), ∀ i : Int, Room k (A.deeper (envOfC "_law_alike" (defScope s_law_alike) s.heap.objs.size f cdv)) → (∀ v H', Ex (TT K) H0 H' → Rep K W H' (.bl true) v → Q v H') →
      ∀ σ H, At K (TT K) [⟨[], H0, W, none⟩] [.d (.int i), .d (.int i), .un] σ H → rSs (cxOf CX0 P w K mg base n__law_alike "_law_alike" (defScope s_law_alike) f cdv A outer s H0 Ex0).nox (defBody s_law_alike) { nx := fun _ H' => Q .non H', rt := Q } σ H := by
    intro n k cdv A outer s H0 Q Ex0 W fd f i hr hq σ H h0
    have nd := sc__law_alike.nd
    refine ss_cons (s_if h0 (b := false) (b_val (e_isiTL g.fr (vr 1 rfl) rfl rfl)) (fun hb => nomatch hb) fun hb σ H h1 => ss_nil ?_)
    refine ss_cons (s_if h1 (b := false) (B.eq (b_bw (bw_or (b_is (vr 1 rfl) e_no) fun _ => (bw_or1 (b_val (e_isi (u := "str") (q := false) g.fr (vr 1 rfl) g.fr.str rfl rfl))))) rfl) (fun hb => nomatch hb) fun hb σ H h2 => ss_nil ?_)
    exact ss_cons (s_ret h2 (ee_sh (e_and (e_isi (u := "int") (q := true) g.fr (vr 0 rfl) g.fr.int rfl rfl) fun _ => (e_and (e_eq (e_isi (u := "bool") (q := false) g.fr (vr 0 rfl) g.fr.bool rfl rfl) (e_isi (u := "bool") (q := false) g.fr (vr 1 rfl) g.fr.bool rfl rfl)) fun _ => (e_one (e_eq (vr 0 rfl) (vr 1 rfl)))))) (fin0 hq (by simp)))
  intro n
  induction n with
  | zero =>
    obtain ⟨fd, F⟩ := g.d__law_alike
    refine fnC_of F g.a__law_alike sc__law_alike (fun ds d ⟨x0, e, _⟩ => by rw [e]; rfl) (fun _ _ _ _ _ _ us hl => match us, hl with | [_, _], _ => rfl) ?_
    rintro cdv A outer s H0 Q Ex0 ds d W hcd hr ⟨_, rfl, rfl, i, rfl⟩ hq σ H hat
    exact intCase 0 0 (fd := fd) _ i hr hq σ H hat
  | succ n ih =>
    obtain ⟨fd, F⟩ := g.d__law_alike
    refine fnC_of F g.a__law_alike sc__law_alike (fun ds d ⟨x0, e, _⟩ => by rw [e]; rfl) (fun _ _ _ _ _ _ us hl => match us, hl with | [_, _], _ => rfl) ?_
    rintro cdv A outer s H0 Q Ex0 ds d W hcd hr ⟨_, rfl, rfl, ⟨i, rfl⟩ | ⟨l, rfl, hl, hx⟩⟩ hq σ H hat
    · exact intCase 0 (n + 1) (fd := fd) _ i hr hq σ H hat
    · have hu := hu_of hr
      have hu64 := hu64_of hr
      have nd := sc__law_alike.nd
      have h0 : At K (TT K) [⟨[], H0, W, none⟩] [.d (.tup l), .d (.tup l), .un] σ H := hat
      refine ss_cons (s_if h0 (b := true) (b_val (e_isiTL g.fr (vr 1 rfl) rfl rfl)) (fun _ σ H h1 => ?_) fun hb => nomatch hb)
      refine ss_cons (s_skip h1 (B.eq (b_bw (bw_or (b_not (b_val (e_isiTL (q := true) g.fr (vr 0 rfl) rfl rfl))) fun _ => (bw_or1 (b_ne (e_isi (u := "list") (q := false) g.fr (vr 0 rfl) g.fr.list rfl rfl) (e_isi (u := "list") (q := false) g.fr (vr 1 rfl) g.fr.list rfl rfl))))) (by decide)) fun σ H h2 => ?_)
      refine ss_cons (s_skip h2 (B.eq (b_ne (e_len g.fr (vr 0 rfl)) (e_len g.fr (vr 1 rfl))) (by simp)) fun σ H h3 => ?_)
      have at_ : ∀ (k : Nat) (hk : k < l.length), ixF (.tup l) (.int (k : Nat)) = some l[k] := fun k hk => atI_nat (List.getElem?_eq_getElem hk)
      refine ss_cons (s_ret h3 (ee_sh (E.eq (e_eqNil (l := []) hu64 (E.eq (n_e (n_lc' [("_law_k", 2)] (List.range l.length) eNat (fun a => [(2, eNat a)]) (fun _ => false) eNat rfl nd (blk_of (by kernel_rfl)) (by simp; omega) (i_rng (n := l.length) g.fr (e_len g.fr (vr 1 rfl)) (by omega)) (fun a ha s H C cl fp => gd_name 2 nd)
        (fun k hk s H C cl fp => bs_one (B.eq (b_not (b_val (p := true) (e_call ih (hr.mono (by omega)) (as_cons (e_ix hu (vr 0 rfl) (vr 2 rfl) (at_ k (List.mem_range.mp hk))) (as_cons (e_ix hu (vr 1 rfl) (vr 2 rfl) (at_ k (List.mem_range.mp hk))) as_nil)) ⟨_, rfl, rfl, hx _ (List.getElem_mem _)⟩))) rfl)) (fun a ha hb s H C cl fp => (vr 2 rfl)))) (by simp)) cmp_nilL) rfl)) (fin0 hq rfl))
def R_holds (ds : List D) (d : D) : Prop := ∃ (ts : List Task) (us : List Nat) (k : Nat), ds = [eTasks ts, .lst (us.map eNat), .int k] ∧ d = .lst ((held ts us k).map .int) ∧ GoodTs ts ∧ us.length = ts.length ∧ k < ts.length
abbrev n__law_holds : List Str := ["_law_tasks", "_law_units", "_law_k", "_law_one"]
theorem sc__law_holds : FnScope n__law_holds ["_law_tasks", "_law_units", "_law_k"] (defScope s_law_holds) := ⟨rfl, rfl, rfl, by decide +kernel, rfl, by decide +kernel, by decide +kernel⟩
theorem ok__law_holds (g : Pg w K mg base h) : FnC P w K mg base (TT K) "_law_holds" 1 R_holds := by
  obtain ⟨fd, F⟩ := g.d__law_holds
  refine fnC_of F g.a__law_holds sc__law_holds (fun ds d ⟨x0, x1, x2, e, _⟩ => by rw [e]; rfl) (fun _ _ _ _ _ _ us hl => match us, hl with | [_, _, _], _ => rfl) ?_
  rintro cdv A outer s H0 Q Ex0 ds d W hcd hr ⟨ts, us, k, rfl, rfl, gt, hul, hk⟩ hq σ H hat
  have hu := hu_of hr
  have nd := sc__law_holds.nd
  have h0 : At K (TT K) [⟨[], H0, W, none⟩] [.d (eTasks ts), .d (.lst (us.map eNat)), .d (.int k), .un] σ H := hat
  have ek := get_ix hk
  have eu := uAt_get (us := us) (k := k) (by omega)
  have hf := (gt.all _ (List.getElem_mem hk)).few
  refine ss_cons (s_ret h0 (ee_sh (n_e (n_lc' [("_law_one", 3)] ts[k].2.2 eSec (fun a => [(3, eSec a)]) (fun s => decide (s.1 < (uAt us k : Int)) && decide ((uAt us k : Int) < s.1 + s.2.1)) (fun s => .int s.2.2) rfl nd (blk_of (by kernel_rfl)) (by omega) (i_tup (e_ix hu (e_ix hu (vr 0 rfl) (vr 2 rfl) (ix_tup ek)) e_int rfl)) (fun a ha s H C cl fp => gd_name 3 nd)
    (fun a ha s H C cl fp => bs_one (b_chain op_lt op_lt o_I0b (fun _ => o_I0b) (e_ix hu (vr 3 rfl) e_int rfl) (e_ix hu (vr 1 rfl) (vr 2 rfl) (ix_lst eu)) (fun _ => (e_add (e_ix hu (vr 3 rfl) e_int rfl) (e_ix hu (vr 3 rfl) e_int rfl))))) (fun a ha hb s H C cl fp => (e_ix hu (vr 3 rfl) e_int rfl))))) (fin0 hq ?_))
  unfold held heldOf
  rw [secs_get hk, List.map_map]
  rfl
/-! ceilings as the law finds them -/
/-- keys and values: what stands at a key is the lock's ceiling; done: tasks, sections of the next one -/
structure Tops (ts : List Task) (i j : Nat) (s : List Int × (Int → Nat)) : Prop where
  val : ∀ l ∈ s.1, top_ ts l = some (s.2 l)
  key : ∀ (k : Nat) (x : Sec), k < i → x ∈ secs ts k → x.2.2 ∈ s.1
  key2 : ∀ x ∈ (secs ts i).take j, x.2.2 ∈ s.1
theorem top_first {l : Int} : ∀ {ts : List Task} {k i : Nat}, (∀ j t, j < i → ts[j]? = some t → hasLock t l = false) → (∀ t, ts[i]? = some t → hasLock t l = true) → i < ts.length → topFrom l k ts = some (k + i)
  | [], _, i, _, _, h => by simp at h
  | t :: ts, k, 0, _, h, _ => by
    unfold topFrom
    rw [if_pos (h t rfl)]
    rfl
  | t :: ts, k, i + 1, h1, h2, h3 => by
    unfold topFrom
    rw [if_neg (by rw [h1 0 t (by omega) rfl]; exact Bool.false_ne_true), top_first (k := k + 1) (i := i) (fun j u hj hu => h1 (j + 1) u (by omega) (by simpa using hu)) (fun u hu => h2 u (by simpa using hu)) (by simpa using h3)]
    congr 1
    omega
theorem has_of {ts : List Task} {k : Nat} {t : Task} {l : Int} (h : ts[k]? = some t) (q : hasLock t l = true) : ∃ x ∈ secs ts k, x.2.2 = l := by
  unfold hasLock at q
  rw [List.any_eq_true] at q
  obtain ⟨x, hx, e⟩ := q
  have e := of_decide_eq_true e
  refine ⟨x, ?_, by injection e⟩
  unfold secs
  rw [List.getD_eq_getElem?_getD, h]
  exact hx
theorem Tops.step {ts : List Task} {i j : Nat} {s : List Int × (Int → Nat)} {x : Sec} (h : Tops ts i j s) (hi : i < ts.length) (hx : (secs ts i)[j]? = some x) :
    Tops ts i (j + 1) (insK s.1 x.2.2, fun l => if l = x.2.2 then min (if x.2.2 ∈ s.1 then s.2 x.2.2 else i) i else s.2 l) ∧ (if x.2.2 ∈ s.1 then s.2 x.2.2 else i) ≤ i := by
  have hxm : x ∈ secs ts i := List.mem_of_getElem? hx
  have hti : hasLock ts[i] x.2.2 = true := by
    rw [secs_get hi] at hxm
    exact has_mem hxm
  by_cases c : x.2.2 ∈ s.1
  · have hv := h.val _ c
    obtain ⟨t, h1, h2⟩ := topFrom_some (k := 0) (l := x.2.2) (List.getElem?_eq_getElem hi) hti
    have hle : s.2 x.2.2 ≤ i := by
      unfold top_ at hv
      rw [hv] at h1
      cases h1
      omega
    simp only [if_pos c]
    have e : insK s.1 x.2.2 = s.1 := if_pos c
    refine ⟨⟨fun l hl => ?_, fun k y hk hy => ?_, fun y hy => ?_⟩, hle⟩
    · rw [e] at hl
      show top_ ts l = some (if l = x.2.2 then min (s.2 x.2.2) i else s.2 l)
      split
      · rename_i z
        subst z
        rw [hv, Nat.min_eq_left hle]
      · exact h.val l hl
    · show y.2.2 ∈ insK s.1 x.2.2
      rw [e]
      exact h.key k y hk hy
    · show y.2.2 ∈ insK s.1 x.2.2
      rw [e]
      rw [List.take_add_one, hx] at hy
      rcases List.mem_append.mp hy with z | z
      · exact h.key2 y z
      · simp at z
        rw [z]
        exact c
  · simp only [if_neg c]
    have e : insK s.1 x.2.2 = s.1 ++ [x.2.2] := if_neg c
    have hv : top_ ts x.2.2 = some i := by
      have := top_first (l := x.2.2) (ts := ts) (k := 0) (i := i) (fun j t hj ht => by
        refine Bool.eq_false_iff.mpr fun q => c ?_
        obtain ⟨y, hy, ey⟩ := has_of ht q
        rw [← ey]
        exact h.key j y hj hy) (fun t ht => by
        rw [List.getElem?_eq_getElem hi] at ht
        cases ht
        exact hti) hi
      unfold top_
      rw [this, Nat.zero_add]
    refine ⟨⟨fun l hl => ?_, fun k y hk hy => ?_, fun y hy => ?_⟩, Nat.le_refl _⟩
    · rw [e] at hl
      show top_ ts l = some (if l = x.2.2 then min i i else s.2 l)
      split
      · rename_i z
        subst z
        rw [hv, Nat.min_self]
      · rename_i z
        rcases List.mem_append.mp hl with q | q
        · exact h.val l q
        · exact absurd (List.mem_singleton.mp q) z
    · show y.2.2 ∈ insK s.1 x.2.2
      rw [e]
      exact List.mem_append_left _ (h.key k y hk hy)
    · show y.2.2 ∈ insK s.1 x.2.2
      rw [e]
      rw [List.take_add_one, hx] at hy
      rcases List.mem_append.mp hy with z | z
      · exact List.mem_append_left _ (h.key2 y z)
      · simp at z
        rw [z]
        exact List.mem_append_right _ (List.mem_singleton.mpr rfl)
theorem Tops.next {ts : List Task} {i : Nat} {s : List Int × (Int → Nat)} (h : Tops ts i (secs ts i).length s) : Tops ts (i + 1) 0 s := by
  refine ⟨h.val, fun k x hk hx => ?_, fun x hx => by simp at hx⟩
  by_cases c : k = i
  · subst c
    exact h.key2 x (by rw [List.take_length]; exact hx)
  · exact h.key k x (by omega) hx
/-- all ceilings -/
def TopsAll (ts : List Task) (s : List Int × (Int → Nat)) : Prop := ∀ (k : Nat) (x : Sec), k < ts.length → x ∈ secs ts k → x.2.2 ∈ s.1 ∧ top_ ts x.2.2 = some (s.2 x.2.2)
abbrev eTops (s : List Int × (Int → Nat)) : D := mkD s.1 fun l => .int (s.2 l : Nat)
def tStep (k : Nat) (s : List Int × (Int → Nat)) (x : Sec) : List Int × (Int → Nat) := (insK s.1 x.2.2, fun l => if l = x.2.2 then min (if x.2.2 ∈ s.1 then s.2 x.2.2 else k) k else s.2 l)
def tRow (ts : List Task) (s : List Int × (Int → Nat)) (k : Nat) : List Int × (Int → Nat) := (secs ts k).foldl (tStep k) s
def tUp (ts : List Task) (i : Nat) : List Int × (Int → Nat) := (List.range i).foldl (tRow ts) ([], fun _ => 0)
def tOf (ts : List Task) : List Int × (Int → Nat) := tUp ts ts.length
theorem tUp_succ (ts : List Task) (i : Nat) : tUp ts (i + 1) = tRow ts (tUp ts i) i := by
  unfold tUp
  rw [List.range_succ, List.foldl_append]
  rfl
theorem tUp_tops (ts : List Task) : ∀ i, i ≤ ts.length → Tops ts i 0 (tUp ts i)
  | 0, _ => ⟨fun l h => (nomatch h), fun k x h => by omega, fun x hx => by simp at hx⟩
  | i + 1, h => by
    have ih := tUp_tops ts i (by omega)
    rw [tUp_succ]
    have key : ∀ j, j ≤ (secs ts i).length → Tops ts i j (((secs ts i).take j).foldl (tStep i) (tUp ts i)) := by
      intro j
      induction j with
      | zero => intro _; exact ih
      | succ j ihj =>
        intro hj
        have hx : (secs ts i)[j]? = some (secs ts i)[j] := List.getElem?_eq_getElem hj
        rw [foldl_snoc hx]
        exact ((ihj (by omega)).step (by omega) hx).1
    have := key _ (Nat.le_refl _)
    rw [List.take_length] at this
    exact this.next
theorem tOf_all (ts : List Task) : TopsAll ts (tOf ts) := fun k x hk hx => by
  have h := tUp_tops ts ts.length (Nat.le_refl _)
  have hm := h.key k x hk hx
  exact ⟨hm, h.val _ hm⟩
theorem keys_few (ts : List Task) (g : GoodTs ts) : ∀ i j, i ≤ ts.length → ((((secs ts i).take j).foldl (tStep i) (tUp ts i)).1).length ≤ 4 * i + j := by
  have one : ∀ (k : Nat) (l : List Sec) (s : List Int × (Int → Nat)), ((l.foldl (tStep k) s).1).length ≤ s.1.length + l.length := by
    intro k l
    induction l with
    | nil => intro s; simp
    | cons x l ih =>
      intro s
      rw [List.foldl_cons]
      have := ih (tStep k s x)
      have h2 : (tStep k s x).1.length ≤ s.1.length + 1 := by
        show (insK s.1 x.2.2).length ≤ _
        unfold insK
        split
        · omega
        · simp
      simp only [List.length_cons]
      omega
  have up : ∀ i, i ≤ ts.length → (tUp ts i).1.length ≤ 4 * i := by
    intro i
    induction i with
    | zero => intro _; exact Nat.le_refl _
    | succ i ih =>
      intro h
      rw [tUp_succ]
      have h1 := one i (secs ts i) (tUp ts i)
      have h2 := ih (by omega)
      have h3 : (secs ts i).length ≤ 4 := by
        rw [secs_get (by omega)]
        exact (g.all _ (List.getElem_mem _)).few
      unfold tRow
      omega
  intro i j h
  have h1 := one i ((secs ts i).take j) (tUp ts i)
  have h2 := up i h
  have h3 := List.length_take_le j (secs ts i)
  omega
def R_tops (ds : List D) (d : D) : Prop := ∃ ts : List Task, ds = [eTasks ts] ∧ d = eTops (tOf ts) ∧ GoodTs ts
abbrev n__law_tops : List Str := ["_law_tasks", "_law_found", "_law_k", "_law_start", "_law_length", "_law_lock"]
theorem sc__law_tops : FnScope n__law_tops ["_law_tasks"] (defScope s_law_tops) := ⟨rfl, rfl, rfl, by decide +kernel, rfl, by decide +kernel, by decide +kernel⟩
theorem ok__law_tops (g : Pg w K mg base h) : FnC P w K mg base (TT K) "_law_tops" 1 R_tops := by
  obtain ⟨fd, F⟩ := g.d__law_tops
  refine fnC_of F g.a__law_tops sc__law_tops (fun ds d ⟨x0, e, _⟩ => by rw [e]; rfl) (fun _ _ _ _ _ _ us hl => match us, hl with | [_], _ => rfl) ?_
  rintro cdv A outer s H0 Q Ex0 ds d W hcd hr ⟨ts, rfl, rfl, gt⟩ hq σ H hat
  have hu := hu_of hr
  have nd := sc__law_tops.nd
  have hm := gt.most
  have h0 : At K (TT K) [⟨[], H0, W, none⟩] [.d (eTasks ts), .un, .un, .un, .un, .un] σ H := hat
  refine ss_cons (s_dict h0 (fun σ H h1 => ?_) (i := 1) nd rfl (Or.inl rfl))
  refine ss_cons (s_for (as := List.range ts.length) (ed := eNat) (ps := fun a => [(2, eNat a)]) (fun i => [.d (eTasks ts), .own 1 (eTops (tUp ts i)), .un, .un, .un, .un]) rfl h1 (i_rng (n := ts.length) g.fr (E.eq (e_len g.fr (vr 0 rfl)) (by rw [List.length_map])) (by omega)) ⟨rfl, rfl, trivial⟩ (fun i a hia => gd_name 2 nd) (fun b0 i k σ H hia h2 => ?_) fun σ H h2 => ?_)
  · have hik : k = i ∧ i < ts.length := by
      have h1 := (List.getElem?_eq_some_iff.mp hia).1
      rw [List.length_range] at h1
      rw [List.getElem?_range h1] at hia
      exact ⟨(Option.some.inj hia).symm, h1⟩
    obtain ⟨rfl, hk⟩ := hik
    have ek := get_ix hk
    have hs : secs ts k = ts[k].2.2 := secs_get hk
    rw [tUp_succ]
    unfold tRow
    refine ss_cons (s_for (as := secs ts k) (ed := eSec) (ps := fun x => [(3, .int x.1), (4, .int x.2.1), (5, .int x.2.2)]) (fun j => [.d (eTasks ts), .own 2 (eTops (((secs ts k).take j).foldl (tStep k) (tUp ts k))), .d (eNat k), .un, .un, .un]) rfl h2 (by rw [hs]; exact i_tup (e_ix hu (e_ix hu (vr 0 rfl) (vr 2 rfl) (ix_tup ek)) e_int rfl)) ⟨rfl, rfl, rfl, trivial⟩ (fun i a hia => gd_three 3 4 5 rfl nd) (fun b1 j x σ H hja h3 => ?_) fun σ H h3 => ?_)
    · rw [foldl_snoc hja]
      have few := keys_few ts gt k j (by omega)
      have hj4 : j < 4 := by
        have h1 := (List.getElem?_eq_some_iff.mp hja).1
        have := (gt.all _ (List.getElem_mem hk)).few
        rw [hs] at h1
        omega
      generalize ((secs ts k).take j).foldl (tStep k) (tUp ts k) = st at h3 few
      refine ss_cons (s_put hu h3 (i := 1) rfl (d := .int (min (if x.2.2 ∈ st.1 then st.2 x.2.2 else k) k : Nat)) (ee_al (E.eq (e_min2 g.fr rfl (i := ((if x.2.2 ∈ st.1 then st.2 x.2.2 else k : Nat) : Int)) (j := (k : Nat)) (as_cons (E.eq (e_get2 (ks := st.1) hu (vr 1 rfl) (vr 5 rfl) (vr 2 rfl) ⟨rfl, rfl, rfl, rfl⟩) ?_) (as_cons (vr 2 rfl) as_nil))) (congrArg D.int (by omega)))) (ee_sh (vr 5 rfl)) (by omega) (fun σ H h4 => ss_nil ?_) rfl (Or.inl rfl))
      · by_cases c : x.2.2 ∈ st.1
        · rw [dAt_mk c, if_pos c]
          rfl
        · rw [dAt_no c, if_neg c]
          rfl
      · refine h4.wk ⟨rfl, ?_, rfl, trivial⟩
        show Sl.own 2 _ = Sl.own 2 _
        unfold eTops tStep
        simp only
        congr 1
        refine mkD_congr fun l hl => ?_
        unfold updF
        split <;> rfl
    · refine ss_nil (h3.wk ⟨rfl, ?_, trivial⟩)
      rw [List.take_length]
      rfl
  · have h3 := h2.frz (i := 1) rfl
    refine ss_cons (s_ret h3 (ee_sh (vr 1 rfl)) (fin0 hq ?_))
    rw [List.length_range]
    rfl
end
end Ev31
/-! ## DwE -/
set_option maxHeartbeats 4000000
/-! Values that are new: what reads owned slots may still be shared. -/
namespace Dv
open PySem PySem.Spec PyProof.Rows L2 Gx
def EF (X : Cx) (T : TbL) (Γ : List (Option D)) (e : Expr) (d : D) : Prop := ∀ W σ H, Pr X.K T [] H Γ σ → Al W H → ∀ Q : VK, (∀ v H2, Ex T H H2 → Rep X.K W H2 d v → Q v H2) → rE X e σ H Q
def EFs (X : Cx) (T : TbL) (Γ : List (Option D)) (es : List Expr) (l : List D) : Prop := ∀ W σ H, Pr X.K T [] H Γ σ → Al W H → ∀ Q : List V → Hp → Prop, (∀ vs H2, Ex T H H2 → Reps X.K W H2 l vs → Q vs H2) → rA X es σ H Q
def NF (X : Cx) (T : TbL) (Γ : List (Option D)) (e : Expr) (l : List D) : Prop := ∀ W σ H, Pr X.K T [] H Γ σ → Al W H → ∀ Q : VK, (∀ p xs H2, Nw H p → Ex T H H2 → H2 p = some (.lst xs) → Reps X.K (p :: W) H2 l xs → Q (.ref p) H2) → rE X e σ H Q
theorem Pr.less {K : PySem.W.Frag} {T : TbL} {W : List Addr} {H : Hp} {Γ : List (Option D)} {σ : L2.St} (P : Pr K T W H Γ σ) : Pr K T [] H Γ σ := ⟨fun x hx => by simp at hx, ⟨P.en.len, fun i d e => by
  obtain ⟨v, a, b⟩ := P.en.at_ i d e
  exact ⟨v, a, b.less fun x hx => by simp at hx⟩⟩, P.tb⟩
section
variable {X : Cx} {T : TbL} {Γ : List (Option D)} {e a : Expr} {es : List Expr} {d : D} {l m ds : List D} {p pos : Pos}
theorem ef_e (h : E X T Γ e d) (q : imm d = true) : EF X T Γ e d := fun W σ H P A Q k => h [] σ H P Q fun v H2 e2 r2 => k v H2 e2 (r2.imm q)
theorem ef_nil : EFs X T Γ [] [] := fun W σ H P A Q k => nil_eval (k [] H (Ex.refl H) .nil)
theorem ef_cons (h : EF X T Γ e d) (t : EFs X T Γ es l) (hs : starEach (e :: es) X.env = (false, eval e X.env) :: starEach es X.env := by rfl) : EFs X T Γ (e :: es) (d :: l) := fun W σ H P A Q k =>
  cons_eval hs (h W σ H P A _ fun v H1 e1 r1 => t W σ H1 (P.ex e1) (A.ex e1) _ fun vs H2 e2 r2 => k (v :: vs) H2 (e1.trans e2) (.cons (r1.ex e2) r2))
theorem ef_tup {x1} (h : EFs X T Γ es l) (hz : l.length ≤ 100000 := by exact Nat.le_of_ble_eq_true rfl) : EF X T Γ (.Tuple es x1 pos) (.tup l) := fun W σ H P A Q k =>
  of_pe (pe_tup pa_r) (h W σ H P A _ fun xs H1 e1 r1 => ⟨by rw [r1.length]; exact sz_ok hz, fun p hp => k _ _ (e1.trans (Ex.new hp)) ⟨p, xs, rfl, .inl (.inl upd_same), r1.ex (T := T) (Ex.new hp)⟩⟩)
theorem nf_e (h : NF X T Γ e l) : EF X T Γ e (.lst l) := fun W σ H P A Q k => h W σ H P A Q fun p xs H2 n e2 h2 r2 => k _ H2 e2 ⟨p, xs, rfl, .inl ⟨h2, A.nin n⟩, r2.less fun x z => List.mem_cons_of_mem _ z⟩
/-! promises -/
def spF (K : PySem.W.Frag) (T : TbL) (R : List D → D → Prop) : Sp := fun vs H Q _ => ∃ W ds d, R ds d ∧ Al W H ∧ LamX.Tabs T H ∧ Reps K [] H ds vs ∧ ∀ v H', Ex T H H' → Rep K W H' d v → Q v H'
def FnF (P : Program) (w : World) (K : PySem.W.Frag) (mg : Str → Option Value) (base : Heap) (T : TbL) (x : Str) (lv : Nat) (R : List D → D → Prop) : Prop :=
  ∃ f fd ps, mg x = some (.ref f) ∧ PySem.W.keepIn K (.ref f) = true ∧ Binds K fd ps [] ∧ FnOk P w K mg base CX0 lv f fd ps (spF K T R)
theorem ef_call {x : Str} {lv : Nat} {R : List D → D → Prop} (F : FnF X.prog X.w X.K X.mg X.base T x lv R) (hr : Room lv X.A) (ha : As X T Γ (e :: es) ds) (h : R ds d) (hg : Gl X x := by rfl) (hdb : (x == ("__debug__" : Str)) = false := by decide)
    (he : starEach (e :: es) X.env = (false, eval e X.env) :: starEach es X.env := by rfl) (hpl : (backTo pos (starEach es X.env)).any (·.1) = false := by rfl) : EF X T Γ (.Call (.Name x p) (e :: es) [] pos) d := fun W σ H P A Q k => by
  obtain ⟨f, fd, ps, hm, hk, hb, ok⟩ := F
  refine of_pe (pe_call ok hr hg hm hk hb .nil pass0 pa_r (E := E0) hdb he hpl) (ha [] σ H P _ fun vs H1 e1 r1 => ?_)
  exact ⟨W, ds, d, h, A.ex e1, e1.tb P.tb, by rw [List.append_nil]; exact r1, fun v H' e2 r2 => k v H' (e1.trans e2) r2⟩
end
section
variable {P : Program} {w : World} {K : PySem.W.Frag} {mg : Str → Option Value} {base : Heap} {T : TbL} {x qual : Str} {params : Arguments} {body : List Stmt} {scope : Scope} {f : Addr} {fd : FuncData} {N ps : List Str} {k : Nat} {R : List D → D → Prop}
abbrev BodyF (P : Program) (w : World) (K : PySem.W.Frag) (mg : Str → Option Value) (base : Heap) (T : TbL) (qual : Str) (body : List Stmt) (scope : Scope) (f : Addr) (fd : FuncData) (N : List Str) (k : Nat) (R : List D → D → Prop) : Prop :=
  ∀ (cdv : Value) (A : Around) (outer : List Env) (s : Shared) (H0 : Hp) (Q : VK) (Ex0 : XK) (ds : List D) (d : D) (W : List Addr), fd.code = cdv → Room k (A.deeper (envOfC qual scope s.heap.objs.size f cdv)) → R ds d → Al W H0 → (∀ v H', Ex T H0 H' → Rep K W H' d v → Q v H') →
    ∀ σ H, At K T [⟨[], H0, [], none⟩] (entry N ds) σ H → rSs (cxOf CX0 P w K mg base N qual scope f cdv A outer s H0 Ex0).nox body { nx := fun _ H' => Q .non H', rt := Q } σ H
theorem fnF_of {y : Str} (F : FunD K x qual params body scope [] [] f fd) (hm : mg y = some (.ref f)) (S : FnScope N ps scope) (len : ∀ ds d, R ds d → ds.length = ps.length)
    (hbind : ∀ (kV doc pm : Value) (an : Option Addr) (cdv ct : Value) (us : List Value), us.length = ps.length → bindArgs (PySem.W.fnOf x qual params body scope .none kV doc pm an cdv ct) ⟨us, []⟩ = pure (ps.zip us)) (hb : BodyF P w K mg base T qual body scope f fd N k R) :
    FnF P w K mg base T y (k + 1) R := by
  refine ⟨f, fd, ps, hm, F.kp, F.bindsN hbind, ?_⟩
  obtain ⟨oc, od, dV, kV, doc, pm, an, cdv, ct, osl, rfl, lk, hcd, _, _⟩ := F.ex
  refine fn_of lk hcd S (fun vs H Q E0 h => ?_) fun A outer s H vs Q E0 hr h => ?_
  · obtain ⟨W, ds, d, hR, al, tb, r, _⟩ := h
    rw [r.length, len ds d hR]
  · obtain ⟨W, ds, d, hR, al, tb, r, hq⟩ := h
    exact ⟨_, PSs.nox pss_r, hb cdv A outer s H Q E0 ds d W rfl hr hR al hq _ _ (at_entry (fun x hx => by simp at hx) tb r)⟩
end
section
variable {X : Cx} {T : TbL} {De : Ends} {bs : List Bas} {Γ : List Sl} {σ : L2.St} {H H0 : Hp} {e : Expr} {d x0 : D} {l : List D} {ks : List Int} {i : Nat} {x : Str} {pos p : Pos} {W : List Addr}
/-- return x, x a new list, a new dict of imm -/
def newImm : D → Bool
  | .lst l => imms l
  | .dct _ l => imms l
  | _ => false
theorem s_retO (h : At X.K T [⟨[], H0, [], none⟩] Γ σ H) (ho : Γ[i]? = some (.own 0 x0)) (hx0 : newImm x0 = true) (hA : Al W H0) (k : ∀ v H', Ex T H0 H' → Rep X.K W H' x0 v → De.rt v H') (hi : X.N[i]? = some x := by rfl) (hx : Vis X.env.scope x := by first | exact Or.inl rfl | exact Or.inr (Or.inl rfl) | exact Or.inr (Or.inr rfl)) (hd : (x == ("__debug__" : Str)) = false := by decide) (hcd : (x == ("__classdict__" : Str)) = false := by decide) :
    rS X (.Return (some (.Name x p)) pos) De σ H := by
  obtain ⟨W1, ft, a⟩ := h
  obtain ⟨q, hq, hW, _, hnw, own⟩ := a.ow i 0 _ ho
  have ok := a.ba _ List.mem_cons_self
  have hex : Ex T H0 H := ok.mx.ex
  have nin : ∀ r ∈ ft i, r ∉ W := fun r hr => hA.nin (hnw _ List.mem_cons_self r hr)
  refine of_ps (ps_ret (pe_var hi hx hd hcd)) ⟨.ref q, hq, k _ _ hex ?_⟩
  cases x0 with
  | lst l =>
    obtain ⟨e, xs, h1, h2⟩ := own
    exact ⟨q, xs, rfl, .inl ⟨h1, nin q (by rw [e]; exact List.mem_singleton.mpr rfl)⟩, h2.imm hx0⟩
  | dct ks l =>
    obtain ⟨e, kvs, h1, h2, h3⟩ := own
    exact ⟨q, kvs, rfl, nin q (by rw [e]; exact List.mem_singleton.mpr rfl), h1, h2, h3.imm hx0⟩
  | _ => cases hx0
/-- return a new list -/
theorem s_retN (h : At X.K T [⟨[], H0, [], none⟩] Γ σ H) (he : NF X T (al Γ) e l) (hA : Al W H0) (k : ∀ v H', Ex T H0 H' → Rep X.K W H' (.lst l) v → De.rt v H') : rS X (.Return (some e) pos) De σ H := by
  obtain ⟨W1, a⟩ := h
  have hex : Ex T H0 H := (a.ba _ List.mem_cons_self).mx.ex
  exact of_ps (ps_ret pe_r) (nf_e he W σ H a.prA (hA.ex hex) _ fun v H2 e2 r2 => k v H2 (hex.trans e2) r2)
theorem s_asgF (h : At X.K T bs Γ σ H) (he : EF X T (al Γ) e d) (k : ∀ σ' H', At X.K T bs (Γ.set i (.d d)) σ' H' → De.nx σ' H') (hN : X.N.Nodup) (hi : X.N[i]? = some x := by rfl) (hx : Loc X.env.scope x := by first | exact Or.inl rfl | exact Or.inr rfl) (hs : swapsWith e (some (.Name x p)) pos.line X.env = pure false := by rfl) (hf : X.fn x = true ∨ X.env.scope.names.lookup x = some .local := by first | exact .inl rfl | exact .inr rfl) :
    rS X (.Assign [.Name x p] e pos) De σ H := let ⟨W, a⟩ := h
  of_ps (ps_set hN hi hx pe_r hs hf) (he W σ H a.prA a.al _ fun v H2 e2 r2 => k _ _ ⟨W, (a.ex e2).put r2⟩)
theorem nf_lst {es : List Expr} (h : EFs X T (al Γ) es l) (hz : l.length ≤ 100000 := by exact Nat.le_of_ble_eq_true rfl) : NF X T (al Γ) (.List es pos) l := fun W σ H P A Q k =>
  of_pe (pe_lst pa_r) (h W σ H P A _ fun xs H1 e1 r1 => ⟨by rw [r1.length]; exact sz_ok hz, fun p hp => k p xs _ ((Nw.of hp).back e1) (e1.trans (Ex.new hp)) upd_same (new_go hp r1)⟩)
end
section
variable {X : Cx} {T : TbL} {Γ : List (Option D)} {α : Type} {as : List α} {ed : α → D} {ps : α → List (Nat × D)} {b : α → Bool} {f : α → D} {elt tg iter : Expr} {ifs : List Expr} {scope : Scope} {own : List (Str × Nat)} {pos : Pos}
theorem lcF_ok (hz : as.length ≤ 100000) (hi : I X T Γ tg iter (as.map ed)) (hg : ∀ a ∈ as, Ball X scope fun Z => Gd Z tg (ed a) (ps a)) (ht : ∀ a ∈ as, Ball X scope fun Z => Bs Z T (putO (wiped Γ (own.map (·.2))) (ps a)) ifs (b a)) (he : ∀ a ∈ as, b a = true → Ball X scope fun Z => EF Z T (putO (wiped Γ (own.map (·.2))) (ps a)) elt (f a)) (hp : ∀ a, (ps a).map (·.1) = own.map (·.2))
    {W : List Addr} {σ : L2.St} {H : Hp} {Q : VK} (P : Pr X.K T [] H Γ σ) (A : Al W H) (k : ∀ p xs H2, Nw H p → Ex T H H2 → H2 p = some (.lst xs) → Reps X.K (p :: W) H2 ((as.filter b).map f) xs → Q (.ref p) H2) :
    tLc (rI X tg iter) (gB X scope tg) (tB_ X scope ifs) (eB X scope elt) (own.map (·.2)) σ H Q := by
  refine hi [] σ H P _ fun J H1 e1 it Dl hD => ?_
  have P1 : Pr X.K T [] H1 Γ σ := P.ex e1
  have A1 : Al W H1 := A.ex e1
  have hWD : ∀ x ∈ [Dl], x ∈ ([] : List Addr) ∨ Nw H1 x := fun x hx => by
    rw [List.mem_singleton.mp hx]
    exact .inr (Nw.of hD)
  let Iv : Nat → Hp → Prop := fun i H2 => ∃ acc, H2 Dl = some (.lst acc) ∧ Reps X.K (Dl :: W) H2 (((as.take i).filter b).map f) acc ∧ Mx T [] H1 H2
  have hJ : (as.map ed).length = as.length := List.length_map ..
  have al1 : ∀ {H2 : Hp} {acc : List V}, H2 Dl = some (.lst acc) → Al [Dl] H2 := fun {H2 acc} h x hx => by
    rw [List.mem_singleton.mp hx]
    exact ⟨_, h, fun ps y => by cases y⟩
  have al2 : ∀ {H2 : Hp} {acc : List V}, Mx T [] H1 H2 → H2 Dl = some (.lst acc) → Al (Dl :: W) H2 := fun {H2 acc} m h x hx => by
    rcases List.mem_cons.mp hx with z | z
    · exact ⟨_, by rw [z]; exact h, fun ps y => by cases y⟩
    · exact (A1.ex m.ex) x z
  have acL : ∀ {H2 : Hp} {i : Nat} {acc : List V}, Reps X.K (Dl :: W) H2 (((as.take i).filter b).map f) acc → acc.length < sizeLine := fun {H2 i acc} r => by
    rw [r.length, List.length_map]
    have h1 := List.length_filter_le b (as.take i)
    have h2 : (as.take i).length ≤ as.length := by rw [List.length_take]; omega
    have h3 : (100000 : Nat) < sizeLine := by decide
    omega
  refine ⟨fun i m H2 => m = as.length - i ∧ i ≤ as.length ∧ Iv i H2, ⟨as.length, by simp, Nat.zero_le _, [], upd_same, by simpa using Reps.nil, Mx.of (Ex.new hD)⟩, ?_⟩
  rintro i m H2 ⟨rfl, hle, acc, hacc, racc, mx⟩
  by_cases hlt : i < as.length
  · refine .inr ⟨it.go i H2 mx (by rw [hJ]; exact hlt), Iv (i + 1), fun H' p => ⟨as.length - (i + 1), by omega, rfl, hlt, p⟩, fun v H3 hy => ?_⟩
    have ha : as[i]? = some as[i] := List.getElem?_eq_getElem hlt
    have hm : as[i] ∈ as := List.getElem_mem hlt
    obtain ⟨e3, r3⟩ := it.yld [Dl] i (ed as[i]) H2 v H3 hWD mx (by rw [List.getElem?_map, ha]; rfl) hy
    have keepD : ∀ {Ha Hb : Hp} {acc : List V}, Ex T Ha Hb → Ha Dl = some (.lst acc) → Hb Dl = some (.lst acc) := fun e h => e.ob _ _ h fun ps y => by cases y
    have mx3 : Mx T [] H1 H3 := mx.trans (Mx.of e3)
    have P3 : Pr X.K T [Dl] H3 (wiped Γ (own.map (·.2))) (L2.wipe σ (own.map (·.2))) := (P1.wipe _).late mx3 hWD (al1 (keepD e3 hacc))
    intro s0 H0 C cl fp
    refine gd_g (hg _ hm s0 H0 C cl fp) (hp _) [Dl] _ H3 v P3 r3 _ fun σ4 sm P4 => ⟨sm.wipe fun _ h => h, fun s1 H01 C1 cl1 fp1 => ?_⟩
    refine ht _ hm s1 H01 C1 cl1 fp1 [Dl] σ4 H3 P4 _ fun H5 e5 => ?_
    cases hb : b as[i] with
    | false =>
      show Iv (i + 1) H5
      refine ⟨acc, keepD e5 (keepD e3 hacc), ?_, mx3.trans (Mx.of e5)⟩
      rw [take_snoc ha, List.filter_append, List.filter_cons_of_neg (by rw [hb]; exact Bool.false_ne_true), List.filter_nil, List.append_nil]
      exact (racc.ex e3).ex e5
    | true =>
      show ∀ (s : Shared) (H0 : Hp) (C : Addr) (cl : List (Str × Addr)) (fp : List Addr), rE (X.blk s H0 scope (compEnvC scope cl C X.env) fp) elt σ4 H5 _
      intro s2 H02 C2 cl2 fp2
      have d5 := keepD e5 (keepD e3 hacc)
      refine he _ hm hb s2 H02 C2 cl2 fp2 (Dl :: W) σ4 H5 (P4.ex e5).less (al2 (mx3.trans (Mx.of e5)) d5) _ fun y H6 e6 r6 => ?_
      have h6 : H6 Dl = some (.lst acc) := keepD e6 d5
      have mm : Mx T [Dl] H6 (upd H6 Dl (.lst (acc ++ [y]))) := Mx.mut h6 trivial (by simp)
      have mm2 : Mx T (Dl :: W) H6 (upd H6 Dl (.lst (acc ++ [y]))) := mm.sub fun x hx => by rw [List.mem_singleton.mp hx]; exact List.mem_cons_self
      refine ⟨acc, h6, acL racc, acc ++ [y], upd_same, ?_, ((mx3.trans (Mx.of e5)).trans (Mx.of e6)).late mm fun x hx => .inr (by rw [List.mem_singleton.mp hx]; exact Nw.of hD)⟩
      rw [take_snoc ha, List.filter_append, List.filter_cons_of_pos hb, List.filter_nil, List.map_append]
      exact ((((racc.ex e3).ex e5).ex e6).append (.one r6)).mx mm2
  · have hi : i = as.length := by omega
    subst hi
    refine .inl ⟨by rw [← hJ]; exact it.stop H2 mx, ?_⟩
    rw [List.take_length] at racc
    exact k Dl acc H2 ((Nw.of hD).back e1) (e1.trans mx.ex) hacc racc
theorem nf_lc (own : List (Str × Nat)) (as : List α) (ed : α → D) (ps : α → List (Nat × D)) (b : α → Bool) (f : α → D) (hc : X.calm = true) (hN : X.N.Nodup) (ok : BlkOk X.N X.env.scope scope own) (hz : as.length ≤ 100000) (hi : I X T Γ tg iter (as.map ed)) (hg : ∀ a ∈ as, Ball X scope fun Z => Gd Z tg (ed a) (ps a))
    (ht : ∀ a ∈ as, Ball X scope fun Z => Bs Z T (putO (wiped Γ (own.map (·.2))) (ps a)) ifs (b a)) (he : ∀ a ∈ as, b a = true → Ball X scope fun Z => EF Z T (putO (wiped Γ (own.map (·.2))) (ps a)) elt (f a)) (hp : ∀ a, (ps a).map (·.1) = own.map (·.2) := by intro _; rfl)
    (hs : ∀ x, foldedSetIterable iter X.env x = pure x := by intro _; rfl) : NF X T Γ (.ListComp elt [⟨tg, iter, ifs, 0⟩] scope pos) ((as.filter b).map f) := fun W σ H P A Q k =>
  of_pe (pe_lc (wi := rI X tg iter) (g := gB X scope tg) (tt := tB_ X scope ifs) (te := eB X scope elt) hc hN pi_r ok (fun s H0 C cl fp => ⟨fun pins s1 σ1 H1 v u Q1 I1 r1 q1 => q1 s H0 C cl fp pins s1 u I1 r1⟩) (fun s H0 C cl fp => ⟨fun pins s1 σ1 H1 Q1 I1 q1 => q1 s H0 C cl fp pins s1 I1⟩)
    (fun s H0 C cl fp => ⟨fun pins s1 σ1 H1 Q1 I1 q1 => q1 s H0 C cl fp pins s1 I1⟩) hs) (lcF_ok hz hi hg ht he hp P A k)
end
section
variable {X : Cx} {T : TbL} {bs : List Bas} {Γ : List Sl} {σ : L2.St} {H : Hp} {De : Ends} {α : Type} {elt tg iter a : Expr} {ifs : List Expr} {scope : Scope} {pos py spos p : Pos} {i : Nat} {y : Str}
/-- name = [..] that reads owned slots -/
theorem s_lcF (own : List (Str × Nat)) (as : List α) (ed : α → D) (ps : α → List (Nat × D)) (b : α → Bool) (f : α → D) (h : At X.K T bs Γ σ H) (hc : X.calm = true) (hN : X.N.Nodup) (ok : BlkOk X.N X.env.scope scope own) (hz : as.length ≤ 100000) (hi : I X T (al Γ) tg iter (as.map ed)) (hg : ∀ a ∈ as, Ball X scope fun Z => Gd Z tg (ed a) (ps a))
    (ht : ∀ a ∈ as, Ball X scope fun Z => Bs Z T (putO (wiped (al Γ) (own.map (·.2))) (ps a)) ifs (b a)) (he : ∀ a ∈ as, b a = true → Ball X scope fun Z => EF Z T (putO (wiped (al Γ) (own.map (·.2))) (ps a)) elt (f a)) (k : ∀ σ' H', At X.K T bs (Γ.set i (.d (.lst ((as.filter b).map f)))) σ' H' → De.nx σ' H')
    (hsw : swapsWith (.ListComp elt [⟨tg, iter, ifs, 0⟩] scope pos) (some (.Name y py)) spos.line X.env = pure true) (hy : X.N[i]? = some y := by rfl) (hyl : X.env.scope.names.lookup y = some .local := by rfl) (hp : ∀ a, (ps a).map (·.1) = own.map (·.2) := by intro _; rfl)
    (hs : ∀ x, foldedSetIterable iter X.env x = pure x := by intro _; rfl) : rS X (.Assign [.Name y py] (.ListComp elt [⟨tg, iter, ifs, 0⟩] scope pos) spos) De σ H := let ⟨W, a⟩ := h
  of_ps (ps_lc hc hN hy hyl hsw ok hs) (lcF_ok (Q := fun v H1 => gName i v σ H1 De.nx) hz hi hg ht he hp a.prA a.al fun q xs H2 n e2 h2 r2 => k _ _ ⟨W, (a.ex e2).put ⟨q, xs, rfl, .inl ⟨h2, a.al.nin n⟩, r2.less fun x z => List.mem_cons_of_mem _ z⟩⟩)
end
section
variable {X : Cx} {T : TbL} {Γ : List (Option D)} {a : Expr} {pos p : Pos} {ks : List Int} {f : Int → D}
/-- dict([(k, v), ..]) -/
theorem ef_dict (fr : Fr X.mg) (hc : X.calm = true) (hn : ks.Nodup) (ha : EF X T Γ a (.lst (ks.map fun k => D.tup [.int k, f k]))) (hg : Gl X "dict" := by rfl) (h1 : starEach [a] X.env = (false, eval a X.env) :: starEach [] X.env := by rfl) (hpl : (backTo pos (starEach [] X.env)).any (·.1) = false := by rfl) (hv : bootBuiltins "dict" = some (.type "dict") := by decide +kernel) :
    EF X T Γ (.Call (.Name "dict" p) [a] [] pos) (mkD ks f) := fun W σ H P A Q q =>
  of_pe (pe_callTy (call_dictP hc) hg fr.dict hv (pa_cons pe_r pa_nil h1) (by decide) (by decide) h1 hpl) (ha W σ H P A _ fun v H1 e1 r1 => by
    rw [Rep] at r1
    obtain ⟨t, xs, rfl, hq, hr⟩ := r1
    obtain ⟨ps, kvs, e2, e3, e4, e5⟩ := pairs_of hr
    subst e2
    refine ⟨t, ps, kvs, rfl, hq.sq, e3, fun r hr => ?_⟩
    have hm : mergeK [] kvs = kvs := by
      rw [merge_nodup kvs [] (by
        rw [List.nil_append, e4]
        exact List.Pairwise.map _ (fun _ _ q z => q (Sum.inl.inj z)) hn)]
      rfl
    exact q _ _ (e1.trans (Ex.new hr)) ⟨r, kvs, rfl, A.nin ((Nw.of hr).back e1), by rw [hm]; exact upd_same, e4, e5.ex (T := T) (Ex.new hr)⟩)
end
end Dv
/-! ## LE -/
set_option maxHeartbeats 4000000
/-! The law's own: who waits, current priorities. -/
namespace Ev31
open PySem PySem.Spec PyProof.Rows L2 Gx Dv
section
variable {P : Program} {w : World} {K : PySem.W.Frag} {mg : Str → Option Value} {base h : Heap}
/-- the law's way to the same waits -/
def lhit (pr : Str) (ts : List Task) (us : List Nat) (k j : Nat) : Bool := if pr = "plain" ∨ pr = "inherit" then wantHit ts us k j else topHit ts us k j
def lstop (pr : Str) (ts : List Task) (us : List Nat) (k : Nat) : Bool := (decide (pr = "stack") && decide (0 < uAt us k)) || (!decide (pr = "stack") && (wanted ts us k).isEmpty)
theorem waits_law {pr : Str} {ts : List Task} {us some : List Nat} {k : Nat} (hp : pr ∈ prots) : waits pr ts us some k = if lstop pr ts us k then [] else (some.filter fun j => decide (j ≠ k)).filter (lhit pr ts us k) := by
  have two : ∀ f : Nat → Bool, (some.filter fun j => decide (j ≠ k)).filter f = some.filter fun j => decide (j ≠ k) && f j := fun f => by
    rw [List.filter_filter]
    congr 1
    funext j
    exact Bool.and_comm _ _
  rw [two]
  unfold waits lstop lhit
  have : pr = "plain" ∨ pr = "inherit" ∨ pr = "ceiling" ∨ pr = "stack" := by simpa [prots] using hp
  rcases this with rfl | rfl | rfl | rfl
  · rw [if_neg (by decide)]
    simp only [show decide (("plain" : Str) = "stack") = false by decide, Bool.false_and, Bool.false_or, Bool.not_false, Bool.true_and]
    rw [if_neg (show ¬ ("plain" : Str) = "ceiling" by decide)]
    simp
  · rw [if_neg (by decide)]
    simp only [show decide (("inherit" : Str) = "stack") = false by decide, Bool.false_and, Bool.false_or, Bool.not_false, Bool.true_and]
    rw [if_neg (show ¬ ("inherit" : Str) = "ceiling" by decide)]
    simp
  · rw [if_neg (by decide)]
    simp only [show decide (("ceiling" : Str) = "stack") = false by decide, Bool.false_and, Bool.false_or, Bool.not_false, Bool.true_and, if_true]
    simp only [if_neg (show ¬ (("ceiling" : Str) = "plain" ∨ ("ceiling" : Str) = "inherit") by decide)]
  · rw [if_pos rfl]
    simp only [decide_true, Bool.true_and, Bool.not_true, Bool.false_and, Bool.or_false]
    simp only [if_neg (show ¬ (("stack" : Str) = "plain" ∨ ("stack" : Str) = "inherit") by decide)]
    simp
theorem held_secs {ts : List Task} {us : List Nat} {k : Nat} {l : Int} (h : l ∈ held ts us k) : ∃ x ∈ secs ts k, x.2.2 = l := by
  unfold held heldOf at h
  obtain ⟨x, hx, e⟩ := List.mem_map.mp h
  exact ⟨x, (List.mem_filter.mp hx).1, e⟩
theorem tops_held {ts : List Task} {us : List Nat} {k : Nat} {l : Int} (hk : k < ts.length) (h : l ∈ held ts us k) : l ∈ (tOf ts).1 ∧ top_ ts l = some ((tOf ts).2 l) := by
  obtain ⟨x, hx, rfl⟩ := held_secs h
  exact tOf_all ts k x hk hx
theorem len_held {ts : List Task} (g : GoodTs ts) {us : List Nat} {k : Nat} (hk : k < ts.length) : (held ts us k).length ≤ 4 := by
  unfold held heldOf
  rw [List.length_map, secs_get hk]
  exact Nat.le_trans (List.length_filter_le _ _) (g.all _ (List.getElem_mem hk)).few
def R_lwaits (ds : List D) (d : D) : Prop := ∃ (ts : List Task) (us : List Nat) (pr : Str) (k : Nat) (some : List Nat), ds = [eTasks ts, .lst (us.map eNat), .str pr, .int k, .lst (some.map eNat)] ∧ d = .lst ((waits pr ts us some k).map eNat) ∧
  GoodTs ts ∧ us.length = ts.length ∧ pr ∈ prots ∧ k < ts.length ∧ (∀ j ∈ some, j < ts.length) ∧ some.length ≤ 1000
abbrev n__law_waits : List Str := ["_law_tasks", "_law_units", "_law_protocol", "_law_k", "_law_some", "_law_tops_here", "_law_want", "_law_one", "_law_found", "_law_other", "_law_held", "_law_bad", "_law_lock"]
theorem sc__law_waits : FnScope n__law_waits ["_law_tasks", "_law_units", "_law_protocol", "_law_k", "_law_some"] (defScope s_law_waits) := ⟨rfl, rfl, rfl, by decide +kernel, rfl, by decide +kernel, by decide +kernel⟩
theorem ok__law_waits (g : Pg w K mg base h) : FnF P w K mg base (TT K) "_law_waits" 2 R_lwaits := by
  have c_tops := ok__law_tops (P := P) g
  have c_holds := ok__law_holds (P := P) g
  obtain ⟨fd, F⟩ := g.d__law_waits
  refine fnF_of F g.a__law_waits sc__law_waits (fun ds d ⟨_, _, _, _, _, e, _⟩ => by rw [e]; rfl) (fun _ _ _ _ _ _ us hl => match us, hl with | [_, _, _, _, _], _ => rfl) ?_
  rintro cdv A outer s H0 Q Ex0 ds d W hcd hr ⟨ts, us, pr, k, some, rfl, rfl, gt, hul, hpr, hk, hsome, hz⟩ hA hq σ H hat
  have hu := hu_of hr
  have hu64 := hu64_of hr
  have nd := sc__law_waits.nd
  have h0 : At K (TT K) [⟨[], H0, [], none⟩] [.d (eTasks ts), .d (.lst (us.map eNat)), .d (.str pr), .d (.int k), .d (.lst (some.map eNat)), .un, .un, .un, .un, .un, .un, .un, .un] σ H := hat
  have ek := get_ix hk
  have eu := uAt_get (us := us) (k := k) (by omega)
  have hf := (gt.all _ (List.getElem_mem hk)).few
  refine ss_cons (s_asgT (d := .tup [eTops (tOf ts), .lst ((wanted ts us k).map .int)]) h0 (ee_sh (e_tup (as_cons (e_call c_tops (hr.mono (by decide)) (as_cons (vr 0 rfl) as_nil) ⟨ts, rfl, rfl, gt⟩) (as_cons (E.eq (n_e (n_lc' [("_law_one", 7)] ts[k].2.2 eSec (fun a => [(7, eSec a)]) (fun s => decide (V.int s.1 = V.int (uAt us k : Nat))) (fun s => .int s.2.2) rfl nd (blk_of (by kernel_rfl)) (by omega) (i_tup (e_ix hu (e_ix hu (vr 0 rfl) (vr 3 rfl) (ix_tup ek)) e_int rfl)) (fun a ha s H C cl fp => gd_name 7 nd) (fun a ha s H C cl fp => bs_one (b_eq (e_ix hu (vr 7 rfl) e_int rfl) (e_ix hu (vr 1 rfl) (vr 3 rfl) (ix_lst eu)))) (fun a ha hb s H C cl fp => (e_ix hu (vr 7 rfl) e_int rfl)))) (by
      unfold wanted wantOf
      rw [secs_get hk, List.map_map]
      rfl)) as_nil)))) (gd_two 5 6 rfl nd) (fun σ H h1 => ?_))
  have h1 : At K (TT K) [⟨[], H0, [], none⟩] [.d (eTasks ts), .d (.lst (us.map eNat)), .d (.str pr), .d (.int k), .d (.lst (some.map eNat)), .d (eTops (tOf ts)), .d (.lst ((wanted ts us k).map .int)), .un, .un, .un, .un, .un, .un] σ H := h1
  rw [waits_law hpr] at hq
  refine ss_cons (s_if h1 (b := lstop pr ts us k) (B.eq (b_bw (bw_or (b_bw (bw_and (b_eq (vr 2 rfl) e_str) fun _ => (bw_and1 (b_gt (e_ix hu (vr 1 rfl) (vr 3 rfl) (ix_lst eu)) e_int)))) fun _ => (bw_or1 (b_bw (bw_and (b_ne (vr 2 rfl) e_str) fun _ => (bw_and1 (b_eqNil hu64 (vr 6 rfl) cmp_ints))))))) (by unfold lstop; simp)) (fun hb σ H h2 => ?_) fun hb σ H h2 => ss_nil ?_)
  · rw [if_pos hb] at hq
    exact ss_cons (s_retN h2 (nf_lst ef_nil) hA hq)
  rw [if_neg (by rw [hb]; exact Bool.false_ne_true)] at hq
  refine ss_cons (s_new h2 (nn_sh (n_lst as_nil)) (fun σ H h3 => ?_) (i := 8) nd rfl (Or.inl rfl))
  obtain ⟨oth, hoth⟩ : ∃ oth, oth = some.filter fun j => decide (j ≠ k) := ⟨_, rfl⟩
  rw [← hoth] at hq
  have holen : oth.length ≤ 1000 := by rw [hoth]; exact Nat.le_trans (List.length_filter_le _ _) hz
  refine ss_cons (s_for (as := oth) (ed := eNat) (ps := fun a => [(9, eNat a)]) (fun i => [.d (eTasks ts), .d (.lst (us.map eNat)), .d (.str pr), .d (.int k), .d (.lst (some.map eNat)), .d (eTops (tOf ts)), .d (.lst ((wanted ts us k).map .int)), .un, .own 1 (.lst (((oth.take i).filter (lhit pr ts us k)).map eNat)), .un, .un, .un, .un]) rfl h3
    (i_lst (E.eq (n_e (n_lc' [("_law_one", 7)] some eNat (fun a => [(7, eNat a)]) (fun j => decide (j ≠ k)) eNat rfl nd (blk_of (by kernel_rfl)) (by omega) (i_lst (vr 4 rfl)) (fun a ha s H C cl fp => gd_name 7 nd) (fun a ha s H C cl fp => bs_one (B.eq (b_ne (vr 7 rfl) (vr 3 rfl)) (ne_nat _ _))) (fun a ha hb s H C cl fp => (vr 7 rfl)))) (by rw [hoth]))) ⟨rfl, rfl, rfl, rfl, rfl, rfl, rfl, rfl, trivial⟩ (fun i a hia => gd_name 9 nd) (fun b0 i j σ H hia h4 => ?_) fun σ H h4 => ?_)
  · have hjm : j ∈ oth := List.mem_of_getElem? hia
    have hj : j < ts.length := by
      rw [hoth] at hjm
      exact hsome j (List.mem_filter.mp hjm).1
    have hlen4 := len_held gt (us := us) hj
    refine ss_cons (s_asg h4 (ee_sh (e_call c_holds (hr.mono (by decide)) (as_cons (vr 0 rfl) (as_cons (vr 1 rfl) (as_cons (vr 9 rfl) as_nil))) ⟨ts, us, j, rfl, rfl, gt, hul, hj⟩)) (fun σ H h5 => ?_) (i := 10) nd rfl (Or.inl rfl))
    have h5 : At K (TT K) [b0, ⟨[], H0, [], none⟩] [.d (eTasks ts), .d (.lst (us.map eNat)), .d (.str pr), .d (.int k), .d (.lst (some.map eNat)), .d (eTops (tOf ts)), .d (.lst ((wanted ts us k).map .int)), .un, .own 1 (.lst (((oth.take i).filter (lhit pr ts us k)).map eNat)), .d (eNat j), .d (.lst ((held ts us j).map .int)), .un, .un] σ H := h5
    refine ss_mid (M := fun σ H => ∃ bad : List Int, (!bad.isEmpty) = lhit pr ts us k j ∧ At K (TT K) [b0, ⟨[], H0, [], none⟩] [.d (eTasks ts), .d (.lst (us.map eNat)), .d (.str pr), .d (.int k), .d (.lst (some.map eNat)), .d (eTops (tOf ts)), .d (.lst ((wanted ts us k).map .int)), .un, .own 1 (.lst (((oth.take i).filter (lhit pr ts us k)).map eNat)), .d (eNat j), .d (.lst ((held ts us j).map .int)), .d (.lst (bad.map .int)), .un] σ H)
      (s_if h5 (b := decide (pr = "plain" ∨ pr = "inherit")) (B.eq (b_in (xs := [.str "plain", .str "inherit"]) (vr 2 rfl) (n_e (n_lst (as_cons e_str (as_cons e_str as_nil)))) rfl rfl rfl rfl rfl) ?_) (fun hb2 σ H h6 => ?_) fun hb2 σ H h6 => ?_) fun σ H ⟨bad, hbad, h6⟩ => ?_
    · have : pr = "plain" ∨ pr = "inherit" ∨ pr = "ceiling" ∨ pr = "stack" := by simpa [prots] using hpr
      rcases this with e | e | e | e <;> rw [e] <;> rfl
    · have hb2 := of_decide_eq_true hb2
      refine ss_cons (s_lc (i := 11) [("_law_lock", 12)] (held ts us j) D.int (fun a => [(12, .int a)]) (fun l => (wanted ts us k).contains l) D.int h6 rfl nd (blk_of (by kernel_rfl)) (by omega) (i_lst (vr 10 rfl)) (fun a ha s H C cl fp => gd_name 12 nd) (fun l hl s H C cl fp => bs_one (B.eq (b_in (vr 12 rfl) (vr 6 rfl) rfl rfl (atom_ints _) rfl (flat_ints _)) (inV_ints _ _))) (fun a ha hb s H C cl fp => (vr 12 rfl)) (fun σ H h7 => ss_nil ⟨_, ?_, h7⟩) rfl)
      unfold lhit
      rw [if_pos hb2]
      unfold wantHit
      rw [Bool.eq_iff_iff]
      simp [List.isEmpty_iff, List.filter_eq_nil_iff, List.any_eq_true]
    · have hb2 := of_decide_eq_false hb2
      refine ss_cons (s_lc (i := 11) [("_law_lock", 12)] (held ts us j) D.int (fun a => [(12, .int a)]) (fun l => topLe ts l k) D.int h6 rfl nd (blk_of (by kernel_rfl)) (by omega) (i_lst (vr 10 rfl)) (fun a ha s H C cl fp => gd_name 12 nd) (fun l hl s H C cl fp => bs_one (B.eq (b_le (e_ix hu (vr 5 rfl) (vr 12 rfl) (ix_dct (tops_held hj hl).1)) (vr 3 rfl)) ?_)) (fun a ha hb s H C cl fp => (vr 12 rfl)) (fun σ H h7 => ss_nil ⟨_, ?_, h7⟩) rfl)
      · unfold topLe
        rw [(tops_held hj hl).2]
        simp
      · unfold lhit
        rw [if_neg hb2]
        unfold topHit
        rw [Bool.eq_iff_iff]
        simp [List.isEmpty_iff, List.filter_eq_nil_iff, List.any_eq_true]
    · refine ss_cons (s_if h6 (b := lhit pr ts us k j) (B.eq (b_neNil hu64 (vr 11 rfl) cmp_ints) (by rw [← hbad]; simp)) (fun hb3 σ H h7 => ?_) fun hb3 σ H h7 => ?_)
      · refine ss_cons (s_app h7 (i := 8) rfl (ee_sh (vr 9 rfl)) (by
          have := List.length_filter_le (lhit pr ts us k) (oth.take i)
          have := List.length_take_le i oth
          simp at *
          omega) (fun σ H h8 => ?_) rfl (Or.inl rfl))
        refine ss_nil (ss_nil (h8.wk ⟨rfl, rfl, rfl, rfl, rfl, rfl, rfl, ?_, trivial⟩))
        show Sl.own 1 _ = Sl.own 1 _
        rw [take_snoc hia, List.filter_append, List.filter_cons_of_pos hb3, List.map_append]
        rfl
      · refine ss_nil (ss_nil (h7.wk ⟨rfl, rfl, rfl, rfl, rfl, rfl, rfl, ?_, trivial⟩))
        show Sl.own 1 _ = Sl.own 1 _
        rw [take_snoc hia, List.filter_append, List.filter_cons_of_neg (by rw [hb3]; exact Bool.false_ne_true), List.filter_nil, List.append_nil]
  · have h5 : At K (TT K) [⟨[], H0, [], none⟩] [.d (eTasks ts), .d (.lst (us.map eNat)), .d (.str pr), .d (.int k), .d (.lst (some.map eNat)), .d (eTops (tOf ts)), .d (.lst ((wanted ts us k).map .int)), .un, .own 0 (.lst (((oth.take oth.length).filter (lhit pr ts us k)).map eNat)), .un, .un, .un, .un] σ H := h4
    rw [List.take_length] at h5
    exact ss_cons (s_retO h5 (i := 8) rfl (imms_map fun _ _ => rfl) hA hq)
end
end Ev31
/-! ## LF -/
set_option maxHeartbeats 4000000
/-! The law's own: current priorities. -/
namespace Ev31
open PySem PySem.Spec PyProof.Rows L2 Gx Dv
section
variable {P : Program} {w : World} {K : PySem.W.Frag} {mg : Str → Option Value} {base h : Heap}
/-- the law's first priorities -/
def lcur (pr : Str) (ts : List Task) (us : List Nat) (k : Nat) : Nat := if pr = "stack" then minTop ts us k else k
theorem low_other' {ts : List Task} {us : List Nat} : ∀ (l : List Nat) (c : Nat → Nat) (k : Nat), k ∉ l → l.foldl (lowStep ts us) c k = c k
  | [], _, _, _ => rfl
  | a :: l, c, k, h => by
    rw [List.foldl_cons, low_other' l _ k fun z => h (List.mem_cons_of_mem _ z)]
    unfold lowStep updN
    rw [if_neg fun z => h (by rw [z]; exact List.mem_cons_self)]
theorem low_mem' {ts : List Task} {us : List Nat} : ∀ (l : List Nat) (c : Nat → Nat) (k : Nat), k ∈ l → l.foldl (lowStep ts us) c k = minTop ts us k
  | a :: l, c, k, h => by
    rw [List.foldl_cons]
    by_cases q : k ∈ l
    · exact low_mem' l _ k q
    · rw [low_other' l _ k q]
      rcases List.mem_cons.mp h with e | e
      · subst e
        unfold lowStep updN
        rw [if_pos rfl]
      · exact absurd e q
theorem lcur_cur1 {pr : Str} {ts : List Task} {us some : List Nat} : mkD (ki some) (fD (lcur pr ts us)) = mkD (ki some) (fD (cur1 pr ts us some)) := by
  refine mkD_congr fun k hk => ?_
  obtain ⟨i, hi, rfl⟩ := List.mem_map.mp hk
  unfold fD lcur cur1
  split
  · show D.int _ = D.int _
    rw [low_mem' some _ _ (by simpa using hi)]
  · rfl
theorem fold_const {α β γ : Type} {f : γ → γ} : ∀ (l : List α) (m : List β) (c : γ), l.length = m.length → l.foldl (fun c _ => f c) c = m.foldl (fun c _ => f c) c
  | [], [], _, _ => rfl
  | [], _ :: _, _, h => by simp at h
  | _ :: _, [], _, h => by simp at h
  | _ :: l, _ :: m, c, h => by
    simp only [List.foldl_cons]
    exact fold_const l m _ (by simpa using h)
theorem put_new {sm : List Nat} {c : Nat → Nat} {i k v : Nat} (hn : sm.Nodup) (hi : sm[i]? = some k) : mkD (insK (ki (sm.take i)) (k : Int)) (updF (fD c) (k : Int) (.int (v : Nat))) = mkD (ki (sm.take (i + 1))) (fD (updN c k v)) := by
  have hnm : (k : Int) ∉ ki (sm.take i) := by
    rw [mem_ki]
    intro hm
    obtain ⟨j, hj, e⟩ := List.getElem_of_mem hm
    have hj1 : j < i := by
      rw [List.length_take] at hj
      omega
    obtain ⟨hlt, e2⟩ := List.getElem?_eq_some_iff.mp hi
    rw [List.getElem_take] at e
    have := List.pairwise_iff_getElem.mp hn j i (by omega) hlt hj1
    exact this (e.trans e2.symm)
  have e1 : insK (ki (sm.take i)) (k : Int) = ki (sm.take (i + 1)) := by
    unfold insK
    rw [if_neg hnm, take_snoc hi]
    unfold ki
    rw [List.map_append]
    rfl
  rw [e1]
  refine mkD_congr fun l hl => ?_
  obtain ⟨t, _, rfl⟩ := List.mem_map.mp hl
  unfold updF fD updN
  by_cases e : t = k
  · subst e
    simp
  · have : ¬ (t : Int) = k := fun z => e (Int.ofNat.inj z)
    simp [this, e]
theorem updN_self {c : Nat → Nat} {k v : Nat} (h : v = c k) : updN c k v = c := by
  funext i
  unfold updN
  split
  · rename_i e
    rw [e, h]
  · rfl
theorem updN_two {c : Nat → Nat} {k a b : Nat} : updN (updN c k a) k b = updN c k b := by
  funext i
  unfold updN
  split <;> rfl
theorem minTop_is' {ts : List Task} (us : List Nat) (k : Nat) : IsMin ((k : Int) :: (held ts us k).map fun l => (((top_ ts l).getD k : Nat) : Int)) (minTop ts us k : Nat) := by
  obtain ⟨h1, h2, h3⟩ := foldl_min_le (f := fun l => (top_ ts l).getD k) (held ts us k) k
  refine ⟨?_, fun y hy => ?_⟩
  · rcases h3 with h3 | ⟨l, hl, h3⟩
    · unfold minTop
      rw [h3]
      exact List.mem_cons_self
    · unfold minTop
      rw [h3]
      exact List.mem_cons_of_mem _ (List.mem_map.mpr ⟨l, hl, rfl⟩)
  · rcases List.mem_cons.mp hy with rfl | hy
    · unfold minTop
      exact Int.ofNat_le.mpr h1
    · obtain ⟨l, hl, rfl⟩ := List.mem_map.mp hy
      exact Int.ofNat_le.mpr (h2 l hl)
def R_lcurrents (ds : List D) (d : D) : Prop := ∃ (ts : List Task) (us : List Nat) (pr : Str) (some : List Nat) (ws : Nat → List Nat), ds = [eTasks ts, .lst (us.map eNat), .str pr, .lst (some.map eNat), mkD (ki some) (wD ws)] ∧ d = mkD (ki some) (fD (currents pr ts us some ws)) ∧
  GoodTs ts ∧ us.length = ts.length ∧ (∀ j ∈ some, j < ts.length) ∧ some.length ≤ 1000 ∧ some.Nodup ∧ (∀ k ∈ some, ∀ j ∈ ws k, j ∈ some)
abbrev n__law_currents : List Str := ["_law_tasks", "_law_units", "_law_protocol", "_law_some", "_law_waits_here", "_law_found", "_law_tops_here", "_law_k", "_law_lock", "_law_turn", "_law_other"]
theorem sc__law_currents : FnScope n__law_currents ["_law_tasks", "_law_units", "_law_protocol", "_law_some", "_law_waits_here"] (defScope s_law_currents) := ⟨rfl, rfl, rfl, by decide +kernel, rfl, by decide +kernel, by decide +kernel⟩
theorem ok__law_currents (g : Pg w K mg base h) : FnF P w K mg base (TT K) "_law_currents" 2 R_lcurrents := by
  have c_tops := ok__law_tops (P := P) g
  have c_holds := ok__law_holds (P := P) g
  obtain ⟨fd, F⟩ := g.d__law_currents
  refine fnF_of F g.a__law_currents sc__law_currents (fun ds d ⟨_, _, _, _, _, e, _⟩ => by rw [e]; rfl) (fun _ _ _ _ _ _ us hl => match us, hl with | [_, _, _, _, _], _ => rfl) ?_
  rintro cdv A outer s H0 Q Ex0 ds d W hcd hr ⟨ts, us, pr, some, ws, rfl, rfl, gt, hul, hsome, hz, hnd, hws⟩ hA hq σ H hat
  have hu := hu_of hr
  have nd := sc__law_currents.nd
  have h0 : At K (TT K) [⟨[], H0, [], none⟩] [.d (eTasks ts), .d (.lst (us.map eNat)), .d (.str pr), .d (.lst (some.map eNat)), .d (mkD (ki some) (wD ws)), .un, .un, .un, .un, .un, .un] σ H := hat
  refine ss_cons (s_par2D (i := 5) (j := 6) h0 rfl nd (e_call c_tops (hr.mono (by decide)) (as_cons (vr 0 rfl) as_nil) ⟨ts, rfl, rfl, gt⟩) (fun σ H h1 => ?_))
  refine ss_cons (s_for (as := some) (ed := eNat) (ps := fun a => [(7, eNat a)]) (fun i => [.d (eTasks ts), .d (.lst (us.map eNat)), .d (.str pr), .d (.lst (some.map eNat)), .d (mkD (ki some) (wD ws)), .own 1 (mkD (ki (some.take i)) (fD (lcur pr ts us))), .d (eTops (tOf ts)), .un, .un, .un, .un]) rfl h1 (i_lst (vr 3 rfl)) ⟨rfl, rfl, rfl, rfl, rfl, rfl, rfl, trivial⟩ (fun i a hia => gd_name 7 nd) (fun b0 i k σ H hia h2 => ?_) fun σ H h2 => ?_)
  · have hkm := List.mem_of_getElem? hia
    have hk := hsome k hkm
    have hlen := len_held gt (us := us) hk
    have hkl : (ki (some.take i)).length < 100000 := by
      unfold ki
      rw [List.length_map, List.length_take]
      omega
    have hkl2 : (ki (some.take (i + 1))).length < 100000 := by
      unfold ki
      rw [List.length_map, List.length_take]
      omega
    have hkt : k ∈ some.take (i + 1) := by rw [take_snoc hia]; exact List.mem_append_right _ (List.mem_singleton.mpr rfl)
    refine ss_cons (s_put hu h2 (i := 5) rfl (ee_sh (vr 7 rfl)) (ee_sh (vr 7 rfl)) hkl (fun σ H h3 => ?_) rfl (Or.inl rfl))
    have h3 : At K (TT K) [b0, ⟨[], H0, [], none⟩] [.d (eTasks ts), .d (.lst (us.map eNat)), .d (.str pr), .d (.lst (some.map eNat)), .d (mkD (ki some) (wD ws)), .own 1 (mkD (insK (ki (some.take i)) (k : Int)) (updF (fD (lcur pr ts us)) (k : Int) (.int (k : Nat)))), .d (eTops (tOf ts)), .d (eNat k), .un, .un, .un] σ H := h3
    rw [put_new hnd hia] at h3
    refine ss_cons (s_if h3 (b := decide (pr = "stack")) (B.eq (b_eq (vr 2 rfl) e_str) (by simp)) (fun hb σ H h4 => ?_) fun hb σ H h4 => ss_nil (ss_nil (h4.wk ⟨rfl, rfl, rfl, rfl, rfl, ?_, rfl, trivial⟩)))
    · have hb := of_decide_eq_true hb
      refine ss_cons (s_put hu h4 (i := 5) rfl (ee_sh (e_minL (ns := (k : Int) :: (held ts us k).map fun l => (((top_ ts l).getD k : Nat) : Int)) g.fr rfl (E.eq (n_e (n_cat (n_lst (as_cons (vr 7 rfl) as_nil)) (n_lc' [("_law_lock", 8)] (held ts us k) D.int (fun l => [(8, .int l)]) (fun _ => true) (fun l => .int (((top_ ts l).getD k : Nat) : Int)) rfl nd (blk_of (by kernel_rfl)) (by omega)
        (i_lst (e_call c_holds (hr.mono (by decide)) (as_cons (vr 0 rfl) (as_cons (vr 1 rfl) (as_cons (vr 7 rfl) as_nil))) ⟨ts, us, k, rfl, rfl, gt, hul, hk⟩)) (fun a ha s H C cl fp => gd_name 8 nd) (fun a ha s H C cl fp => bs_nil) (fun l hl hb s H C cl fp => E.eq (e_ix hu (vr 6 rfl) (vr 8 rfl) (ix_dct (tops_held hk hl).1)) (by rw [(tops_held hk hl).2]; rfl))) ?_)) ?_) (minTop_is' us k))) (ee_sh (vr 7 rfl)) hkl2 (fun σ H h5 => ss_nil (ss_nil (h5.wk ⟨rfl, rfl, rfl, rfl, rfl, ?_, rfl, trivial⟩))) rfl (Or.inl rfl))
      · rw [Dv.filter_all, List.length_map]
        simp
        omega
      · rw [Dv.filter_all]
        simp [eNat]
      · refine congrArg (Sl.own 1) (Eq.trans ?_ (put_fD hkt).symm)
        rw [updN_two, updN_self]
        unfold lcur
        rw [if_pos hb]
    · show Sl.own 1 _ = Sl.own 1 _
      rw [updN_self]
      unfold lcur
      rw [if_neg (of_decide_eq_false hb)]
  have h2 : At K (TT K) [⟨[], H0, [], none⟩] [.d (eTasks ts), .d (.lst (us.map eNat)), .d (.str pr), .d (.lst (some.map eNat)), .d (mkD (ki some) (wD ws)), .own 0 (mkD (ki (some.take some.length)) (fD (lcur pr ts us))), .d (eTops (tOf ts)), .un, .un, .un, .un] σ H := h2
  rw [List.take_length, lcur_cur1] at h2
  refine ss_mid (fun σ H => At K (TT K) [⟨[], H0, [], none⟩] [.d (eTasks ts), .d (.lst (us.map eNat)), .d (.str pr), .d (.lst (some.map eNat)), .d (mkD (ki some) (wD ws)), .own 0 (mkD (ki some) (fD (currents pr ts us some ws))), .un, .un, .un, .un, .un] σ H) (s_if h2 (b := inhP pr) (b_in (vr 2 rfl) (n_e (n_lst (as_cons e_str (as_cons e_str as_nil)))) rfl rfl rfl rfl rfl) (fun hb σ H h3 => ?_) fun hb σ H h3 => ?_) fun σ H h3 => ?_
  · refine ss_cons (s_for (as := List.range some.length) (ed := eNat) (ps := fun a => [(9, eNat a)]) (fun i => [.d (eTasks ts), .d (.lst (us.map eNat)), .d (.str pr), .d (.lst (some.map eNat)), .d (mkD (ki some) (wD ws)), .own 1 (mkD (ki some) (fD ((some.take i).foldl (inhT some ws) (cur1 pr ts us some)))), .un, .un, .un, .un, .un]) rfl h3 (i_rng (n := some.length) g.fr (E.eq (e_len g.fr (vr 3 rfl)) (by rw [List.length_map])) (by omega)) ⟨rfl, rfl, rfl, rfl, rfl, rfl, trivial⟩ (fun i a hia => gd_name 9 nd) (fun b0 i k0 σ H hia h4 => ?_) fun σ H h4 => ?_)
    · have hilt : i < some.length := by
        have h1 := (List.getElem?_eq_some_iff.mp hia).1
        rwa [List.length_range] at h1
      generalize hc : (some.take i).foldl (inhT some ws) (cur1 pr ts us some) = c at h4
      refine ss_cons (s_for (as := some) (ed := eNat) (ps := fun a => [(7, eNat a)]) (fun j => [.d (eTasks ts), .d (.lst (us.map eNat)), .d (.str pr), .d (.lst (some.map eNat)), .d (mkD (ki some) (wD ws)), .own 2 (mkD (ki some) (fD ((some.take j).foldl (inh1 ws) c))), .un, .un, .un, .un, .un]) rfl h4 (i_lst (vr 3 rfl)) ⟨rfl, rfl, rfl, rfl, rfl, rfl, trivial⟩ (fun i a hia => gd_name 7 nd) (fun b1 j k σ H hja h5 => ?_) fun σ H h5 => ?_)
      · have hk := List.mem_of_getElem? hja
        generalize hc2 : (some.take j).foldl (inh1 ws) c = c2 at h5
        refine ss_cons (s_for (as := ws k) (ed := eNat) (ps := fun a => [(10, eNat a)]) (fun l => [.d (eTasks ts), .d (.lst (us.map eNat)), .d (.str pr), .d (.lst (some.map eNat)), .d (mkD (ki some) (wD ws)), .own 3 (mkD (ki some) (fD (((ws k).take l).foldl (inh0 k) c2))), .un, .d (eNat k), .un, .un, .un]) rfl h5 (i_lst (e_ix hu (vr 4 rfl) (vr 7 rfl) (ix_wD hk))) ⟨rfl, rfl, rfl, rfl, rfl, rfl, rfl, trivial⟩ (fun i a hia => gd_name 10 nd) (fun b2 l o σ H hla h6 => ?_) fun σ H h6 => ?_)
        · have ho := hws k hk o (List.mem_of_getElem? hla)
          refine ss_cons (s_put hu h6 (i := 5) rfl (ee_al (E.eq (e_min2 g.fr rfl (as_cons (e_ix hu (vr 5 rfl) (vr 10 rfl) (ix_fD ho)) (as_cons (e_ix hu (vr 5 rfl) (vr 7 rfl) (ix_fD hk)) as_nil))) (show _ = D.int ((min (((ws k).take l).foldl (inh0 k) c2 o) (((ws k).take l).foldl (inh0 k) c2 k) : Nat) : Int) from congrArg D.int (by omega)))) (ee_sh (vr 10 rfl)) (by unfold ki; rw [List.length_map]; omega) (fun σ H h7 => ?_) rfl (Or.inl rfl))
          refine ss_nil (h7.wk ⟨rfl, rfl, rfl, rfl, rfl, ?_, rfl, trivial⟩)
          rw [foldl_snoc hla]
          exact congrArg (Sl.own 3) (put_fD ho).symm
        · refine ss_nil (h6.wk ⟨rfl, rfl, rfl, rfl, rfl, ?_, trivial⟩)
          rw [List.take_length, foldl_snoc hja, hc2]
          rfl
      · refine ss_nil (h5.wk ⟨rfl, rfl, rfl, rfl, rfl, ?_, trivial⟩)
        rw [List.take_length, foldl_snoc (List.getElem?_eq_getElem hilt), hc]
        rfl
    · refine ss_nil (h4.wk ⟨rfl, rfl, rfl, rfl, rfl, ?_, trivial⟩)
      rw [List.length_range, List.take_length]
      unfold currents
      rw [if_pos hb]
      rfl
  · refine ss_nil (h3.wk ⟨rfl, rfl, rfl, rfl, rfl, ?_, trivial⟩)
    unfold currents
    rw [if_neg (by rw [hb]; exact Bool.false_ne_true)]
  exact ss_cons (s_retO h3 (i := 5) rfl (imms_map fun _ _ => rfl) hA hq)
end
end Ev31
/-! ## P7 -/
set_option maxHeartbeats 4000000
/-! The law's run, plain: least keys, last arrivals. -/
namespace Ev31
open PySem L2 Dv Gx
theorem kLe_trans {a b c : KD} (h1 : kLt b a = false) (h2 : kLt c b = false) : kLt c a = false := by
  obtain ⟨a1, a2, a3⟩ := a
  obtain ⟨b1, b2, b3⟩ := b
  obtain ⟨c1, c2, c3⟩ := c
  cases a2 <;> cases b2 <;> cases c2 <;> simp [kLt] at * <;> omega
theorem kLe_anti {a b : KD} (h1 : kLt b a = false) (h2 : kLt a b = false) : a = b := by
  obtain ⟨a1, a2, a3⟩ := a
  obtain ⟨b1, b2, b3⟩ := b
  cases a2 <;> cases b2 <;> simp [kLt] at * <;> omega
theorem kLt_asymm {a b : KD} (h : kLt a b = true) : kLt b a = false := by
  obtain ⟨a1, a2, a3⟩ := a
  obtain ⟨b1, b2, b3⟩ := b
  cases a2 <;> cases b2 <;> simp [kLt] at * <;> omega
theorem kMin_least : ∀ (ks : List KD) (k : KD), kMin k ks ∈ k :: ks ∧ ∀ y ∈ k :: ks, kLt y (kMin k ks) = false
  | [], k => ⟨List.mem_singleton.mpr rfl, fun y hy => by rw [List.mem_singleton.mp hy]; exact kLt_irr k⟩
  | x :: ks, k => by
    have e : kMin k (x :: ks) = kMin (if kLt x k then x else k) ks := rfl
    rw [e]
    by_cases h : kLt x k = true
    · rw [if_pos h]
      obtain ⟨h1, h2⟩ := kMin_least ks x
      refine ⟨List.mem_cons_of_mem _ h1, fun y hy => ?_⟩
      rcases List.mem_cons.mp hy with z | z
      · rw [z]
        exact kLe_trans (h2 x List.mem_cons_self) (kLt_asymm h)
      · exact h2 y z
    · rw [if_neg h]
      obtain ⟨h1, h2⟩ := kMin_least ks k
      have hf : kLt x k = false := Bool.eq_false_iff.mpr h
      refine ⟨?_, fun y hy => ?_⟩
      · rcases List.mem_cons.mp h1 with z | z
        · rw [z]; exact List.mem_cons_self
        · exact List.mem_cons_of_mem _ (List.mem_cons_of_mem _ z)
      · rcases List.mem_cons.mp hy with z | z
        · rw [z]; exact h2 k List.mem_cons_self
        · rcases List.mem_cons.mp z with u | u
          · rw [u]
            exact kLe_trans (h2 k List.mem_cons_self) hf
          · exact h2 y (List.mem_cons_of_mem _ u)
theorem argMin_low {kf : Nat → KD} : ∀ {l : List Nat} {m x : Nat}, argMin kf l = some m → x ∈ l → kLt (kf x) (kf m) = false
  | [], m, x, q, _ => by simp [argMin] at q
  | y :: ys, m, x, q, hx => by
    unfold argMin at q
    cases q2 : argMin kf ys with
    | none =>
      rw [q2] at q
      cases q
      have := argMin_none.mp q2
      subst this
      rw [List.mem_singleton.mp hx]
      exact kLt_irr _
    | some z =>
      rw [q2] at q
      have q : (if kLt (kf z) (kf y) = true then some z else some y) = some m := q
      by_cases e : kLt (kf z) (kf y) = true
      · rw [if_pos e] at q
        cases q
        rcases List.mem_cons.mp hx with c | c
        · rw [c]
          exact kLt_asymm e
        · exact argMin_low q2 c
      · rw [if_neg e] at q
        cases q
        rcases List.mem_cons.mp hx with c | c
        · rw [c]; exact kLt_irr _
        · exact kLe_trans (Bool.eq_false_iff.mpr e) (argMin_low q2 c)
theorem kMin_argMin {kf : Nat → KD} {l : List Nat} {m : Nat} {k1 : KD} {ks : List KD} (h : argMin kf l = some m) (e : l.map kf = k1 :: ks) : kMin k1 ks = kf m := by
  obtain ⟨h1, h2⟩ := kMin_least ks k1
  rw [← e] at h1 h2
  obtain ⟨x, hx, ex⟩ := List.mem_map.mp h1
  refine kLe_anti ?_ ?_
  · exact h2 _ (List.mem_map.mpr ⟨m, argMin_mem h, rfl⟩)
  · rw [← ex]
    exact argMin_low h hx
/-! the last arrival -/
def lastsOf (pat : List (List Int)) : List Int := (pat.filter fun a => !a.isEmpty).map fun a => a.getLastD 0
def lastM (pat : List (List Int)) : Int := (lastsOf pat).foldr max 0
theorem foldr_maxI : ∀ (l : List Int), (∀ y ∈ 0 :: l, y ≤ l.foldr max 0) ∧ l.foldr max 0 ∈ 0 :: l
  | [] => ⟨fun y hy => by rw [List.mem_singleton.mp hy]; exact Int.le_refl 0, List.mem_singleton.mpr rfl⟩
  | a :: l => by
    obtain ⟨h1, h2⟩ := foldr_maxI l
    rw [List.foldr_cons]
    refine ⟨fun y hy => ?_, ?_⟩
    · rcases List.mem_cons.mp hy with z | z
      · have := h1 0 List.mem_cons_self
        omega
      · rcases List.mem_cons.mp z with u | u
        · omega
        · have := h1 y (List.mem_cons_of_mem _ u)
          omega
    · rcases Int.le_total a (l.foldr max 0) with c | c
      · rw [Int.max_eq_right c]
        rcases List.mem_cons.mp h2 with z | z
        · rw [z]; exact List.mem_cons_self
        · exact List.mem_cons_of_mem _ (List.mem_cons_of_mem _ z)
      · rw [Int.max_eq_left c]
        exact List.mem_cons_of_mem _ List.mem_cons_self
theorem lastM_max (pat : List (List Int)) : IsMax (0 :: lastsOf pat) (lastM pat) := ⟨(foldr_maxI _).2, (foldr_maxI _).1⟩
theorem lastD_get {a : List Int} (h : a ≠ []) : a.getLastD 0 = a.getLast h := by
  rw [List.getLastD_eq_getLast?, List.getLast?_eq_some_getLast h]
  rfl
theorem goodA_last {gap : Int} {a : List Int} (g : GoodA gap a) (hg : 0 ≤ gap) {x : Int} (hx : x ∈ a) : x ≤ a.getLastD 0 ∧ a ≠ [] := by
  have hne : a ≠ [] := fun z => by rw [z] at hx; cases hx
  refine ⟨?_, hne⟩
  have hl : a.getLastD 0 = a[a.length - 1]'(by have := List.length_pos_iff.mpr hne; omega) := by
    rw [← List.getLast_eq_getElem hne]
    exact lastD_get hne
  obtain ⟨i, hi, e⟩ := List.mem_iff_getElem.mp hx
  have mono : ∀ d i (h : i + d < a.length), a[i]'(by omega) ≤ a[i + d] := by
    intro d
    induction d with
    | zero => intro i h; exact Int.le_refl _
    | succ d ih =>
      intro i h
      have h1 := ih i (by omega)
      have h2 := (g (i + (d + 1)) a[i + (d + 1)] (List.getElem?_eq_getElem h)).2 (by omega) a[i + d] (by rw [show i + (d + 1) - 1 = i + d by omega]; exact List.getElem?_eq_getElem (by omega))
      omega
  have := mono (a.length - 1 - i) i (by omega)
  rw [hl, ← e]
  have e2 : i + (a.length - 1 - i) = a.length - 1 := by omega
  simp only [e2] at this
  exact this
theorem later_last {ts : List Task} {pat : List (List Int)} (gt : GoodTs ts) (gp : GoodPat ts pat) (now : Nat) : later pat now = decide ((now : Int) < lastM pat) := by
  obtain ⟨h1, h2⟩ := lastM_max pat
  rw [Bool.eq_iff_iff, decide_eq_true_iff]
  unfold later
  rw [List.any_eq_true]
  constructor
  · rintro ⟨a, ha, h⟩
    rw [List.any_eq_true] at h
    obtain ⟨x, hx, h⟩ := h
    have h := of_decide_eq_true h
    obtain ⟨k, hk, e⟩ := List.mem_iff_getElem.mp ha
    have hkt : k < ts.length := by rw [← gp.len]; exact hk
    have ga := gp.arr k ts[k] a (List.getElem?_eq_getElem hkt) (by rw [List.getElem?_eq_getElem hk, e])
    have hgap : 0 ≤ ts[k].2.1 := by
      have := (gt.all _ (List.getElem_mem hkt)).gap
      simp [isIn] at this
      omega
    obtain ⟨q1, q2⟩ := goodA_last ga hgap hx
    have : a.getLastD 0 ≤ lastM pat := h2 _ (List.mem_cons_of_mem _ (List.mem_map.mpr ⟨a, List.mem_filter.mpr ⟨ha, by cases a with | nil => exact absurd rfl q2 | cons b c => rfl⟩, rfl⟩))
    omega
  · intro h
    rcases List.mem_cons.mp h1 with z | z
    · omega
    · obtain ⟨a, ha, e⟩ := List.mem_map.mp z
      obtain ⟨ha1, ha2⟩ := List.mem_filter.mp ha
      have hne : a ≠ [] := fun z => by rw [z] at ha2; cases ha2
      refine ⟨a, ha1, ?_⟩
      rw [List.any_eq_true]
      refine ⟨a.getLastD 0, ?_, decide_eq_true (by omega)⟩
      rw [lastD_get hne]
      exact List.getLast_mem hne
theorem over_law {pat : List (List Int)} {done : List Nat} (hl : done.length = pat.length) : over pat done = decide ((done.map fun (k : Nat) => (k : Int)) = pat.map fun a => ((a.length : Nat) : Int)) := by
  rw [Bool.eq_iff_iff, decide_eq_true_iff]
  unfold over
  rw [List.all_eq_true]
  constructor
  · intro h
    apply List.ext_getElem (by simp [hl])
    intro i h1 h2
    simp only [List.length_map] at h1 h2
    rw [List.getElem_map, List.getElem_map]
    have := of_decide_eq_true (h (pat[i], i) (by
      rw [List.mem_iff_getElem?]
      exact ⟨i, by rw [List.getElem?_zipIdx, List.getElem?_eq_getElem h2]; simp⟩))
    injection this with this
    have hu : uAt done i = done[i] := by
      unfold uAt
      rw [List.getD_eq_getElem?_getD, List.getElem?_eq_getElem h1]
      rfl
    rw [hu] at this
    exact this
  · intro h q hq
    have hx := zip_mem hq
    obtain ⟨h2, e2⟩ := List.getElem?_eq_some_iff.mp hx
    have h1 : q.2 < done.length := by omega
    have := congrArg (fun l : List Int => l[q.2]?) h
    simp only [List.getElem?_map, List.getElem?_eq_getElem h1, List.getElem?_eq_getElem h2, Option.map_some, Option.some.injEq] at this
    refine decide_eq_true ?_
    have hu : uAt done q.2 = done[q.2] := by
      unfold uAt
      rw [List.getD_eq_getElem?_getD, List.getElem?_eq_getElem h1]
      rfl
    rw [hu, this, e2]
theorem ix_lastA {a : List Int} (h : a ≠ []) : ixF (eInts a) (.int (-1)) = some (.int (a.getLastD 0)) := by
  have hp : 0 < a.length := List.length_pos_iff.mpr h
  show atI (a.map D.int) (-1) = _
  unfold atI ixN
  rw [if_neg (by decide), if_pos (by rw [List.length_map]; omega)]
  show (a.map D.int)[((-1 : Int) + ((a.map D.int).length : Nat)).toNat]? = _
  rw [List.length_map, show ((-1 : Int) + (a.length : Nat)).toNat = a.length - 1 by omega, List.getElem?_map, List.getElem?_eq_getElem (by omega), lastD_get h, List.getLast_eq_getElem]
  rfl
end Ev31
/-! ## LG -/
set_option maxHeartbeats 4000000
/-! The law's own: the run. -/
namespace Ev31
open PySem PySem.Spec PyProof.Rows L2 Gx Dv
theorem EF.eq {X : Cx} {T : TbL} {Γ : List (Option D)} {e : Expr} {d d' : D} (h : EF X T Γ e d) (q : d = d') : EF X T Γ e d' := q ▸ h
theorem lst_nat (l : List Nat) : D.lst (l.map eNat) = D.lst ((l.map fun (k : Nat) => (k : Int)).map .int) := by
  rw [List.map_map]
  rfl
theorem cmp_nats {l : List Nat} : Cmp (.lst (l.map eNat)) := by
  rw [lst_nat]
  exact cmp_ints
theorem cmp_kds {l : List KD} : Cmp (.lst (l.map eKD)) := .lst fun d hd => by
  obtain ⟨x, _, rfl⟩ := List.mem_map.mp hd
  exact ⟨rfl, Nat.le_of_ble_eq_true rfl⟩
theorem cmp_opts {l : List (Option Nat)} : Cmp (.lst (l.map eOpt)) := .lst fun d hd => by
  obtain ⟨x, _, rfl⟩ := List.mem_map.mp hd
  cases x <;> exact ⟨rfl, Nat.le_of_ble_eq_true rfl⟩
theorem eqv_lst {a b : List D} : PyData.eqv (pyD (.lst a)) (pyD (.lst b)) = PyData.eqvAll (pysD a) (pysD b) := by simp [pyD, PyData.eqv]
/-- the stuck tasks, as the law finds them -/
def stuckL (ts : List Task) (pat : List (List Int)) (done : List Nat) : List Nat := (List.range ts.length).filter fun k => decide (((uAt done k : Nat) : Int) < (((pat.getD k []).length : Nat) : Int))
section
variable {P : Program} {w : World} {K : PySem.W.Frag} {mg : Str → Option Value} {base h : Heap}
def R_lrun (ds : List D) (d : D) : Prop := ∃ (ts : List Task) (pat : List (List Int)) (pr : Str), ds = [eTasks ts, ePat pat, .str pr] ∧
  d = .tup [.lst ((runP 600 (Lk.new ts pat pr)).1.map eOpt), .lst ((stuckL ts pat (loop 600 (Lk.new ts pat pr) []).1.done).map eNat), .lst ((loop 600 (Lk.new ts pat pr) []).1.units.map eNat)] ∧ GoodTs ts ∧ GoodPat ts pat ∧ pr ∈ prots
abbrev n__law_run : List Str := ["_law_tasks", "_law_pattern", "_law_protocol", "_law_done", "_law_units", "_law_found", "_law_task", "_law_last", "_law_arrivals_here", "_law_now", "_law_some", "_law_k", "_law_waits_here", "_law_current", "_law_free"]
theorem sc__law_run : FnScope n__law_run ["_law_tasks", "_law_pattern", "_law_protocol"] (defScope s_law_run) := ⟨rfl, rfl, rfl, by decide +kernel, rfl, by decide +kernel, by decide +kernel⟩
theorem ok__law_run (g : Pg w K mg base h) : FnC P w K mg base (TT K) "_law_run" 3 R_lrun := by
  have c_waits := ok__law_waits (P := P) g
  have c_currents := ok__law_currents (P := P) g
  obtain ⟨fd, F⟩ := g.d__law_run
  refine fnC_of F g.a__law_run sc__law_run (fun ds d ⟨_, _, _, e, _⟩ => by rw [e]; rfl) (fun _ _ _ _ _ _ us hl => match us, hl with | [_, _, _], _ => rfl) ?_
  rintro cdv A outer s H0 Q Ex0 ds d W hcd hr ⟨ts, pat, pr, rfl, rfl, gt, gp, hpr⟩ hq σ H hat
  have hu := hu_of hr
  have hu64 := hu64_of hr
  have nd := sc__law_run.nd
  have hm := gt.most
  have hpl := gp.len
  have h0 : At K (TT K) [⟨[], H0, W, none⟩] [.d (eTasks ts), .d (ePat pat), .d (.str pr), .un, .un, .un, .un, .un, .un, .un, .un, .un, .un, .un, .un] σ H := hat
  have zeros : (ts.filter fun _ => true).map (fun _ => eNat 0) = (Lk.new ts pat pr).done.map eNat := by
    rw [Dv.filter_all]
    show _ = (ts.map fun _ => 0).map eNat
    rw [List.map_map]
    rfl
  refine ss_cons (s_par3N (i := 3) (j := 4) (k := 5) h0 rfl nd (N.eq (n_lc' [("_law_task", 6)] ts eTask (fun a => [(6, eTask a)]) (fun _ => true) (fun _ => eNat 0) rfl nd (blk_of (by kernel_rfl)) (by omega) (i_tup (vr 0 rfl)) (fun a ha s H C cl fp => gd_name 6 nd) (fun a ha s H C cl fp => bs_nil) (fun a ha hb s H C cl fp => e_int)) zeros)
    (N.eq (n_lc' [("_law_task", 6)] ts eTask (fun a => [(6, eTask a)]) (fun _ => true) (fun _ => eNat 0) rfl nd (blk_of (by kernel_rfl)) (by omega) (i_tup (vr 0 rfl)) (fun a ha s H C cl fp => gd_name 6 nd) (fun a ha s H C cl fp => bs_nil) (fun a ha hb s H C cl fp => e_int)) zeros) (by decide) (fun σ H h1 => ?_))
  have hlens : (lastsOf pat).length ≤ 1000 := by
    unfold lastsOf
    rw [List.length_map]
    have := List.length_filter_le (fun a : List Int => !a.isEmpty) pat
    omega
  refine ss_cons (s_asg h1 (d := .int (lastM pat)) (ee_sh (e_maxL (ns := 0 :: lastsOf pat) g.fr rfl (E.eq (n_e (n_cat (n_lst (as_cons e_int as_nil)) (n_lc' [("_law_arrivals_here", 8)] pat eInts (fun a => [(8, eInts a)]) (fun a => !a.isEmpty) (fun a => .int (a.getLastD 0)) rfl nd (blk_of (by kernel_rfl)) (by omega) (i_tup (vr 1 rfl)) (fun a ha s H C cl fp => gd_name 8 nd) (fun a ha s H C cl fp => bs_one (B.eq (b_neNilT hu64 (vr 8 rfl) cmp_intsT) (by simp)))
    (fun a ha hb s H C cl fp => e_ix hu (vr 8 rfl) (e_neg e_int) (ix_lastA (by intro z; rw [z] at hb; cases hb)))) (by unfold lastsOf at hlens; simp at hlens ⊢; omega))) (by unfold lastsOf; rw [List.map_cons, List.map_map]; rfl)) (lastM_max pat))) (fun σ H h2 => ?_) (i := 7) nd rfl (Or.inl rfl))
  generalize hR : loop 600 (Lk.new ts pat pr) [] = R at hq
  refine ss_mid (M := fun σ H => At K (TT K) [⟨[], H0, W, none⟩] [.d (eTasks ts), .d (ePat pat), .d (.str pr), .own 0 (.lst (R.1.done.map eNat)), .own 0 (.lst (R.1.units.map eNat)), .own 0 (.lst (R.2.map eOpt)), .un, .un, .un, .un, .un, .un, .un, .un, .un] σ H ∧ R.1.In ∧ R.1.ts = ts ∧ R.1.pat = pat ∧ R.2.length ≤ 600)
    (s_forI (S := Lk × List (Option Nat)) (as := List.range 600) (ed := eNat) (ps := fun k => [(9, eNat k)]) (fun i s => s.1.In ∧ s.1.ts = ts ∧ s.1.pat = pat ∧ s.1.pr = pr ∧ s.2.length = i ∧ i ≤ 600 ∧ loop (600 - i) s.1 s.2 = R)
      (fun s => [.d (eTasks ts), .d (ePat pat), .d (.str pr), .own 1 (.lst (s.1.done.map eNat)), .own 1 (.lst (s.1.units.map eNat)), .own 1 (.lst (s.2.map eOpt)), .un, .d (.int (lastM pat)), .un, .un, .un, .un, .un, .un, .un]) (Lk.new ts pat pr, []) rfl h2 (i_rngZ (n := 600) g.fr e_int rfl (by omega)) ⟨new_in gt gp hpr, rfl, rfl, rfl, rfl, by omega, hR⟩ ⟨rfl, rfl, rfl, rfl, rfl, rfl, rfl, trivial⟩ (fun i a hia => gd_name 9 nd) (fun b0 i now s σ H hia is h3 => ?_) fun s σ H is h3 => ?_) fun σ H hM => ?_
  · obtain ⟨S, f⟩ := s
    obtain ⟨hin, hts, hpat, hpr2, hfl, hi600, hl⟩ := is
    simp only at hin hts hpat hpr2 hfl hl
    have hin0 : now = i ∧ i < 600 := by
      have h1 := (List.getElem?_eq_some_iff.mp hia).1
      rw [List.length_range] at h1
      rw [List.getElem?_range h1] at hia
      exact ⟨(Option.some.inj hia).symm, h1⟩
    obtain ⟨rfl, hn600⟩ := hin0
    have hdl : S.done.length = ts.length := by rw [hin.ok.done, hts]
    have hul : S.units.length = ts.length := by rw [hin.ok.units, hts]
    obtain ⟨n, hn⟩ : ∃ n, 600 - now = n + 1 := ⟨600 - now - 1, by omega⟩
    rw [hn] at hl
    unfold loop at hl
    rw [hfl, hpat] at hl
    have h3 : At K (TT K) [b0, ⟨[], H0, W, none⟩] [.d (eTasks ts), .d (ePat pat), .d (.str pr), .own 1 (.lst (S.done.map eNat)), .own 1 (.lst (S.units.map eNat)), .own 1 (.lst (f.map eOpt)), .un, .d (.int (lastM pat)), .un, .d (.int now), .un, .un, .un, .un, .un] σ H := h3
    refine ss_cons (s_if h3 (b := over pat S.done) (B.eq (b_eqD hu64 (E.eq (vr 3 rfl) (lst_nat _)) (E.eq (n_e (n_lc' [("_law_arrivals_here", 8)] pat eInts (fun a => [(8, eInts a)]) (fun _ => true) (fun a => .int (a.length : Nat)) rfl nd (blk_of (by kernel_rfl)) (by omega) (i_tup (vr 1 rfl)) (fun a ha s H C cl fp => gd_name 8 nd) (fun a ha s H C cl fp => bs_nil) (fun a ha hb s H C cl fp => E.eq (e_len g.fr (vr 8 rfl)) (by rw [List.length_map]))))
      (show _ = D.lst ((pat.map fun a => ((a.length : Nat) : Int)).map .int) by rw [Dv.filter_all, List.map_map]; rfl)) cmp_ints cmp_ints) (by rw [eqv_lst, eqv_ints, over_law (by omega)])) (fun hb σ H h4 => ?_) fun hb σ H h4 => ss_nil ?_)
    · rw [if_pos hb] at hl
      subst hl
      refine ss_cons (s_break ⟨(h4.pop).wk ⟨rfl, rfl, rfl, rfl, rfl, rfl, trivial⟩, hin, hts, hpat, ?_⟩)
      show f.length ≤ 600
      omega
    rw [if_neg (by rw [hb]; exact Bool.false_ne_true)] at hl
    -- who is there
    refine ss_cons (s_asgF h4 (i := 10) (nf_e (nf_lc [("_law_k", 11)] (List.range ts.length) eNat (fun a => [(11, eNat a)]) (rdy pat S.done now) eNat rfl nd (blk_of (by kernel_rfl)) (by simp; omega) (i_rng (n := ts.length) g.fr (E.eq (e_len g.fr (vr 0 rfl)) (by rw [List.length_map])) (by omega)) (fun a ha s H C cl fp => gd_name 11 nd) (fun k hk s H C cl fp => ?_) (fun a ha hb s H C cl fp => ef_e (vr 11 rfl) rfl))) (fun σ H h5 => ?_) nd)
    · have hk := List.mem_range.mp hk
      have ed := uAt_get (us := S.done) (k := k) (by omega)
      have ep : pat[k]? = some (pat.getD k []) := getD_ix (by omega)
      refine bs_one (B.eq (b_bw (bw_and (b_lt (e_ix hu (vr 3 rfl) (vr 11 rfl) (ix_lst ed)) (e_len g.fr (e_ix hu (vr 1 rfl) (vr 11 rfl) (ix_tup ep)))) fun hb => (bw_and1 (b_le (e_ix hu (e_ix hu (vr 1 rfl) (vr 11 rfl) (ix_tup ep)) (e_ix hu (vr 3 rfl) (vr 11 rfl) (ix_lst ed)) (ix_tup (getD_ix (d := 0) ?_))) (vr 9 rfl))))) ?_)
      · have hb := of_decide_eq_true hb
        simp at hb
        exact hb
      · unfold rdy rdyA
        simp
    have hrd : (List.range ts.length).filter (rdy pat S.done now) = ready pat S.done now := by
      unfold ready
      rw [hpl]
    rw [hrd] at h5
    have hnext : next S now = pick pr ts S.units (ready pat S.done now) := by
      unfold next
      rw [hts, hpat, hpr2]
    have hnd := ready_nodup (pat := pat) (done := S.done) (now := now)
    have hlt : ∀ j ∈ ready pat S.done now, j < ts.length := fun j hj => by
      have := ready_lt hj
      omega
    have hz : (ready pat S.done now).length ≤ 1000 := by
      have := ready_len (pat := pat) (done := S.done) (now := now)
      omega
    have hsub : ∀ k j, j ∈ waits pr ts S.units (ready pat S.done now) k → j ∈ ready pat S.done now := fun k j hj => (waits_sub hj).1
    unfold pick at hnext
    generalize ready pat S.done now = rd at h5 hnext hnd hlt hz hsub
    refine ss_cons (s_asgF h5 (i := 12) (d := mkD (ki rd) (wD (waits pr ts S.units rd))) (ef_dict g.fr rfl (ki_nodup hnd) (EF.eq (nf_e (nf_lc [("_law_k", 11)] rd eNat (fun a => [(11, eNat a)]) (fun _ => true) (fun k => .tup [.int (k : Nat), .lst ((waits pr ts S.units rd k).map eNat)]) rfl nd (blk_of (by kernel_rfl)) (by omega) (i_lst (vr 10 rfl)) (fun a ha s H C cl fp => gd_name 11 nd) (fun a ha s H C cl fp => bs_nil)
      (fun k hk hb s H C cl fp => ef_tup (ef_cons (ef_e (vr 11 rfl) rfl) (ef_cons (ef_call c_waits (hr.mono (by decide)) (as_cons (vr 0 rfl) (as_cons (vr 4 rfl) (as_cons (vr 2 rfl) (as_cons (vr 11 rfl) (as_cons (vr 10 rfl) as_nil))))) ⟨ts, S.units, pr, k, rd, rfl, rfl, gt, hul, hpr, hlt k hk, hlt, hz⟩) ef_nil))))) (by
        rw [Dv.filter_all]
        unfold ki
        rw [List.map_map]
        rfl))) (fun σ H h6 => ?_) nd)
    refine ss_cons (s_asgF h6 (i := 13) (ef_call c_currents (hr.mono (by decide)) (as_cons (vr 0 rfl) (as_cons (vr 4 rfl) (as_cons (vr 2 rfl) (as_cons (vr 10 rfl) (as_cons (vr 12 rfl) as_nil))))) ⟨ts, S.units, pr, rd, _, rfl, rfl, gt, hul, hlt, hz, hnd, fun k hk j hj => hsub k j hj⟩) (fun σ H h7 => ?_) nd)
    generalize hws : waits pr ts S.units rd = ws at h7 hnext
    generalize hcu : currents pr ts S.units rd ws = cu at h7 hnext
    unfold pickW at hnext
    refine ss_cons (s_lcF (i := 14) [("_law_k", 11)] rd eNat (fun a => [(11, eNat a)]) (fun k => (ws k).isEmpty) (fun k => eKD (keyOf S.units cu k)) h7 rfl nd (blk_of (by kernel_rfl)) (by omega) (i_lst (vr 10 rfl)) (fun a ha s H C cl fp => gd_name 11 nd) (fun k hk s H C cl fp => bs_one (B.eq (b_eqNil hu64 (e_ix hu (vr 12 rfl) (vr 11 rfl) (ix_wD hk)) cmp_nats) (by simp)))
      (fun k hk hb s H C cl fp => ef_e (e_tup (as_cons (e_ix hu (vr 13 rfl) (vr 11 rfl) (ix_fD hk)) (as_cons (e_eq (e_ix hu (vr 4 rfl) (vr 11 rfl) (ix_lst (uAt_get (us := S.units) (k := k) (by have := hlt k hk; omega)))) e_int) (as_cons (vr 11 rfl) as_nil)))) rfl) (fun σ H h8 => ?_) rfl)
    generalize hfree : (rd.filter fun k => (ws k).isEmpty) = fl at h8 hnext
    have hflr : ∀ k ∈ fl, k ∈ rd := fun k hk => by
      rw [← hfree] at hk
      exact (List.mem_filter.mp hk).1
    have hmap : fl.map (fun k => eKD (keyOf S.units cu k)) = (fl.map (keyOf S.units cu)).map eKD := by rw [List.map_map]; rfl
    rw [hmap] at h8
    have hnone : (next S now).isNone = fl.isEmpty := by
      rw [hnext]
      cases fl with
      | nil => rfl
      | cons a t =>
        cases e : argMin (keyOf S.units cu) (a :: t) with
        | none => exact absurd (argMin_none.mp e) (by simp)
        | some m => rfl
    have h8 : At K (TT K) [b0, ⟨[], H0, W, none⟩] [.d (eTasks ts), .d (ePat pat), .d (.str pr), .own 1 (.lst (S.done.map eNat)), .own 1 (.lst (S.units.map eNat)), .own 1 (.lst (f.map eOpt)), .un, .d (.int (lastM pat)), .un, .d (.int now), .d (.lst (rd.map eNat)), .un, .d (mkD (ki rd) (wD ws)), .d (mkD (ki rd) (fD cu)), .d (.lst ((fl.map (keyOf S.units cu)).map eKD))] σ H := h8
    refine ss_cons (s_if h8 (b := (next S now).isNone && !later pat now) (B.eq (b_bw (bw_and (b_eqNil hu64 (vr 14 rfl) cmp_kds) fun _ => (bw_and1 (b_ge (vr 9 rfl) (vr 7 rfl))))) (by
      rw [hnone, later_last gt gp]
      have e1 : ((fl.map (keyOf S.units cu)).map eKD).isEmpty = fl.isEmpty := by simp
      have e2 : decide (lastM pat ≤ (now : Int)) = !decide ((now : Int) < lastM pat) := by
        by_cases c : (now : Int) < lastM pat
        · have : ¬ lastM pat ≤ (now : Int) := by omega
          simp [c, this]
        · have : lastM pat ≤ (now : Int) := by omega
          simp [c, this]
      rw [e1, e2])) (fun hb σ H h9 => ?_) fun hb σ H h9 => ss_nil ?_)
    · rw [if_pos hb] at hl
      subst hl
      refine ss_cons (s_break ⟨(h9.pop).wk ⟨rfl, rfl, rfl, rfl, rfl, rfl, trivial⟩, hin, hts, hpat, ?_⟩)
      show f.length ≤ 600
      omega
    rw [if_neg (by rw [hb]; exact Bool.false_ne_true)] at hl
    have tin := turn_in (now := now) hin
    have ht1 : (S.turn (next S now)).ts = ts := turn_keep.1.trans hts
    have ht2 : (S.turn (next S now)).pat = pat := turn_keep.2.1.trans hpat
    have ht3 : (S.turn (next S now)).pr = pr := turn_keep.2.2.trans hpr2
    cases hx : next S now with
    | none =>
      rw [hx] at hl tin ht1 ht2 ht3 hnone
      have hfe : fl = [] := List.isEmpty_iff.mp hnone.symm
      subst hfe
      refine ss_cons (s_app h9 (i := 5) rfl (ee_sh (e_ifx (p := false) (d := eOpt none) (B.eq (b_neNil hu64 (vr 14 rfl) cmp_kds) rfl) (fun hb => nomatch hb) fun _ => e_no)) (by rw [List.length_map]; omega) (fun σ H h10 => ?_) rfl (Or.inl rfl))
      have h10 : At K (TT K) [b0, ⟨[], H0, W, none⟩] [.d (eTasks ts), .d (ePat pat), .d (.str pr), .own 1 (.lst (S.done.map eNat)), .own 1 (.lst (S.units.map eNat)), .own 1 (.lst (f.map eOpt ++ [eOpt none])), .un, .d (.int (lastM pat)), .un, .d (.int now), .d (.lst (rd.map eNat)), .un, .d (mkD (ki rd) (wD ws)), .d (mkD (ki rd) (fD cu)), .d (.lst ((([] : List Nat).map (keyOf S.units cu)).map eKD))] σ H := h10
      rw [show f.map eOpt ++ [eOpt none] = (f ++ [none]).map eOpt by simp] at h10
      refine ss_cons (s_if h10 (b := false) (B.eq (b_neNil hu64 (vr 14 rfl) cmp_kds) rfl) (fun hb => nomatch hb) fun _ σ H h11 => ss_nil (ss_nil ⟨(S.turn none, f ++ [none]), ⟨tin, ht1, ht2, ht3, by simp [hfl], by omega, ?_⟩, h11.wk ⟨rfl, rfl, rfl, rfl, rfl, rfl, rfl, trivial⟩⟩))
      rw [show 600 - (now + 1) = n by omega]
      exact hl
    | some k =>
      have hkr : k ∈ rd := by
        rw [hnext] at hx
        exact hflr k (argMin_mem hx)
      have hk := hlt k hkr
      have ek := get_ix hk
      have eu := uAt_get (us := S.units) (k := k) (by omega)
      rw [hx] at hl tin ht1 ht2 ht3 hnone
      rw [hnext] at hx
      obtain ⟨k1, ks, hks⟩ : ∃ k1 ks, fl.map (keyOf S.units cu) = k1 :: ks := by
        cases fl with
        | nil => simp at hnone
        | cons a t => exact ⟨_, _, rfl⟩
      have hmin := kMin_argMin hx hks
      rw [hks] at h9
      have hthird : ixF (eKD (kMin k1 ks)) (.int 2) = some (.int (k : Nat)) := by
        rw [hmin]
        rfl
      refine ss_cons (s_app h9 (i := 5) rfl (ee_sh (e_ifx (p := true) (d := eOpt (some k)) (B.eq (b_neNil hu64 (vr 14 rfl) cmp_kds) rfl) (fun _ => e_ix hu (e_minQ (k := 0) g.fr (hr.mono (by decide)) (vr 14 rfl)) e_int hthird) fun hb => nomatch hb)) (by rw [List.length_map]; omega) (fun σ H h10 => ?_) rfl (Or.inl rfl))
      have h10 : At K (TT K) [b0, ⟨[], H0, W, none⟩] [.d (eTasks ts), .d (ePat pat), .d (.str pr), .own 1 (.lst (S.done.map eNat)), .own 1 (.lst (S.units.map eNat)), .own 1 (.lst (f.map eOpt ++ [eOpt (some k)])), .un, .d (.int (lastM pat)), .un, .d (.int now), .d (.lst (rd.map eNat)), .un, .d (mkD (ki rd) (wD ws)), .d (mkD (ki rd) (fD cu)), .d (.lst ((k1 :: ks).map eKD))] σ H := h10
      rw [show f.map eOpt ++ [eOpt (some k)] = (f ++ [some k]).map eOpt by simp] at h10
      refine ss_cons (s_if h10 (b := true) (B.eq (b_neNil hu64 (vr 14 rfl) cmp_kds) rfl) (fun _ σ H h11 => ?_) fun hb => nomatch hb)
      refine ss_cons (s_asg h11 (d := .int (k : Nat)) (ee_sh (e_ix hu (e_minQ (k := 0) g.fr (hr.mono (by decide)) (vr 14 rfl)) e_int hthird)) (fun σ H h12 => ?_) (i := 11) nd rfl (Or.inl rfl))
      refine ss_cons (s_setL (j := k) h12 (i := 4) rfl (d := eNat (uAt S.units k + 1)) (ee_al (E.eq (e_add (e_ix hu (vr 4 rfl) (vr 11 rfl) (ix_lst eu)) e_int) (by rfl))) (ee_sh (vr 11 rfl)) (by rw [List.length_map]; omega) (fun σ H h13 => ?_) rfl (by first | exact Or.inl rfl | exact Or.inr (Or.inl rfl) | exact Or.inr (Or.inr rfl)))
      have h13 : At K (TT K) [b0, ⟨[], H0, W, none⟩] [.d (eTasks ts), .d (ePat pat), .d (.str pr), .own 1 (.lst (S.done.map eNat)), .own 1 (.lst ((S.units.map eNat).set k (eNat (uAt S.units k + 1)))), .own 1 (.lst ((f ++ [some k]).map eOpt)), .un, .d (.int (lastM pat)), .un, .d (.int now), .d (.lst (rd.map eNat)), .d (.int k), .d (mkD (ki rd) (wD ws)), .d (mkD (ki rd) (fD cu)), .d (.lst ((k1 :: ks).map eKD))] σ H := h13
      rw [set_eNat] at h13
      obtain ⟨u', hu'⟩ : ∃ u', u' = S.units.set k (uAt S.units k + 1) := ⟨_, rfl⟩
      rw [← hu'] at h13
      have eu' : u'[k]? = some (uAt S.units k + 1) := by rw [hu', List.getElem?_set_self (by omega)]
      have lu' : k < u'.length := by rw [hu', List.length_set]; omega
      have ed := uAt_get (us := S.done) (k := k) (by omega)
      have hkS : k < S.ts.length := by rw [hts]; exact hk
      have ekc : S.ts[k].1 = ts[k].1 := by
        subst hts
        rfl
      refine ss_cons (s_if h13 (b_eq (e_ix hu (vr 4 rfl) (vr 11 rfl) (ix_lst eu')) (e_ix hu (e_ix hu (vr 0 rfl) (vr 11 rfl) (ix_tup ek)) e_int rfl)) (fun hb σ H h14 => ?_) fun hb σ H h14 => ss_nil (ss_nil (ss_nil ?_)))
      · have hw := work_yes hkS (by rw [ekc]; exact hb)
        refine ss_cons (s_set2 (i := 3) (j := 4) (t := k) (t2 := k) (n1 := ((uAt S.done k + 1 : Nat) : Int)) (n2 := 0) rfl h14 rfl rfl (by decide) (ee_al (e_tup (as_cons (E.eq (e_add (e_ix hu (vr 3 rfl) (vr 11 rfl) (ix_lst ed)) e_int) (by rfl)) (as_cons e_int as_nil)))) (ee_sh (vr 11 rfl)) (ee_sh (vr 11 rfl)) (by rw [List.length_map]; omega) (by rw [List.length_map]; exact lu') (fun σ H h15 => ?_))
        refine ss_nil (ss_nil (ss_nil ⟨(S.turn (some k), f ++ [some k]), ⟨tin, ht1, ht2, ht3, by simp [hfl], by omega, by rw [show 600 - (now + 1) = n by omega]; exact hl⟩, ?_⟩))
        have h15 : At K (TT K) [b0, ⟨[], H0, W, none⟩] [.d (eTasks ts), .d (ePat pat), .d (.str pr), .own 1 (.lst ((S.done.map eNat).set k (eNat (uAt S.done k + 1)))), .own 1 (.lst ((u'.map eNat).set k (eNat 0))), .own 1 (.lst ((f ++ [some k]).map eOpt)), .un, .d (.int (lastM pat)), .un, .d (.int now), .d (.lst (rd.map eNat)), .d (.int k), .d (mkD (ki rd) (wD ws)), .d (mkD (ki rd) (fD cu)), .d (.lst ((k1 :: ks).map eKD))] σ H := h15
        rw [set_eNat, set_eNat, hu', List.set_set] at h15
        refine h15.wk ⟨rfl, rfl, rfl, ?_, ?_, rfl, rfl, trivial⟩
        · show Sl.own 1 (.lst ((S.work k).done.map eNat)) = _
          rw [hw]
        · show Sl.own 1 (.lst ((S.work k).units.map eNat)) = _
          rw [hw]
      · have hw := work_no hkS (by rw [ekc]; exact hb)
        refine ⟨(S.turn (some k), f ++ [some k]), ⟨tin, ht1, ht2, ht3, by simp [hfl], by omega, by rw [show 600 - (now + 1) = n by omega]; exact hl⟩, ?_⟩
        rw [hu'] at h14
        refine h14.wk ⟨rfl, rfl, rfl, ?_, ?_, rfl, rfl, trivial⟩
        · show Sl.own 1 (.lst ((S.work k).done.map eNat)) = _
          rw [hw]
        · show Sl.own 1 (.lst ((S.work k).units.map eNat)) = _
          rw [hw]
  · obtain ⟨S, f⟩ := s
    obtain ⟨hin, hts, hpat, hpr2, hfl, hi600, hl⟩ := is
    simp only at hin hts hpat hpr2 hfl hl
    rw [List.length_range] at hl hfl
    have hl : (S, f) = R := hl
    subst hl
    exact ⟨h3.wk ⟨rfl, rfl, rfl, rfl, rfl, rfl, trivial⟩, hin, hts, hpat, by show f.length ≤ 600; omega⟩
  · obtain ⟨h3, hin, hts, hpat, hlen⟩ := hM
    refine ss_mid (M := fun σ H => At K (TT K) [⟨[], H0, W, none⟩] [.d (eTasks ts), .d (ePat pat), .d (.str pr), .own 0 (.lst (R.1.done.map eNat)), .own 0 (.lst (R.1.units.map eNat)), .own 0 (.lst ((trim R.2).map eOpt)), .un, .un, .un, .un, .un, .un, .un, .un, .un] σ H)
      (s_while (S := List (Option Nat)) (fun f => trim f = trim R.2 ∧ f.length ≤ 600) (fun f => [.d (eTasks ts), .d (ePat pat), .d (.str pr), .own 0 (.lst (R.1.done.map eNat)), .own 0 (.lst (R.1.units.map eNat)), .own 0 (.lst (f.map eOpt)), .un, .un, .un, .un, .un, .un, .un, .un, .un]) (fun f => f.length) (fun f => !f.isEmpty && (lastO f).isNone) R.2 h3 ⟨rfl, hlen⟩ ⟨rfl, rfl, rfl, rfl, rfl, rfl, trivial⟩
      (fun f is => B.eq (b_bw (bw_and (b_neNil hu64 (vr 5 rfl) cmp_opts) fun hb => (bw_and1 (b_is (e_ix hu (vr 5 rfl) (e_neg e_int) (ix_last (f := f) (by intro z; rw [z] at hb; cases hb))) e_no)))) (by rw [isNo_eOpt]; simp)) (fun f σ H is hcb h4 => ?_) fun f σ H is hcb h4 => ?_) fun σ H h4 => ?_
    · obtain ⟨hne, htr⟩ := trim_yes hcb
      refine ss_cons (s_cutLast (i := 5) h4 rfl (by simpa using hne) (fun σ H h5 => ?_) nd)
      have hlt : f.dropLast.length < f.length := by
        have := List.length_pos_iff.mpr hne
        rw [List.length_dropLast]
        omega
      rw [drop_eOpt] at h5
      exact ss_nil ⟨f.dropLast, ⟨htr.trans is.1, by omega⟩, hlt, h5⟩
    · have := trim_no hcb
      rw [← is.1, this]
      exact h4
    · have h5 := ((h4.frz (i := 5) rfl).frz (i := 4) rfl).frz (i := 3) rfl
      have h5 : At K (TT K) [⟨[], H0, W, none⟩] [.d (eTasks ts), .d (ePat pat), .d (.str pr), .d (.lst (R.1.done.map eNat)), .d (.lst (R.1.units.map eNat)), .d (.lst ((trim R.2).map eOpt)), .un, .un, .un, .un, .un, .un, .un, .un, .un] σ H := h5
      have hdl : R.1.done.length = ts.length := by rw [hin.ok.done, hts]
      refine ss_cons (s_ret h5 (ee_sh (e_tup (as_cons (vr 5 rfl) (as_cons (n_e (n_lc' [("_law_k", 11)] (List.range ts.length) eNat (fun a => [(11, eNat a)]) (fun k => decide (((uAt R.1.done k : Nat) : Int) < (((pat.getD k []).length : Nat) : Int))) eNat rfl nd (blk_of (by kernel_rfl)) (by simp; omega) (i_rng (n := ts.length) g.fr (E.eq (e_len g.fr (vr 0 rfl)) (by rw [List.length_map])) (by omega)) (fun a ha s H C cl fp => gd_name 11 nd)
        (fun k hk s H C cl fp => bs_one (B.eq (b_lt (e_ix hu (vr 3 rfl) (vr 11 rfl) (ix_lst (uAt_get (us := R.1.done) (k := k) (by have := List.mem_range.mp hk; omega)))) (e_len g.fr (e_ix hu (vr 1 rfl) (vr 11 rfl) (ix_tup (getD_ix (d := []) (by have := List.mem_range.mp hk; omega)))))) (by simp))) (fun a ha hb s H C cl fp => (vr 11 rfl)))) (as_cons (vr 4 rfl) as_nil))))) (fin0 hq ?_))
      unfold runP
      rw [hR]
      rfl
end
end Ev31
/-! ## LH -/
set_option maxHeartbeats 4000000
/-! The law's own: the rows. -/
namespace Ev31
open PySem PySem.Spec PyProof.Rows L2 Gx Dv
def optV : Option Nat → V
  | none => .non
  | some k => .int k
theorem atom_eOpt (o : Option Nat) : atom (eOpt o) = some (optV o) := by cases o <;> rfl
theorem scal_opt (o : Option Nat) (k : Int) : scal (optV o) (.int k) = true := by cases o <;> rfl
theorem optV_eq (o : Option Nat) (k : Nat) : decide (optV o = V.int (k : Nat)) = (o == some k) := by
  cases o with
  | none => rfl
  | some j =>
    rw [Bool.eq_iff_iff]
    simp only [decide_eq_true_iff, beq_iff_eq, Option.some.injEq]
    constructor
    · intro h
      injection h with h
      exact Int.ofNat.inj h
    · intro h
      rw [h]
      rfl
theorem end_le {c k number : Nat} {us : List (Option Nat)} (hc : 0 < c) : endN c k us number ≤ us.length := by
  have hmul : (number + 1) * c = number * c + c := Nat.succ_mul _ _
  unfold endN
  split
  · rename_i h
    exact Nat.le_of_lt (own_get (by rw [hmul] at h ⊢; omega)).1
  · exact Nat.le_refl _
theorem beg_le {c k number : Nat} {us : List (Option Nat)} : begN c k us number ≤ us.length := by
  unfold begN
  split
  · rename_i h
    exact (own_get (by omega)).1
  · exact Nat.zero_le _
section
variable {P : Program} {w : World} {K : PySem.W.Frag} {mg : Str → Option Value} {base h : Heap}
def R_lrows (ds : List D) (d : D) : Prop := ∃ (ts : List Task) (pat : List (List Int)) (us : List (Option Nat)), ds = [eTasks ts, ePat pat, .lst (us.map eOpt)] ∧ d = .lst ((rowsP ts pat us).map eRows) ∧ GoodTs ts ∧ GoodPat ts pat ∧ us.length ≤ 1000
abbrev n__law_rows : List Str := ["_law_tasks", "_law_pattern", "_law_units", "_law_found", "_law_k", "_law_rows_here", "_law_number", "_law_own", "_law_now", "_law_begin", "_law_end", "_law_is_first", "_law_some"]
theorem sc__law_rows : FnScope n__law_rows ["_law_tasks", "_law_pattern", "_law_units"] (defScope s_law_rows) := ⟨rfl, rfl, rfl, by decide +kernel, rfl, by decide +kernel, by decide +kernel⟩
theorem ok__law_rows (g : Pg w K mg base h) : FnC P w K mg base (TT K) "_law_rows" 1 R_lrows := by
  obtain ⟨fd, F⟩ := g.d__law_rows
  refine fnC_of F g.a__law_rows sc__law_rows (fun ds d ⟨_, _, _, e, _⟩ => by rw [e]; rfl) (fun _ _ _ _ _ _ us hl => match us, hl with | [_, _, _], _ => rfl) ?_
  rintro cdv A outer s H0 Q Ex0 ds d W hcd hr ⟨ts, pat, us, rfl, rfl, gt, gp, hul⟩ hq σ H hat
  have hu := hu_of hr
  have nd := sc__law_rows.nd
  have hm := gt.most
  have hpl := gp.len
  have h0 : At K (TT K) [⟨[], H0, W, none⟩] [.d (eTasks ts), .d (ePat pat), .d (.lst (us.map eOpt)), .un, .un, .un, .un, .un, .un, .un, .un, .un, .un] σ H := hat
  refine ss_cons (s_new h0 (nn_sh (n_lst as_nil)) (fun σ H h1 => ?_) (i := 3) nd rfl (Or.inl rfl))
  refine ss_cons (s_for (as := List.range ts.length) (ed := eNat) (ps := fun a => [(4, eNat a)]) (fun i => [.d (eTasks ts), .d (ePat pat), .d (.lst (us.map eOpt)), .own 1 (.lst ((pat.zipIdx.take i).map fun q => eRows (rowsK (cost ts q.2).toNat q.1 q.2 us))), .un, .un, .un, .un, .un, .un, .un, .un, .un]) rfl h1 (i_rng (n := ts.length) g.fr (E.eq (e_len g.fr (vr 0 rfl)) (by rw [List.length_map])) (by omega)) ⟨rfl, rfl, rfl, rfl, trivial⟩ (fun i a hia => gd_name 4 nd) (fun b0 i k σ H hia h2 => ?_) fun σ H h2 => ?_)
  · have hik : k = i ∧ i < ts.length := by
      have h1 := (List.getElem?_eq_some_iff.mp hia).1
      rw [List.length_range] at h1
      rw [List.getElem?_range h1] at hia
      exact ⟨(Option.some.inj hia).symm, h1⟩
    obtain ⟨rfl, hk⟩ := hik
    have ek := get_ix hk
    have hkp : k < pat.length := by omega
    have ep : pat[k]? = some pat[k] := List.getElem?_eq_getElem hkp
    have ez : pat.zipIdx[k]? = some (pat[k], k) := by
      rw [List.getElem?_zipIdx, ep]
      simp
    have gc := good_cost gt hk
    have hck := cost_get hk
    have hc : ((cost ts k).toNat : Int) = ts[k].1 := by
      rw [← cost_get hk]
      omega
    have hc0 : 0 < (cost ts k).toNat := by omega
    have hal := few_arr gp (List.getElem_mem hkp)
    have harr := gp.arr k ts[k] pat[k] ek ep
    refine ss_cons (s_new h2 (nn_sh (n_lst as_nil)) (fun σ H h3 => ?_) (i := 5) nd rfl (Or.inl rfl))
    refine ss_cons (s_for (as := List.range pat[k].length) (ed := eNat) (ps := fun a => [(6, eNat a)]) (fun n => [.d (eTasks ts), .d (ePat pat), .d (.lst (us.map eOpt)), .own 2 (.lst ((pat.zipIdx.take k).map fun q => eRows (rowsK (cost ts q.2).toNat q.1 q.2 us))), .d (eNat k), .own 1 (.lst (((List.range n).map (rowL (cost ts k).toNat pat[k] k us)).map eRow)), .un, .un, .un, .un, .un, .un, .un]) rfl h3 (i_rng (n := pat[k].length) g.fr (E.eq (e_len g.fr (e_ix hu (vr 1 rfl) (vr 4 rfl) (ix_tup ep))) (by rw [List.length_map])) (by omega)) ⟨rfl, rfl, rfl, rfl, rfl, rfl, trivial⟩ (fun i a hia => gd_name 6 nd) (fun b1 j number σ H hja h4 => ?_) fun σ H h4 => ?_)
    · have hjk : number = j ∧ j < pat[k].length := by
        have h1 := (List.getElem?_eq_some_iff.mp hja).1
        rw [List.length_range] at h1
        rw [List.getElem?_range h1] at hja
        exact ⟨(Option.some.inj hja).symm, h1⟩
      obtain ⟨rfl, hnum⟩ := hjk
      obtain ⟨c, hcc⟩ : ∃ c, c = (cost ts k).toNat := ⟨_, rfl⟩
      rw [← hcc] at hc hc0
      have e0 : ∀ now, now < us.length → ixF (.lst (us.map eOpt)) (.int (now : Nat)) = some (eOpt (uv us now)) := fun now hn => ix_lst (getD_ix (d := none) hn)
      have hmc : ∀ n : Nat, (n : Int) * ts[k].1 = ((n * c : Nat) : Int) := fun n => by rw [← hc]; simp
      have hmc1 : ((number : Int) + 1) * ts[k].1 = (((number + 1) * c : Nat) : Int) := by rw [← hc]; simp
      have hn40 : number ≤ 40 := by omega
      refine ss_cons (s_lc (i := 7) [("_law_now", 8)] (List.range us.length) eNat (fun a => [(8, eNat a)]) (fun now => uv us now == some k) eNat h4 rfl nd (blk_of (by kernel_rfl)) (by simp; omega) (i_rng (n := us.length) g.fr (E.eq (e_len g.fr (vr 2 rfl)) (by rw [List.length_map])) (by omega)) (fun a ha s H C cl fp => gd_name 8 nd) (fun now hnow s H C cl fp => bs_one (B.eq (b_eq (e_ix hu (vr 2 rfl) (vr 8 rfl) (e0 now (List.mem_range.mp hnow))) (vr 4 rfl) (atom_eOpt _) rfl (scal_opt _ _)) (optV_eq _ _))) (fun a ha hb s H C cl fp => (vr 8 rfl)) (fun σ H h5 => ?_) rfl)
      have h5 : At K (TT K) [b1, b0, ⟨[], H0, W, none⟩] [.d (eTasks ts), .d (ePat pat), .d (.lst (us.map eOpt)), .own 2 (.lst ((pat.zipIdx.take k).map fun q => eRows (rowsK (cost ts q.2).toNat q.1 q.2 us))), .d (eNat k), .own 1 (.lst (((List.range number).map (rowL (cost ts k).toNat pat[k] k us)).map eRow)), .d (eNat number), .d (.lst ((ownN k us).map eNat)), .un, .un, .un, .un, .un] σ H := h5
      have hol : (((ownN k us).map eNat).length : Int) = ((ownN k us).length : Nat) := by rw [List.length_map]
      have hoL : (ownN k us).length ≤ us.length := by
        unfold ownN
        have := List.length_filter_le (fun now => uv us now == some k) (List.range us.length)
        simpa using this
      have mulE : ∀ {X : Cx} {Γ : List (Option D)}, True := trivial
      refine ss_cons (s_asg h5 (d := .int (begN c k us number : Nat)) (ee_sh (e_ifx (b_chain op_lt op_le o_I0b (fun _ => o_I0b) e_int (e_mul (vr 6 rfl) (e_ix hu (e_ix hu (vr 0 rfl) (vr 4 rfl) (ix_tup ek)) e_int rfl) (.inl (by omega))) (fun _ => (e_len g.fr (vr 7 rfl)))) (fun hb => ?_) fun hb => ?_)) (fun σ H h6 => ?_) (i := 9) nd rfl (Or.inl rfl))
      · rw [Bool.and_eq_true, decide_eq_true_iff, decide_eq_true_iff, hmc, hol] at hb
        have h1 : 0 < number * c ∧ number * c ≤ (ownN k us).length := by omega
        refine E.eq (e_add (e_ix hu (vr 7 rfl) (e_sub (e_mul (vr 6 rfl) (e_ix hu (e_ix hu (vr 0 rfl) (vr 4 rfl) (ix_tup ek)) e_int rfl) (.inl (by omega))) e_int) (ix_lstI (e := eNat) (number * c - 1) (by rw [hmc]; omega) (getD_ix (d := 0) (by omega)))) e_int) ?_
        unfold begN
        rw [if_pos h1]
        rfl
      · rw [Bool.and_eq_false_iff, decide_eq_false_iff_not, decide_eq_false_iff_not, hmc, hol] at hb
        refine E.eq e_int ?_
        unfold begN
        rw [if_neg (by omega)]
        rfl
      refine ss_cons (s_asg h6 (d := .int (endN c k us number : Nat)) (ee_sh (e_ifx (b_le (e_mul (e_add (vr 6 rfl) e_int) (e_ix hu (e_ix hu (vr 0 rfl) (vr 4 rfl) (ix_tup ek)) e_int rfl) (.inl (by omega))) (e_len g.fr (vr 7 rfl))) (fun hb => ?_) fun hb => ?_)) (fun σ H h7 => ?_) (i := 10) nd rfl (Or.inl rfl))
      · rw [decide_eq_true_iff, hmc1, hol] at hb
        have h1 : (number + 1) * c ≤ (ownN k us).length := by omega
        have h2 : 0 < (number + 1) * c := Nat.mul_pos (by omega) hc0
        refine E.eq (e_ix hu (vr 7 rfl) (e_sub (e_mul (e_add (vr 6 rfl) e_int) (e_ix hu (e_ix hu (vr 0 rfl) (vr 4 rfl) (ix_tup ek)) e_int rfl) (.inl (by omega))) e_int) (ix_lstI (e := eNat) ((number + 1) * c - 1) (by rw [hmc1]; omega) (getD_ix (d := 0) (by omega)))) ?_
        unfold endN
        rw [if_pos h1]
        rfl
      · rw [decide_eq_false_iff_not, hmc1, hol] at hb
        refine E.eq (e_len g.fr (vr 2 rfl)) ?_
        unfold endN
        rw [if_neg (by omega), List.length_map]
      refine ss_cons (s_asg h7 (d := .bl (decide (number * c ≤ (ownN k us).length))) (ee_sh (E.eq (e_le (e_mul (vr 6 rfl) (e_ix hu (e_ix hu (vr 0 rfl) (vr 4 rfl) (ix_tup ek)) e_int rfl) (.inl (by omega))) (e_len g.fr (vr 7 rfl))) (by
        rw [hmc, hol]
        congr 1
        exact decide_eq_decide.mpr Int.ofNat_le))) (fun σ H h8 => ?_) (i := 11) nd rfl (Or.inl rfl))
      have ha0 : 0 ≤ pat[k].getD number 0 := by
        have := (harr number (pat[k].getD number 0) (getD_ix hnum)).1
        simp [isIn] at this
        simpa using this.1
      refine ss_cons (s_asg h8 (d := .int (max (begN c k us number) (pat[k].getD number 0).toNat : Nat)) (ee_sh (E.eq (e_max2 g.fr rfl (as_cons (vr 9 rfl) (as_cons (e_ix hu (e_ix hu (vr 1 rfl) (vr 4 rfl) (ix_tup ep)) (vr 6 rfl) (ix_tup (getD_ix (d := 0) hnum))) as_nil))) (congrArg D.int (by omega)))) (fun σ H h9 => ?_) (i := 9) nd rfl (Or.inl rfl))
      have hb1 := beg_le (c := c) (k := k) (us := us) (number := number)
      have he1 := end_le (c := c) (k := k) (us := us) (number := number) hc0
      have ha100 : pat[k].getD number 0 ≤ 100 := by
        have := (harr number (pat[k].getD number 0) (getD_ix hnum)).1
        simp [isIn] at this
        simpa using this.2
      generalize hbg : max (begN c k us number) (pat[k].getD number 0).toNat = bg at h9
      generalize hen : endN c k us number = en at h9 he1
      have hbl : bg ≤ 2000 := by omega
      refine ss_cons (s_lc (i := 12) [("_law_now", 8)] (List.range' bg (en - bg)) eNat (fun a => [(8, eNat a)]) (fun now => low k (uv us now)) (fun now => eNat ((uv us now).getD 0)) h9 rfl nd (blk_of (by kernel_rfl)) (by simp; omega) (i_rngR (lo := bg) (hi := en) g.fr (vr 9 rfl) (vr 10 rfl) (by omega)) (fun a ha s H C cl fp => gd_name 8 nd) (fun now hnow s H C cl fp => ?_) (fun now hnow hb s H C cl fp => ?_) (fun σ H h10 => ?_) rfl)
      · have hnl : now < us.length := by
          have := List.mem_range'_1.mp hnow
          omega
        cases ho : uv us now with
        | none =>
          refine bs_one (B.eq (b_bw (bw_and (p := false) (q := false) (B.eq (b_isn (e_ix hu (vr 2 rfl) (vr 8 rfl) (e0 now hnl)) e_no) (by rw [ho]; rfl)) fun hb => nomatch hb)) rfl)
        | some j =>
          refine bs_one (B.eq (b_bw (bw_and (p := true) (B.eq (b_isn (e_ix hu (vr 2 rfl) (vr 8 rfl) (e0 now hnl)) e_no) (by rw [ho]; rfl)) fun _ => bw_and1 (b_gt (i := (j : Nat)) (E.eq (e_ix hu (vr 2 rfl) (vr 8 rfl) (e0 now hnl)) (by rw [ho]; rfl)) (vr 4 rfl)))) ?_)
          simp [low]
      · have hnl : now < us.length := by
          have := List.mem_range'_1.mp hnow
          omega
        refine E.eq (e_ix hu (vr 2 rfl) (vr 8 rfl) (e0 now hnl)) ?_
        cases ho : uv us now with
        | none => rw [ho] at hb; cases hb
        | some j => rfl
      refine ss_cons (s_app h10 (i := 5) rfl (ee_sh (e_ifx (d := eRow (rowL c pat[k] k us number)) (b_val (vr 11 rfl)) (fun hb => E.eq (vr 12 rfl) ?_) fun hb => E.eq (n_e (n_lst as_nil)) ?_)) (by simp; omega) (fun σ H h11 => ss_nil ?_) rfl (Or.inl rfl))
      · have hb := of_decide_eq_true hb
        unfold rowL eRow
        rw [if_pos hb, hbg, hen, List.map_map]
        rfl
      · have hb := of_decide_eq_false hb
        unfold rowL eRow
        rw [if_neg hb]
        rfl
      · refine h11.wk ⟨rfl, rfl, rfl, rfl, rfl, ?_, trivial⟩
        show Sl.own 1 _ = Sl.own 1 _
        rw [List.range_succ, List.map_append, List.map_append, hcc]
        rfl
    · have h5 := h4.frz (i := 5) rfl
      refine ss_cons (s_app h5 (i := 3) rfl (ee_sh (vr 5 rfl)) (by rw [List.length_map, List.length_take, List.length_zipIdx]; omega) (fun σ H h6 => ss_nil ?_) rfl (Or.inl rfl))
      refine h6.wk ⟨rfl, rfl, rfl, ?_, trivial⟩
      show Sl.own 1 _ = Sl.own 1 _
      rw [take_snoc ez, List.map_append, List.length_range]
      have hrow : rowsK (cost ts k).toNat pat[k] k us = (List.range pat[k].length).map (rowL (cost ts k).toNat pat[k] k us) := by
        rw [rowsK_eq]
        apply List.map_congr_left
        intro number hn
        have hn := List.mem_range.mp hn
        have := (harr number (pat[k].getD number 0) (getD_ix hn)).1
        simp [isIn] at this
        exact (rowL_eq hc0 hn (by simpa using this.1)).symm
      show Sl.own 1 (D.lst (_ ++ [eRows (rowsK (cost ts k).toNat pat[k] k us)])) = _
      rw [hrow]
      rfl
  · have h3 := h2.frz (i := 3) rfl
    refine ss_cons (s_ret h3 (ee_sh (vr 3 rfl)) (fin0 hq ?_))
    rw [List.length_range, List.take_of_length_le (by rw [List.length_zipIdx]; omega)]
    unfold rowsP
    rw [List.map_map]
    rfl
end
end Ev31
/-! ## P8 -/
set_option maxHeartbeats 4000000
/-! The run is short; what is asked of the rows. -/
namespace Ev31
open PySem L2 Dv Gx
theorem sum_le {f : Nat → Nat} {c : Nat} : ∀ (l : List Nat), (∀ x ∈ l, f x ≤ c) → (l.map f).sum ≤ c * l.length
  | [], _ => by simp
  | a :: l, h => by
    have h1 := h a List.mem_cons_self
    have h2 := sum_le l fun x hx => h x (List.mem_cons_of_mem _ hx)
    simp only [List.map_cons, List.sum_cons, List.length_cons]
    rw [Nat.mul_succ]
    omega
theorem foldr_max_le {c : Nat} : ∀ (l : List Nat), (∀ x ∈ l, x ≤ c) → l.foldr max 0 ≤ c
  | [], _ => Nat.zero_le _
  | a :: l, h => by
    have h1 := h a List.mem_cons_self
    have h2 := foldr_max_le l fun x hx => h x (List.mem_cons_of_mem _ hx)
    rw [List.foldr_cons]
    omega
theorem mu_short {ts : List Task} {pat : List (List Int)} {pr : Str} (dt : DrawnT ts) (dp : DrawnP ts pat) : mu (Lk.new ts pat pr) 0 < 600 := by
  have hm := dt.most
  have h1 : rest (Lk.new ts pat pr) ≤ 42 * 4 := by
    unfold rest
    refine Nat.le_trans (sum_le (c := 42) _ fun k hk => ?_) ?_
    · have hk : k < ts.length := List.mem_range.mp hk
      have hkp : k < pat.length := by rw [dp.good.len]; exact hk
      unfold restAt
      have : (pat.getD k []).length ≤ 2 := by
        rw [List.getD_eq_getElem?_getD, List.getElem?_eq_getElem hkp]
        exact (dp.few _ (List.getElem_mem hkp)).2
      show 21 * ((pat.getD k []).length - _) - _ ≤ 42
      omega
    · show 42 * (List.range ts.length).length ≤ _
      rw [List.length_range]
      omega
  have h2 : lastA pat ≤ 100 := by
    unfold lastA
    refine foldr_max_le _ fun x hx => ?_
    obtain ⟨y, hy, rfl⟩ := List.mem_map.mp hx
    obtain ⟨a, ha, hya⟩ := List.mem_flatten.mp hy
    obtain ⟨k, hk, rfl⟩ := List.mem_iff_getElem.mp ha
    obtain ⟨i, hi, rfl⟩ := List.mem_iff_getElem.mp hya
    have hkt : k < ts.length := by rw [← dp.good.len]; exact hk
    have := (dp.good.arr k ts[k] pat[k] (List.getElem?_eq_getElem hkt) (List.getElem?_eq_getElem hk) i _ (List.getElem?_eq_getElem hi)).1
    simp [isIn] at this
    omega
  unfold mu
  show rest _ + (lastA pat - 0) < 600
  omega
theorem asc_one {l : List Int} {j : Int} (h : l.Pairwise (· < ·)) (hj : ∀ x ∈ l, x = j) : l.length ≤ 1 := by
  match l, h, hj with
  | [], _, _ => exact Nat.zero_le _
  | [a], _, _ => exact Nat.le_refl _
  | a :: b :: l, h, hj =>
    exfalso
    have h1 := (List.pairwise_cons.mp h).1 b List.mem_cons_self
    have h2 := hj a List.mem_cons_self
    have h3 := hj b (List.mem_cons_of_mem _ List.mem_cons_self)
    omega
theorem rows_at {ts : List Task} {pat : List (List Int)} {us : List (Option Nat)} {k : Nat} (hk : k < pat.length) : (rowsP ts pat us)[k]? = some (rowsK (cost ts k).toNat pat[k] k us) := by
  unfold rowsP
  rw [List.getElem?_map, List.getElem?_zipIdx, List.getElem?_eq_getElem hk]
  simp
theorem rows_blocked {ts : List Task} {pat : List (List Int)} {pr : Str} (gt : GoodTs ts) (gp : GoodPat ts pat) (hp : pr = "ceiling" ∨ pr = "stack") {n k : Nat} (hk : k < ts.length) {r : Row} (hr : r ∈ rowsK (cost ts k).toNat (pat.getD k []) k (runP n (Lk.new ts pat pr)).1) :
    ((r.length : Nat) : Int) ≤ wblock ts k ∧ (who r).length ≤ 1 := by
  have hprots : pr ∈ prots := by
    rcases hp with rfl | rfl
    · decide
    · decide
  have hin := new_in gt gp hprots
  have h0 : ∀ k, uAt (Lk.new ts pat pr).done k = 0 ∧ uAt (Lk.new ts pat pr).units k = 0 := fun k => new_zero k
  have P : Prot (Lk.new ts pat pr) := by
    rcases hp with rfl | rfl
    · exact ceil_prot hin h0 rfl
    · exact stack_prot hin h0 rfl
  obtain ⟨m, hm⟩ := runP_stN (Lk.new ts pat pr) n
  rw [hm, rowsK_eq] at hr
  obtain ⟨number, _, rfl⟩ := List.mem_map.mp hr
  obtain ⟨⟨j, hj⟩, hlen⟩ := row_good P h0 (k := k) (number := number) (m := m) hk
  refine ⟨hlen, ?_⟩
  unfold who
  refine asc_one (j := (j : Int)) (sset_asc _ _) fun x hx => ?_
  unfold sset at hx
  have hx := of_decide_eq_true (List.mem_filter.mp hx).2
  unfold ri at hx
  obtain ⟨t, ht, rfl⟩ := List.mem_map.mp hx
  rw [hj t ht]
theorem alk_many (rows : List (List Row)) (h1 : rows.length ≤ 1000) (h2 : ∀ l ∈ rows, l.length ≤ 1000) : AlkD 2 (eMany rows) := by
  refine .inr ⟨_, rfl, by rw [List.length_map]; exact h1, fun x hx => ?_⟩
  obtain ⟨l, hl, rfl⟩ := List.mem_map.mp hx
  refine .inr ⟨_, rfl, by rw [List.length_map]; exact h2 l hl, fun y hy => ?_⟩
  obtain ⟨r, _, rfl⟩ := List.mem_map.mp hy
  exact ⟨_, rfl⟩
theorem alk_who (rows : List (List Row)) (h1 : rows.length ≤ 1000) (h2 : ∀ l ∈ rows, l.length ≤ 1000) : AlkD 3 (eWho rows) := by
  refine .inr ⟨_, rfl, by rw [List.length_map]; exact h1, fun x hx => ?_⟩
  obtain ⟨l, hl, rfl⟩ := List.mem_map.mp hx
  refine .inr ⟨_, rfl, by rw [List.length_map]; exact h2 l hl, fun y hy => ?_⟩
  obtain ⟨r, _, rfl⟩ := List.mem_map.mp hy
  refine .inr ⟨_, rfl, ?_, fun z hz => ?_⟩
  · rw [List.length_map]
    unfold who sset
    have := List.length_filter_le (fun x => decide (x ∈ ri r)) ((List.range 5).map fun (i : Nat) => (i : Int))
    simp at this
    simp
    omega
  · obtain ⟨i, _, rfl⟩ := List.mem_map.mp hz
    exact ⟨_, rfl⟩
end Ev31
/-! ## LI -/
set_option maxHeartbeats 4000000
/-! The law. -/
namespace Ev31
open PySem PySem.Spec PyProof.Rows L2 Gx Dv
section
variable {P : Program} {w : World} {K : PySem.W.Frag} {mg : Str → Option Value} {base h : Heap}
def R_law (ds : List D) (d : D) : Prop := ∃ ns : List Int, ds = [.lst (ns.map .int)] ∧ d = .bl true
abbrev n_law : List Str := ["_law_script", "_law_row", "_law_tasks", "_law_pattern", "_law_worst", "_law_k", "_law_protocol", "_law_rows_here", "_law_many", "_law_some", "_law_one", "_law_who"]
theorem sc_law : FnScope n_law ["_law_script"] (defScope s_law) := ⟨rfl, rfl, rfl, by decide +kernel, rfl, by decide +kernel, by decide +kernel⟩
theorem len_nat (l : List D) : ∀ n : Nat, l.length = n → ((l.length : Nat) : Int) = (n : Int) := fun n h => by rw [h]
theorem ok_law (g : Pg w K mg base h) {fd : FuncData} (F : FunD K "law" "law" (defArgs s_law) (defBody s_law) (defScope s_law) [] [] (He.fAd K ("law", none)) fd) : FnOk P w K mg base CX0 12 (He.fAd K ("law", none)) fd ["_law_script"] (spP K (TT K) R_law) := by
  have c_locked := ok__law_locked (P := P) g
  have c_arrivals := ok__law_arrivals (P := P) g
  have c_worst := ok_worst_blocking (P := P) g
  have c_run := ok__law_run (P := P) g
  have c_rows := ok__law_rows (P := P) g
  have c_many := ok_blocked_units (P := P) g 600
  have c_who := ok_blockers (P := P) g 600
  have c_alike2 := ok__law_alike (P := P) g 2
  have c_alike3 := ok__law_alike (P := P) g 3
  refine fnok_of F sc_law (fun ds d ⟨_, e, _⟩ => by rw [e]; rfl) ?_
  rintro cdv A outer s H0 Q Ex0 ds d W hcd hr ⟨ns, rfl, rfl⟩ hq σ H hat
  have hu := hu_of hr
  have hu64 := hu64_of hr
  have nd := sc_law.nd
  have h0 : At K (TT K) [⟨[], H0, W, none⟩] [.d (.lst (ns.map .int)), .un, .un, .un, .un, .un, .un, .un, .un, .un, .un, .un] σ H := hat
  refine ss_cons (s_new h0 (nn_sh (n_lst (as_cons (vr 0 rfl) (as_cons e_int (as_cons e_int (as_cons e_int as_nil)))))) (fun σ H h1 => ?_) (i := 1) nd rfl (Or.inl rfl))
  refine ss_cons (s_asgS (i := 1) (m := 0) (j := 2) (Rw := RowD) (R := fun d => ∃ ts : List Task, d = eTasks ts ∧ DrawnT ts) h1 rfl (RowD.mk ns 0 3231 0 (by omega) (by omega) (by omega)) (es_call (Rs := fun ds => ds = [.int 4]) c_locked (hr.mono (by decide)) (fun x W ft σ H hx w Q k => es_cons (R := RI fun n => n = 4) (es_i e_int rfl) (fun _ _ => es_nil) rfl x W ft σ H hx w Q fun ds vs y W' ft' H' ⟨d, r, e1, ⟨n, e2, e3⟩, e4⟩ => k ds vs y W' ft' H' (by rw [e1, e2, e3, e4])) (fun x ds hx e => ⟨hx, e⟩) (fun x ds y d _ e ⟨h1, ts, e2, h3⟩ => ⟨h1, ts, e2, h3⟩) lt_ok) (fun d y σ H hd hy h2 => ?_) nd)
  obtain ⟨ts, rfl, dt⟩ := hd
  have h2 : At K (TT K) [⟨[], H0, W, none⟩] [.d (.lst (ns.map .int)), .own 0 y, .d (eTasks ts), .un, .un, .un, .un, .un, .un, .un, .un, .un] σ H := h2
  refine ss_cons (s_asgS (i := 1) (m := 0) (j := 3) (Rw := RowD) (R := fun d => ∃ pat : List (List Int), d = ePat pat ∧ DrawnP ts pat) h2 rfl hy (es_call (Rs := fun ds => ds = [eTasks ts]) c_arrivals (hr.mono (by decide)) (fun x W ft σ H hx w Q k => es_cons (R := fun d => d = eTasks ts) (es_e (vr 2 rfl) rfl) (fun _ _ => es_nil) rfl x W ft σ H hx w Q fun ds vs y W' ft' H' ⟨d, r, e1, e2, e3⟩ => k ds vs y W' ft' H' (by rw [e1, e2, e3])) (fun x ds hx e => ⟨hx, ts, e, dt⟩) (fun x ds y d _ e ⟨h1, ts', pat, e2, e3, h4⟩ => ⟨h1, pat, e3, ?_⟩) lt_ok) (fun d y σ H hd hy h3 => ?_) nd)
  · rw [e] at e2
    have e5 : eTasks ts = eTasks ts' := by injection e2
    have : ts = ts' := by
      have inj : ∀ a b : Task, eTask a = eTask b → a = b := fun a b e => by
        obtain ⟨a1, a2, a3⟩ := a
        obtain ⟨b1, b2, b3⟩ := b
        unfold eTask at e
        injection e with e
        simp only [List.cons.injEq, D.int.injEq, D.tup.injEq, and_true] at e
        obtain ⟨rfl, rfl, e⟩ := e
        have : a3 = b3 := (List.map_inj_right (fun x y z => by
          obtain ⟨x1, x2, x3⟩ := x
          obtain ⟨y1, y2, y3⟩ := y
          unfold eSec at z
          injection z with z
          simp only [List.cons.injEq, D.int.injEq, and_true] at z
          obtain ⟨rfl, rfl, rfl⟩ := z
          rfl)).mp e
        rw [this]
      unfold eTasks at e5
      injection e5 with e5
      exact (List.map_inj_right inj).mp e5
    rw [this]
    exact h4
  obtain ⟨pat, rfl, dp⟩ := hd
  have gt := dt.good
  have gp := dp.good
  have hm := dt.most
  have hpl := gp.len
  have h3 : At K (TT K) [⟨[], H0, W, none⟩] [.un, .un, .d (eTasks ts), .d (ePat pat), .un, .un, .un, .un, .un, .un, .un, .un] σ H := h3.wk ⟨rfl, rfl, trivial⟩
  refine ss_cons (s_asg h3 (d := .lst ((List.range ts.length).map fun k => .int (wblock ts k))) (ee_sh (E.eq (n_e (n_lc' [("_law_k", 5)] (List.range ts.length) eNat (fun a => [(5, eNat a)]) (fun _ => true) (fun k => .int (wblock ts k)) rfl nd (blk_of (by kernel_rfl)) (by simp; omega) (i_rng (n := ts.length) g.fr (E.eq (e_len g.fr (vr 2 rfl)) (by rw [List.length_map])) (by omega)) (fun a ha s H C cl fp => gd_name 5 nd) (fun a ha s H C cl fp => bs_nil) (fun k hk hb s H C cl fp => (e_call c_worst (hr.mono (by decide)) (as_cons (vr 2 rfl) (as_cons (vr 5 rfl) as_nil)) ⟨ts, k, rfl, rfl, gt, List.mem_range.mp hk⟩)))) (by rw [Dv.filter_all]))) (fun σ H h4 => ?_) (i := 4) nd rfl (by first | exact Or.inl rfl | exact Or.inr rfl))
  refine ss_cons (s_for (as := prots) (ed := D.str) (ps := fun a => [(6, .str a)]) (fun i => [.un, .un, .d (eTasks ts), .d (ePat pat), .d (.lst ((List.range ts.length).map fun k => .int (wblock ts k))), .un, .un, .un, .un, .un, .un, .un]) rfl h4 (i_lst (n_e (n_lst (as_cons e_str (as_cons e_str (as_cons e_str (as_cons e_str as_nil))))))) ⟨rfl, rfl, rfl, trivial⟩ (fun i a hia => gd_name 6 nd) (fun b0 i pr σ H hia h5 => ?_) fun σ H h5 => ?_)
  · have hpr : pr ∈ prots := List.mem_of_getElem? hia
    have hmu := mu_short (pr := pr) dt dp
    obtain ⟨us, hus⟩ : ∃ us, us = (runP 600 (Lk.new ts pat pr)).1 := ⟨_, rfl⟩
    have hul : us.length ≤ 600 := by rw [hus]; exact runP_len 600 _
    obtain ⟨rows, hrows⟩ : ∃ rows, rows = rowsP ts pat us := ⟨_, rfl⟩
    have hrl : rows.length = ts.length := by
      rw [hrows]
      unfold rowsP
      rw [List.length_map, List.length_zipIdx]
      exact hpl
    have hal : ∀ l ∈ rows, l.length ≤ 1000 := fun l hl => by
      rw [hrows] at hl
      obtain ⟨a, ha, e⟩ := rows_len gp hl
      have := few_arr gp ha
      omega
    have hlt : ∀ l ∈ rows, ∀ r ∈ l, (∀ x ∈ ri r, 0 ≤ x ∧ x < ((5 : Nat) : Int)) ∧ r.length ≤ 600 := fun l hl r hr => by
      rw [hrows, hus] at hl
      exact rows_lt gt gp hpr hl hr
    have h5 : At K (TT K) [b0, ⟨[], H0, W, none⟩] [.un, .un, .d (eTasks ts), .d (ePat pat), .d (.lst ((List.range ts.length).map fun k => .int (wblock ts k))), .un, .d (.str pr), .un, .un, .un, .un, .un] σ H := h5
    refine ss_cons (s_asg h5 (d := .lst (rows.map eRows)) (ee_sh (e_call c_rows (hr.mono (by decide)) (as_cons (vr 2 rfl) (as_cons (vr 3 rfl) (as_cons (e_ix hu (e_call c_run (hr.mono (by decide)) (as_cons (vr 2 rfl) (as_cons (vr 3 rfl) (as_cons (vr 6 rfl) as_nil))) ⟨ts, pat, pr, rfl, rfl, gt, gp, hpr⟩) e_int rfl) as_nil))) ⟨ts, pat, us, by rw [hus], by rw [hrows], gt, gp, by omega⟩)) (fun σ H h6 => ?_) (i := 7) nd rfl (by first | exact Or.inl rfl | exact Or.inr rfl))
    refine ss_cons (s_asg h6 (d := eMany rows) (ee_sh (E.eq (e_tupL g.fr (n_e (n_lc' [("_law_one", 10)] rows eRows (fun a => [(10, eRows a)]) (fun _ => true) (fun l => .tup (l.map fun r => .int (r.length : Nat))) rfl nd (blk_of (by kernel_rfl)) (by omega) (i_lst (vr 7 rfl)) (fun a ha s H C cl fp => gd_name 10 nd) (fun a ha s H C cl fp => bs_nil)
      (fun l hl hb s H C cl fp => E.eq (e_tupL g.fr (n_e (n_lc' [("_law_some", 9)] l eRow (fun a => [(9, eRow a)]) (fun _ => true) (fun r => .int (r.length : Nat)) rfl nd (blk_of (by kernel_rfl)) (by have := hal l hl; omega) (i_lst (vr 10 rfl)) (fun a ha s H C cl fp => gd_name 9 nd) (fun a ha s H C cl fp => bs_nil) (fun a ha hb s H C cl fp => E.eq (e_len g.fr (vr 9 rfl)) (by rw [List.length_map]))))) (by rw [Dv.filter_all]))))) (by rw [Dv.filter_all]; rfl))) (fun σ H h7 => ?_) (i := 8) nd rfl (by first | exact Or.inl rfl | exact Or.inr rfl))
    refine ss_cons (s_new h7 (nn_sh (n_lst as_nil)) (fun σ H h8 => ?_) (i := 11) nd rfl (by first | exact Or.inl rfl | exact Or.inr rfl))
    refine ss_cons (s_for (as := rows) (ed := eRows) (ps := fun a => [(10, eRows a)]) (fun i => [.un, .un, .d (eTasks ts), .d (ePat pat), .d (.lst ((List.range ts.length).map fun k => .int (wblock ts k))), .un, .d (.str pr), .un, .d (eMany rows), .un, .un, .own 1 (.lst ((rows.take i).map fun l => .tup (l.map fun r => .tup ((who r).map .int))))]) rfl h8 (i_lst (vr 7 rfl)) ⟨rfl, rfl, rfl, rfl, rfl, rfl, trivial⟩ (fun i a hia => gd_name 10 nd) (fun b1 j l σ H hja h9 => ?_) fun σ H h9 => ?_)
    · have hl : l ∈ rows := List.mem_of_getElem? hja
      refine ss_cons (s_app h9 (i := 11) rfl (ee_sh (E.eq (e_tupL g.fr (n_e (n_lc' [("_law_some", 9)] l eRow (fun a => [(9, eRow a)]) (fun _ => true) (fun r => .tup ((who r).map .int)) rfl nd (blk_of (by kernel_rfl)) (by have := hal l hl; omega) (i_lst (vr 10 rfl)) (fun a ha s H C cl fp => gd_name 9 nd) (fun a ha s H C cl fp => bs_nil)
        (fun r hr' hb s H C cl fp => e_tupL g.fr (n_e (n_sortSet 5 g.fr rfl (E.eq (vr 9 rfl) (eRow_ri r)) (by have := (hlt l hl r hr').2; unfold ri; rw [List.length_map]; omega) (by decide) (hlt l hl r hr').1)))))) (by rw [Dv.filter_all]))) (by rw [List.length_map, List.length_take]; omega) (fun σ H h10 => ss_nil ?_) rfl (by first | exact Or.inl rfl | exact Or.inr (Or.inl rfl) | exact Or.inr (Or.inr rfl)))
      refine h10.wk ⟨rfl, rfl, rfl, rfl, rfl, ?_, trivial⟩
      show Sl.own 1 _ = Sl.own 1 _
      rw [take_snoc hja, List.map_append]
      rfl
    · have h9 : At K (TT K) [b0, ⟨[], H0, W, none⟩] [.un, .un, .d (eTasks ts), .d (ePat pat), .d (.lst ((List.range ts.length).map fun k => .int (wblock ts k))), .un, .d (.str pr), .un, .d (eMany rows), .un, .un, .own 0 (.lst ((rows.take rows.length).map fun l => .tup (l.map fun r => .tup ((who r).map .int))))] σ H := h9
      rw [List.take_length] at h9
      refine ss_cons (s_skip h9 (B.eq (b_not (b_val (p := true) (e_call c_alike2 (hr.mono (by decide)) (as_cons (e_call c_many (hr.mono (by decide)) (as_cons (vr 2 rfl) (as_cons (vr 3 rfl) (as_cons (vr 6 rfl) as_nil))) ⟨ts, pat, pr, rfl, rfl, gt, gp, hpr, hmu, by omega⟩) (as_cons (vr 8 rfl) as_nil)) ⟨eMany rows, by rw [← hus, ← hrows], rfl, alk_many rows (by omega) hal⟩))) rfl) fun σ H h10 => ?_)
      refine ss_cons (s_skip h10 (B.eq (b_not (b_val (p := true) (e_call c_alike3 (hr.mono (by decide)) (as_cons (e_call c_who (hr.mono (by decide)) (as_cons (vr 2 rfl) (as_cons (vr 3 rfl) (as_cons (vr 6 rfl) as_nil))) ⟨ts, pat, pr, rfl, rfl, gt, gp, hpr, hmu, by omega⟩) (as_cons (e_tupL g.fr (vr 11 rfl)) as_nil)) ⟨eWho rows, by rw [← hus, ← hrows]; rfl, rfl, alk_who rows (by omega) hal⟩))) rfl) fun σ H h11 => ?_)
      refine ss_cons (s_if h11 (b := inV (.str pr) [.str "ceiling", .str "stack"]) (b_in (vr 6 rfl) (n_e (n_lst (as_cons e_str (as_cons e_str as_nil)))) rfl rfl rfl rfl rfl) (fun hb σ H h12 => ?_) fun hb σ H h12 => ss_nil (ss_nil (h12.wk ⟨rfl, rfl, rfl, trivial⟩)))
      have hcs : pr = "ceiling" ∨ pr = "stack" := by
        have : pr = "plain" ∨ pr = "inherit" ∨ pr = "ceiling" ∨ pr = "stack" := by simpa [prots] using hpr
        rcases this with e | e | e | e
        · rw [e] at hb; exact absurd hb (by decide)
        · rw [e] at hb; exact absurd hb (by decide)
        · exact .inl e
        · exact .inr e
      refine ss_cons (s_for (as := List.range ts.length) (ed := eNat) (ps := fun a => [(5, eNat a)]) (fun i => [.un, .un, .d (eTasks ts), .d (ePat pat), .d (.lst ((List.range ts.length).map fun k => .int (wblock ts k))), .un, .d (.str pr), .un, .d (eMany rows), .un, .un, .own 1 (.lst (rows.map fun l => .tup (l.map fun r => .tup ((who r).map .int))))]) rfl h12 (i_rng (n := ts.length) g.fr (E.eq (e_len g.fr (vr 2 rfl)) (by rw [List.length_map])) (by omega)) ⟨rfl, rfl, rfl, rfl, rfl, rfl, trivial⟩ (fun i a hia => gd_name 5 nd) (fun b1 j k σ H hja h13 => ?_) fun σ H h13 => ?_)
      · have hk : k < ts.length := List.mem_range.mp (List.mem_of_getElem? hja)
        have hkp : k < pat.length := by omega
        have hrow : rows[k]? = some (rowsK (cost ts k).toNat pat[k] k us) := by rw [hrows]; exact rows_at hkp
        obtain ⟨l, hl⟩ : ∃ l, l = rowsK (cost ts k).toNat pat[k] k us := ⟨_, rfl⟩
        rw [← hl] at hrow
        have hbl : ∀ r ∈ l, ((r.length : Nat) : Int) ≤ wblock ts k ∧ (who r).length ≤ 1 := fun r hr => by
          refine rows_blocked gt gp hcs (n := 600) hk (r := r) ?_
          rw [List.getD_eq_getElem?_getD, List.getElem?_eq_getElem hkp, ← hus]
          rw [hl] at hr
          exact hr
        have hll : l.length ≤ 1000 := hal l (List.mem_of_getElem? hrow)
        have hworst : ixF (.lst ((List.range ts.length).map fun k => D.int (wblock ts k))) (.int (k : Nat)) = some (.int (wblock ts k)) := ix_lst (e := fun k => D.int (wblock ts k)) (List.getElem?_range hk)
        have hix1 : ixF (eMany rows) (.int (k : Nat)) = some (D.tup (l.map fun r => D.int (r.length : Nat))) := Dv.ix_tup (e := fun (l : List Row) => D.tup (l.map fun (r : Row) => D.int ((r.length : Nat) : Int))) hrow
        have hix2 : ixF (.lst (rows.map fun l => D.tup (l.map fun r => .tup ((who r).map .int)))) (.int (k : Nat)) = some (D.tup (l.map fun r => D.tup ((who r).map .int))) := Dv.ix_lst (e := fun (l : List Row) => D.tup (l.map fun (r : Row) => D.tup ((who r).map .int))) hrow
        refine ss_cons (s_skip h13 (B.eq (b_bw (bw_or (b_neNil (l := []) hu64 (E.eq (n_e (n_lc' [("_law_one", 10)] l (fun r => D.int (r.length : Nat)) (fun r => [(10, D.int (r.length : Nat))]) (fun _ => false) (fun r => D.int (r.length : Nat)) rfl nd (blk_of (by kernel_rfl)) (by omega) (i_tup (e_ix hu (vr 8 rfl) (vr 5 rfl) hix1)) (fun a ha s H C cl fp => gd_name 10 nd)
          (fun r hr s H C cl fp => bs_one (B.eq (b_gt (vr 10 rfl) (e_ix hu (vr 4 rfl) (vr 5 rfl) hworst)) (decide_eq_false (by have := (hbl r hr).1; omega)))) (fun a ha hb s H C cl fp => (vr 10 rfl)))) (by simp)) cmp_nilL) fun _ =>
          (bw_or1 (b_neNil (l := []) hu64 (E.eq (n_e (n_lc' [("_law_one", 10)] l (fun r => D.tup ((who r).map .int)) (fun r => [(10, D.tup ((who r).map .int))]) (fun _ => false) (fun r => D.tup ((who r).map .int)) rfl nd (blk_of (by kernel_rfl)) (by omega) (i_tup (e_ix hu (vr 11 rfl) (vr 5 rfl) hix2)) (fun a ha s H C cl fp => gd_name 10 nd)
          (fun r hr s H C cl fp => bs_one (B.eq (b_gt (e_len g.fr (vr 10 rfl)) e_int) (decide_eq_false (by have := (hbl r hr).2; rw [List.length_map]; omega)))) (fun a ha hb s H C cl fp => (vr 10 rfl)))) (by simp)) cmp_nilL)))) (by rfl)) fun σ H h14 => ss_nil (h14.wk ⟨rfl, rfl, rfl, rfl, rfl, rfl, trivial⟩))
      · exact ss_nil (ss_nil (h13.wk ⟨rfl, rfl, rfl, trivial⟩))
  · exact ss_cons (s_ret h5 (ee_sh e_bl) (fin0 hq rfl))
end
end Ev31
/-! ## LZ -/
set_option maxHeartbeats 0
namespace Ev31
open PySem PySem.Spec PyProof.Rows L2 Gx Dv
/-- the pairs of code and table -/
def csOf (K : PySem.W.Frag) : List (Addr × Addr) := tf.map fun p => He.cT K p
theorem tabs_of {K : PySem.W.Frag} {H : Hp} (h : ∀ p ∈ csOf K, H p.2 = some (.tbl #[])) : LamX.Tabs (TT K) H := by
  intro r hr
  have : r.1 ∈ (TT K).map (·.1) := List.mem_map.mpr ⟨r, hr, rfl⟩
  rw [TT_map] at this
  obtain ⟨p, hp, e⟩ := List.mem_map.mp this
  refine ⟨#[], ?_, ?_, fun pos cv hc => ?_⟩
  · rw [← e]
    exact h _ (List.mem_map.mpr ⟨p, hp, rfl⟩)
  · first | exact .nil | trivial | simp [TriplesOk]
  · simp [codeAmong] at hc
theorem law_at {w : World} {mg : Str → Option Value} {fa : Addr} {h : Heap} {K : PySem.W.Frag} (KX : K.In h) (c : He.SaysX Ev31.fa fn [] tf ex w h K) (G : h.Ns mainGlobals mg) (hmg : mg "law" = some (.ref fa)) : LamX.LawAtS PySem.Challenge.rw_eventcore_k31_whole_blocked_units w K CX0 12 63 "_law_script" mg fa h := by
  obtain ⟨fd, F⟩ : ∃ fd, FunD K "law" "law" (defArgs s_law) (defBody s_law) (defScope s_law) [] [] (He.fAd K ("law", none)) fd := c.t.d.def_ 39 rfl
  have e := hmg.symm.trans (He.glo_ok KX G (c.t.d.fact 38 (f := .glo "law") rfl))
  cases e
  have b := FunD.bindsA (ps := ["_law_script"]) F fun _ _ _ _ _ _ us hl => match us, hl with | [_], _ => rfl
  refine ⟨fd, csOf K, spP K (TT K) R_law, fun p hp => ?_, fun p hp => ?_, fun p hp => ?_, fun s u => b s [u] rfl, fun H a ns hn _ hH hS => ?_, fun base hb hns ht => ?_⟩
  · obtain ⟨q, hq, rfl⟩ := List.mem_map.mp hp
    exact c.empty q hq
  · obtain ⟨q, hq, rfl⟩ := List.mem_map.mp hp
    exact c.out q hq
  · obtain ⟨q, hq, rfl⟩ := List.mem_map.mp hp
    exact PySem.W.codeHd_of_K KX (c.hd q hq)
  · refine ⟨[], [.lst (ns.map .int)], .bl true, ⟨ns, rfl, rfl⟩, fun x hx => by simp at hx, tabs_of hH, .one ⟨a, ns.map V.int, rfl, Lq.of hS, rep_ints⟩, fun v H' _ r => ?_⟩
    rw [Rep] at r
    exact r
  · have g : Pg w K mg base h := ⟨c, hb, hns, fun p hp => ht _ (List.mem_map.mpr ⟨p, hp, rfl⟩)⟩
    exact ok_law g F
end Ev31
open PySem PySem.W PySem.Calls PyProof.Rows
theorem PySem.Challenge.cw_eventcore_k31_whole_blocked_units_holds : PySem.Challenge.rw_eventcore_k31_whole_blocked_units.Holds := by
  w_on; o_law
  refine HandSHeadRun.head_any (r := OpenLaw.row PySem.Challenge.rw_eventcore_k31_whole_blocked_units) (q := view (OpenLaw.row PySem.Challenge.rw_eventcore_k31_whole_blocked_units).prog [50]) (H := Ev31.hk) (ob := Ev31.ob) (M := 3200) (loose := Ev31.loose) (d := HandSHeadRun.topDef (OpenLaw.row PySem.Challenge.rw_eventcore_k31_whole_blocked_units).prog 50) (kwd := []) Ev31.ob_eq
    (by kernel_rfl) (fun s => by kernel_rfl) Ev31.run (by kernel_rfl) (by kernel_rfl) (by kernel_rfl) (by rfl) (by first | assumption | decide +kernel) (by decide +kernel) ⟨rfl, rfl, rfl, rfl, rfl, by decide +kernel⟩ ?hw ?hc
  case hw => w_witness2
  case hc =>
    refine LamX.walk_ofTsE (l := PySem.Challenge.rw_eventcore_k31_whole_blocked_units) (n := 63) (k := 12) (x := "_law_script") (CX := fun _ => L2.CX0) rfl (by decide) (by kernel_rfl) ⟨rfl, by decide, by decide⟩ ?F (fun _ _ _ _ _ z => z)
    intro w mg fa h Y G hmg0
    obtain ⟨K, KX, c⟩ := Y
    have hmg : mg ("law" : PySem.Str) = some (.ref fa) := by
      have e : (HandSHeadRun.topDef (OpenLaw.row PySem.Challenge.rw_eventcore_k31_whole_blocked_units).prog 50).name = ("law" : PySem.Str) := by kernel_rfl
      rw [← e]
      exact hmg0
    exact ⟨K, KX, Ev31.law_at KX c G hmg⟩
