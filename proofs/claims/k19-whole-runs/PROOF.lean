import PyProof.Rows.All
import Wide.All
import OpenK.AllK
import Wide.FinOn
import HandS.ForMost
import HandS.Exc
import HandS.ExcOwn
import HandS.TryMany
import HandS.TryOnly
import HandS.Codes
import HandS.Star
import HandS.Lambda
import HandS.ClsMeth
import HandS.Property
import HandS.OwnEq
import HandS.IsInst
import HandS.Zip
import HandS.TupSets
import HandS.DictComp
import HandS.Conv
import HandS.Wide
import HandS.TupAny
import HandS.Style
import HandS.Small
import HandS.HeadNt
import PyProof.RulesMatch
import PyProof.RulesMatchSeq
import PyProof.Rows.MatchSeqLen
import HandS.HeadHook4
import HandS.Head0
import HandS.Head1
import HandS.Head2
import HandS.HeadWalk
import PyProof.EqLayable
import KE.GoesMore
import HandS.Strs
import PyProof.P3Eq
import HandS.WordsExc
import PySem.Challenge.RW_deepenough_k19_whole_runs_at_other_limit
set_option Elab.async false
set_option linter.all false
set_option maxRecDepth 100000
set_option maxHeartbeats 4000000
/- part K0 -/
/-! # K0: the text by places, heaps, data in tuples, single steps -/
namespace Kx
open PySem PySem.Spec PyProof.Rows L2
/-! ### the text by places -/
def top (i : Nat) : Stmt := PySem.Challenge.pw_deepenough_k19_whole_runs_at_other_limit.main.body.getD i (.Pass ⟨0, 0, 0, 0⟩)
abbrev mkD (x : Str) (s : Stmt) : Str × Stmt := (x, s)
/-- the module's defs that the law reaches -/
def dfs : List (Str × Stmt) := [mkD "is_integer" (top 14), mkD "is_below" (top 15), mkD "is_ascending" (top 16), mkD "is_pair" (top 17), mkD "is_name" (top 18), mkD "is_limit" (top 19), mkD "require_limit" (top 20),
  mkD "is_mode_set" (top 25), mkD "are_pairs" (top 26), mkD "is_caught" (top 27), mkD "is_move" (top 28), mkD "modes_in" (top 29), mkD "are_procedures" (top 33), mkD "require_program" (top 35), mkD "move_at" (top 39),
  mkD "fallen" (top 44), mkD "left_by" (top 45), mkD "is_refused" (top 46), mkD "options_by" (top 47), mkD "steps_in" (top 48), mkD "went" (top 49),
  mkD "_law_numbers" (top 52), mkD "_law_cast" (top 53), mkD "_law_pick" (top 54), mkD "_law_shuffle" (top 55), mkD "_law_subset" (top 56), mkD "_law_a_move" (top 57), mkD "_law_any_plain" (top 58), mkD "_law_made_of" (top 59), mkD "_law_coded" (top 60),
  mkD "_law_fallen" (top 61), mkD "_law_by_move" (top 62), mkD "_law_options_of" (top 63), mkD "_law_walked" (top 64), mkD "_law_met" (top 65), mkD "_law_gone" (top 66), mkD "_law_right" (top 67), mkD "law" (top 68)]
/-- the builtins that it asks by name -/
def bns : List Str := ["isinstance", "int", "bool", "tuple", "len", "all", "zip", "str", "list", "set", "enumerate", "range", "max", "min", "abs", "sorted"]
abbrev aP (K : PySem.W.Frag) : Addr := He.ga K "Procedure"
abbrev aG (K : PySem.W.Frag) : Addr := He.ga K "Program"
abbrev aR (K : PySem.W.Frag) : Addr := He.ga K "Run"
/-- a class of the program: made, its attributes read and stored, isinstance, its classmethod 'of' -/
structure ClsT (K : PySem.W.Frag) (mg : Str → Option Value) (x : Str) (qi qo : Str) (si so : Stmt) (at_ : List Str) : Prop where
  g : mg x = some (.ref (He.ga K x))
  cl : Cls K (He.ga K x)
  na : ∀ f ∈ at_, NoAttr K (He.ga K x) f
  maker : Mk K (He.ga K x) (He.ma K (He.ga K x) "__init__")
  fi : ∃ fd, Fun K "__init__" qi si (He.ma K (He.ga K x) "__init__") fd
  rd : ClX.CRead K (He.ga K x) (.type "type")
  cm : ClX.CMet K (He.ga K x) (.type "type") "of" (He.ma K (He.ga K x) "of") (He5.wf K (He.ga K x) "classmethod" "of")
  fo : ∃ fd, Fun K "of" qo so (He5.wf K (He.ga K x) "classmethod" "of") fd
  ins : C8.InsC K (He.ga K x)
/-- what the top has written -/
structure Txt (K : PySem.W.Frag) (mg : Str → Option Value) : Prop where
  fn : ∀ (i : Nat) (x : Str) (st : Stmt), dfs[i]? = some (x, st) → (∃ fd, Fun K x x st (He.ga K x) fd) ∧ mg x = some (.ref (He.ga K x))
  bn : ∀ x ∈ bns, mg x = none
  top : ∃ u, mg "TOP" = some u ∧ RelV (.int (10 ^ 40)) u
  letters : ∃ u, mg "LETTERS" = some u ∧ RelV (.str "abcdefghijklmnopqrstuvwxyz") u
  ml : ∃ u, mg "MAX_LETTERS" = some u ∧ RelV (.int 8) u
  mm : ∃ u, mg "MAX_MODES" = some u ∧ RelV (.int 6) u
  mp : ∃ u, mg "MAX_POINTS" = some u ∧ RelV (.int 8) u
  mv : ∃ u, mg "MAX_MOVES" = some u ∧ RelV (.int 16) u
  mpr : ∃ u, mg "MAX_PROCEDURES" = some u ∧ RelV (.int 6) u
  ms : ∃ u, mg "MAX_STEPS" = some u ∧ RelV (.int 1000) u
  left : ∃ u, mg "LEFT" = some u ∧ RelV (.str "left") u
  failed : ∃ u, mg "FAILED" = some u ∧ RelV (.str "failed") u
  cP : ClsT K mg "Procedure" "Procedure.__init__" "Procedure.of" (inClass (Kx.top 32) 0) (inClass (Kx.top 32) 1) ["own_name", "own_points", "own_moves"]
  cG : ClsT K mg "Program" "Program.__init__" "Program.of" (inClass (Kx.top 34) 0) (inClass (Kx.top 34) 1) ["own_modes", "own_starts", "own_procedures", "own_table", "own_main", "own_kept"]
  cR : ClsT K mg "Run" "Run.__init__" "Run.of" (inClass (Kx.top 50) 0) (inClass (Kx.top 50) 1) ["own_program", "own_bound", "own_start", "own_choices", "own_situations", "own_refused"]
theorem Txt.b {K : PySem.W.Frag} {mg : Str → Option Value} (T : Txt K mg) (x : Str) (h : bns.contains x = true := by decide +kernel) : mg x = none := T.bn x (List.contains_iff_mem.mp h)

/-! ### a def's promise by its name -/
abbrev Cal (P : Program) (w : World) (K : PySem.W.Frag) (mg : Str → Option Value) (base : Heap) (k : Nat) (x : Str) (sp : Sp) : Prop := C8.Cal P w K mg base k x sp []
section
variable {P : Program} {w : World} {K : PySem.W.Frag} {mg : Str → Option Value} {base : Heap}
/-- a def that lets no exception out -/
theorem cal_of {x : Str} {st : Stmt} {N ps : List Str} {k : Nat} {sp : Sp} (T : Txt K mg) (i : Nat) (hi : dfs[i]? = some (x, st)) (S : FnScope N ps (defScope st))
    (hb : ∀ (kV doc pm : Value) (an : Option Addr) (cdv ct : Value) (us : List Value), us.length = ps.length → bindArgs (PySem.W.fnOf x x (defArgs st) (defBody st) (defScope st) .none kV doc pm an cdv ct) ⟨us, []⟩ = pure (ps.zip us))
    (len : ∀ vs H Q E, sp vs H Q E → vs.length = ps.length)
    (hbody : ∀ (f : Addr) (cdv : Value) (A : Around) (outer : List Env) (s : Shared) (H : Hp) (vs : List V) (Q : VK) (E : XK), Room k (A.deeper (envOfC x (defScope st) s.heap.objs.size f cdv)) → sp vs H Q E →
      ∃ t, PSs (cxOf C8.CX0 P w K mg base N x (defScope st) f cdv A outer s H E).nox (defBody st) t ∧ t { nx := fun _ H' => Q .non H', rt := Q } (start N vs) H) : Cal P w K mg base (k + 1) x sp := by
  obtain ⟨⟨fd, F⟩, g⟩ := T.fn i x st hi
  have b := F.binds (ps := ps) hb
  have kp := F.kp
  obtain ⟨oc, od, kV, doc, pm, an, cdv, ct, osl, e, lk, hcd⟩ := F.ex
  refine ⟨_, fd, ps, [], ?_, g, kp, b, .nil⟩
  subst e
  refine fn_of lk hcd S len fun A outer s H vs Q E hr hsp => ?_
  obtain ⟨t, h, q⟩ := hbody _ cdv A outer s H vs Q E hr hsp
  exact ⟨t, h.nox, q⟩
end

/-! ### heaps -/
theorem same_new {H : Hp} {p : Addr} {o : HO} (h : H p = none) : Same H (upd H p o) := fun b u e => by
  rw [upd_ne (ne_of_none e h)]
  exact e
theorem Same.get {H H' : Hp} {a : Addr} {o : HO} (s : Same H H') (h : H a = some o) : H' a = some o := s a o h
/-- a die: a list of three ints -/
def Die (H : Hp) (d : Addr) : Prop := ∃ a b c : Int, H d = some (.lst [.int a, .int b, .int c])
/-- all but the die at d is kept; the die is one again -/
structure SB (d : Addr) (H H' : Hp) : Prop where
  die : Die H' d
  keep : ∀ b o, b ≠ d → H b = some o → H' b = some o
theorem Die.same {H H' : Hp} {d : Addr} (s : Same H H') (h : Die H d) : Die H' d := by
  obtain ⟨a, b, c, e⟩ := h
  exact ⟨a, b, c, s _ _ e⟩
/-- neither a list nor a table -/
def nlst : HO → Bool
  | .lst _ => false
  | .tbl _ => false
  | _ => true
theorem Die.ne {H : Hp} {d a : Addr} {o : HO} (h : Die H d) (e : H a = some o) (n : nlst o = true) : a ≠ d := by
  obtain ⟨x, y, z, q⟩ := h
  refine ne_of e q ?_
  intro z
  subst z
  cases n
theorem SB.of_same {d : Addr} {H H' : Hp} (D : Die H d) (s : Same H H') : SB d H H' := ⟨D.same s, fun b o _ e => s b o e⟩
theorem SB.trans {d : Addr} {H H1 H2 : Hp} (a : SB d H H1) (b : SB d H1 H2) : SB d H H2 := ⟨b.die, fun c o n e => b.keep c o n (a.keep c o n e)⟩
theorem SB.same {d : Addr} {H H1 H2 : Hp} (a : SB d H H1) (b : Same H1 H2) : SB d H H2 := ⟨a.die.same b, fun c o n e => b c o (a.keep c o n e)⟩
theorem Same.sb {d : Addr} {H H1 H2 : Hp} (a : Same H H1) (b : SB d H1 H2) : SB d H H2 := ⟨b.die, fun c o n e => b.keep c o n (a c o e)⟩
theorem SB.get {d a : Addr} {H H' : Hp} {o : HO} (s : SB d H H') (D : Die H d) (h : H a = some o) (n : nlst o = true) : H' a = some o := s.keep a o (D.ne h n) h
theorem SB.getL {d a : Addr} {H H' : Hp} {o : HO} (s : SB d H H') (n : a ≠ d) (h : H a = some o) : H' a = some o := s.keep a o n h

/-! ### data in tuples -/
mutual
inductive TD (H : Hp) : V → PyData → Prop
  | non : TD H .non .none
  | bl (b : Bool) : TD H (.bl b) (.bool b)
  | int (i : Int) : TD H (.int i) (.int i)
  | str (x : Str) : TD H (.str x) (.str x)
  | tup {a : Addr} {xs : List V} {ds : List PyData} : H a = some (.tup xs) → TDs H xs ds → TD H (.ref a) (.tuple ds)
inductive TDs (H : Hp) : List V → List PyData → Prop
  | nil : TDs H [] []
  | cons {v : V} {vs : List V} {d : PyData} {ds : List PyData} : TD H v d → TDs H vs ds → TDs H (v :: vs) (d :: ds)
end
/-- all tuples are kept -/
def TK (H H' : Hp) : Prop := ∀ a xs, H a = some (.tup xs) → H' a = some (.tup xs)
theorem Same.tk {H H' : Hp} (s : Same H H') : TK H H' := fun a xs e => s _ _ e
theorem SB.tk {d : Addr} {H H' : Hp} (s : SB d H H') (D : Die H d) : TK H H' := fun a xs e => s.get D e rfl
theorem TK.trans {H H1 H2 : Hp} (a : TK H H1) (b : TK H1 H2) : TK H H2 := fun c xs e => b c xs (a c xs e)
theorem tk_upd {H : Hp} {p : Addr} {o u : HO} (h : H p = some u) (n : ∀ xs, u ≠ .tup xs) : TK H (upd H p o) := fun a xs e => by
  rw [upd_ne (ne_of e h fun z => n xs z.symm)]
  exact e
mutual
theorem TD.mono {H H' : Hp} (s : TK H H') : ∀ (d : PyData) (v : V), TD H v d → TD H' v d
  | .none, _, h => by cases h; exact .non
  | .bool b, _, h => by cases h; exact .bl b
  | .int i, _, h => by cases h; exact .int i
  | .str x, _, h => by cases h; exact .str x
  | .tuple ds, _, h => by
    cases h with
    | tup h1 h2 => exact .tup (s _ _ h1) (TDs.mono s ds _ h2)
  | .list _, _, h => by cases h
  | .dict _, _, h => by cases h
theorem TDs.mono {H H' : Hp} (s : TK H H') : ∀ (ds : List PyData) (vs : List V), TDs H vs ds → TDs H' vs ds
  | [], _, h => by cases h; exact .nil
  | d :: ds, _, h => by
    cases h with
    | cons h1 h2 => exact .cons (TD.mono s d _ h1) (TDs.mono s ds _ h2)
end
end Kx

/- part K28 -/
/-! # K28: the head's run -/
namespace Kx
open PySem PySem.Spec PyProof.Rows L2
def dA (a : PySem.W.Frag → Addr) (x q : Str) (st : Stmt) : He5.DefA := ⟨a, x, q, defArgs st, defBody st, defScope st, [], []⟩
def fnG : List He5.DefA := dfs.map fun p => dA (fun K => He.ga K p.1) p.1 p.1 p.2
def fnM : List He5.DefA := [dA (fun K => He.ma K (aP K) "__init__") "__init__" "Procedure.__init__" (inClass (top 32) 0), dA (fun K => He5.wf K (aP K) "classmethod" "of") "of" "Procedure.of" (inClass (top 32) 1),
  dA (fun K => He.ma K (aG K) "__init__") "__init__" "Program.__init__" (inClass (top 34) 0), dA (fun K => He5.wf K (aG K) "classmethod" "of") "of" "Program.of" (inClass (top 34) 1),
  dA (fun K => He.ma K (aR K) "__init__") "__init__" "Run.__init__" (inClass (top 50) 0), dA (fun K => He5.wf K (aR K) "classmethod" "of") "of" "Run.of" (inClass (top 50) 1),
  dA (fun K => He.ma K (aR K) "at") "at" "Run.at" (inClass (top 50) 13), dA (fun K => He5.wf K (aR K) "property" "situations") "situations" "Run.situations" (inClass (top 50) 6),
  dA (fun K => He5.wf K (aR K) "property" "situation") "situation" "Run.situation" (inClass (top 50) 7), dA (fun K => He5.wf K (aR K) "property" "refused") "refused" "Run.refused" (inClass (top 50) 11),
  dA (fun K => He.ma K (aG K) "__eq__") "__eq__" "Program.__eq__" (inClass (top 34) 22), dA (fun K => He.ma K (aR K) "__eq__") "__eq__" "Run.__eq__" (inClass (top 50) 17)]
def fnL : List He5.DefA := fnG ++ fnM
def faG : List He.Fa := dfs.map fun p => .glo p.1
def faB : List He.Fa := bns.map .free
def faM : List He.Fa := [.int "TOP" (10 ^ 40), .str "LETTERS" "abcdefghijklmnopqrstuvwxyz", .int "MAX_LETTERS" 8, .int "MAX_MODES" 6, .int "MAX_POINTS" 8, .int "MAX_MOVES" 16, .int "MAX_PROCEDURES" 6, .int "MAX_STEPS" 1000, .str "LEFT" "left", .str "FAILED" "failed",
  .glo "Procedure", .glo "Program", .glo "Run", .cls "Procedure", .cls "Program", .cls "Run", .mkr "Procedure", .mkr "Program", .mkr "Run",
  .glo "InvalidLimit", .glo "InvalidOperation", .exc "InvalidLimit", .exc "InvalidOperation", .exm "InvalidLimit" "InvalidLimit" true, .exm "InvalidOperation" "InvalidLimit" false, .exm "InvalidOperation" "InvalidOperation" true, .meth "Run" "at"]
def faN : List He.Fa := [.noat "Procedure" "own_name", .noat "Procedure" "own_points", .noat "Procedure" "own_moves", .noat "Program" "own_modes", .noat "Program" "own_starts", .noat "Program" "own_procedures", .noat "Program" "own_table", .noat "Program" "own_main", .noat "Program" "own_kept",
  .noat "Run" "own_program", .noat "Run" "own_bound", .noat "Run" "own_start", .noat "Run" "own_choices", .noat "Run" "own_situations", .noat "Run" "own_refused"]
def faL : List He.Fa := faG ++ (faB ++ (faM ++ faN))
def clB (K : PySem.W.Frag) (C : Addr) : Bool := PySem.W.readsIn K C (.type "type") && (He.eqO (PySem.W.specialIn K (.ref C) "__getattribute__") (some (some (.builtin "type.__getattribute__"))) && (He5.wrapB K C "classmethod" "classmethod.__get__" "of" && (PySem.W.fnIn K (He5.wf K C "classmethod" "of") &&
  (He.eqO (PySem.W.findIn K (.ref C) "__class__") (some (some (.builtin "object.__class__"))) && (He.eqO (PySem.W.specialIn K (.builtin "object.__class__") "__get__") (some (some (.builtin "getset_descriptor.__get__"))) && (decide (PySem.W.takesIn K (.builtin "object.__class__") = some true) &&
  (decide (PySem.W.mroIn K C (.type "object") = some true) && decide (PySem.W.kitOne K (.ref C) (.ref C) = some true))))))))
def prB (K : PySem.W.Frag) (f : Str) : Bool := He.eqO (PySem.W.findIn K (.ref (aR K)) f) (some (some (.ref (He.ma K (aR K) f)))) && (He.eqO (PySem.W.specialIn K (.ref (He.ma K (aR K) f)) "__get__") (some (some (.builtin "property.__get__"))) && (decide (PySem.W.takesIn K (.ref (He.ma K (aR K) f)) = some true) &&
  (match PySem.W.recIn K (He.ma K (aR K) f) "property" with
    | some (.ref _ :: _) => true
    | _ => false)))
def eqB (K : PySem.W.Frag) (C : Addr) : Bool := He.eqO (PySem.W.findIn K (.ref C) "__eq__") (some (some (.ref (He.ma K C "__eq__")))) && (PySem.W.isFn K (.ref (He.ma K C "__eq__")) && (decide (PySem.W.subIn K (.type "str") (.ref C) = some false) && (decide (PySem.W.kitOne K (.type "str") (.ref C) = some false) &&
  (He.eqO (PySem.W.findIn K (.ref C) "__ne__") (some (some (.builtin "object.__ne__"))) && decide (PySem.W.mroIn K C (.type "object") = some true)))))
def exB (K : PySem.W.Frag) : Bool := !Nat.beq (He.cT K ("_law_right", none)).2 (He.cT K ("law", none)).2 && ((clB K (aP K) && (clB K (aG K) && clB K (aR K))) && ((prB K "situations" && (prB K "situation" && prB K "refused")) && (eqB K (aG K) && eqB K (aR K))))
def tfL : List He.Defn := [("_law_right", none), ("law", none)]
/-! ### the part of the heap that is looked at -/
def refsK (o : Obj) : List Addr := match o.data with
  | .dict es _ => es.toList.flatMap fun e => He.refV e.val
  | .func fd => He.refV fd.code
  | .cls cd => [cd.ns]
  | .fields vs => (match o.cls with
    | .type c => if c = "property" then vs.toList.flatMap He.refV else if c = "classmethod" then vs.toList.flatMap He.refV else []
    | _ => [])
  | _ => []
def levK (g : Addr → Option Obj) (l : List Addr) : List Addr := l.flatMap fun a => match g a with
  | some o => refsK o
  | none => []
def asK (g : Addr → Option Obj) (n : Nat) : List Addr := let l1 := levK g [mainGlobals]; let l2 := levK g l1; let l3 := levK g l2; let l4 := levK g l3; let l5 := levK g l4; mainGlobals :: cStatics :: (l1 ++ (l2 ++ (l3 ++ (l4 ++ l5))))
/-! ### the Hook -/
structure SaysK (w : World) (h : Heap) (K : PySem.W.Frag) : Prop where
  a : He5.SaysA faL fnL K
  more : exB K = true
  hd : ∀ p ∈ tfL, PySem.W.codeHdIn K (He.cT K p).1 (He.cT K p).2 = true
  out : ∀ p ∈ tfL, K.lookup (He.cT K p).2 = none
  empty : ∀ p ∈ tfL, h.get? (He.cT K p).2 = some { cls := .none, data := .fields #[] }
def obsK (n : Nat) (g : Addr → Option Obj) : He.AlD × Bool := (He5.obsA faL fnL (He.frT g (asK g n)), exB (He.frT g (asK g n)) && He.tabsB g tfL (He.frT g (asK g n)))
def valK : He.AlD × Bool := (He5.valA fnL, true)
theorem saysK_of {n : Nat} {w : World} {h : Heap} (e : obsK n h.get? = valK) : SaysK w h (He.frT h.get? (asK h.get? n)) := by
  have e1 : He5.obsA faL fnL (He.frT h.get? (asK h.get? n)) = He5.valA fnL := congrArg (fun z : He.AlD × Bool => z.1) e
  have e2 : (exB (He.frT h.get? (asK h.get? n)) && He.tabsB h.get? tfL (He.frT h.get? (asK h.get? n))) = true := congrArg (fun z : He.AlD × Bool => z.2) e
  obtain ⟨h1, h2⟩ := He.ba e2
  have key : ∀ p ∈ tfL, PySem.W.codeHdIn (He.frT h.get? (asK h.get? n)) (He.cT (He.frT h.get? (asK h.get? n)) p).1 (He.cT (He.frT h.get? (asK h.get? n)) p).2 = true ∧ ∃ o, h.get? (He.cT (He.frT h.get? (asK h.get? n)) p).2 = some o ∧ He.emptyTab o = true := fun p hp => by
    obtain ⟨h3, h4⟩ := He.ba (List.all_eq_true.mp h2 p hp)
    refine ⟨h3, ?_⟩
    cases q : h.get? (He.cT (He.frT h.get? (asK h.get? n)) p).2 with
    | none =>
      rw [q] at h4
      cases h4
    | some o =>
      rw [q] at h4
      exact ⟨o, rfl, h4⟩
  exact ⟨e1, h1, fun p hp => (key p hp).1, fun p hp => by
    obtain ⟨_, o, q, z⟩ := key p hp
    exact He.frT_none q z, fun p hp => by
    obtain ⟨_, o, q, z⟩ := key p hp
    rw [q, He.emptyTab_eq z]⟩
def hookK (n : Nat) : PySem.W.Hook where
  α := He.AlD × Bool
  obs := fun s => obsK n s.heap.get?
  val := fun _ => valK
  says := fun w h => ∃ K : PySem.W.Frag, K.In h ∧ SaysK w h K
  of := fun _ _ e => ⟨_, He.frT_in, saysK_of e⟩
  keeps := fun _ _ _ ⟨K, hK, c⟩ k => ⟨K, PySem.W.Frag.In.keeps hK k, ⟨c.a, c.more, c.hd, c.out, fun p hp => k _ _ (c.empty p hp)⟩⟩
theorem obsK_eq {n : Nat} {g : Addr → Option Obj} {s : Shared} (h : ∀ a, g a = s.heap.get? a) : obsK n g = (hookK n).obs s := by
  have e : g = s.heap.get? := funext h
  rw [e] <;> rfl
abbrev RR : PySem.W.OpenRow := PySem.W.OpenLaw.row PySem.Challenge.rw_deepenough_k19_whole_runs_at_other_limit
abbrev hk : PySem.W.Hook := hookK 6
def ob (s : PySem.W.SharedT) : He.AlD × Bool := obsK 6 (HandSHeadRun.getT s)
theorem ob_eq (s : PySem.W.SharedT) : ob s = hk.obs s.abs := obsK_eq (HandSHeadRun.getT_eq s)
def lo1 : List Str := ["_wall", "__name__", "DepthError", "InvalidProgram", "InvalidRun", "InvalidLimit", "InvalidOperation", "UnknownName", "UnknownSite", "TooMany", "LETTERS", "MAX_LETTERS", "TOP", "is_integer", "is_below", "is_ascending", "is_pair", "is_name", "is_limit", "require_limit", "MAX_MODES", "MAX_POINTS", "MAX_MOVES", "is_mode_set", "are_pairs", "is_caught", "is_move", "modes_in", "MAX_PROCEDURES", "Procedure", "are_procedures", "Program"]
def lo2 : List Str := ["require_program", "require_procedure", "is_site", "require_site", "move_at", "MAX_STEPS", "LEFT", "FAILED", "fallen", "left_by", "is_refused", "options_by", "steps_in", "went", "Run", "_law_numbers", "_law_cast", "_law_pick", "_law_shuffle", "_law_subset", "_law_a_move", "_law_any_plain", "_law_made_of", "_law_coded", "_law_fallen", "_law_by_move", "_law_options_of", "_law_walked", "_law_met", "_law_gone", "_law_right"]
def looseL : List Str := lo1 ++ lo2
abbrev qv : Program := PySem.W.view RR.prog [68]
end Kx

/- part K29 -/
/-! # K29: the run -/
namespace Kx
open PySem PySem.Spec PyProof.Rows L2
theorem run (w : World) : HandSHeadRun.RunEq RR qv hk ob 15000 looseL w := by
  intro os
  kernel_rfl
end Kx

/- part M0 -/
/-! # M0: what the program reckons, in plain Lean; runs at other limits -/
namespace Kx
open PySem
/-- a move -/
inductive Mv where
  | go (here there : Int) (ps : List (Int × Int))
  | call (here there : Int) (name : Str) (ms : List Int) (c : Option Int)
  | leave (here : Int) (ms : List Int)
  | fail (here : Int) (ms : List Int)
deriving DecidableEq
abbrev Site : Type := Str × Nat
inductive Spot where
  | pt (n : Str) (q : Int)
  | left
  | failed
deriving DecidableEq
structure Sit where
  mode : Int
  sites : List Site
  spot : Spot
deriving DecidableEq
structure Prg where
  total : Int
  starts : List Int
  procs : List (Str × Int × List Mv)
namespace Mv
def here : Mv → Int
  | .go h _ _ => h
  | .call h _ _ _ _ => h
  | .leave h _ => h
  | .fail h _ => h
def there : Mv → Int
  | .call _ t _ _ _ => t
  | _ => 0
def caught : Mv → Option Int
  | .call _ _ _ _ c => c
  | _ => none
def isCall : Mv → Bool
  | .call _ _ _ _ _ => true
  | _ => false
end Mv
namespace Prg
def names (p : Prg) : List Str := p.procs.map (·.1)
def mvs (p : Prg) (n : Str) : List Mv := match p.procs.lookup n with
  | some (_, l) => l
  | none => []
def mv (p : Prg) (s : Site) : Mv := (p.mvs s.1).getD s.2 (.leave 0 [])
def main (p : Prg) : Str := (p.procs.headD ("", 0, [])).1
end Prg
/-- the failing of the innermost of the first n sites -/
def fallAt (p : Prg) (m : Int) (ss : List Site) : Nat → Sit
  | 0 => ⟨m, [], .failed⟩
  | n + 1 => match (p.mv (ss.getD n ("", 0))).caught with
    | some c => ⟨m, ss.take n, .pt (ss.getD n ("", 0)).1 c⟩
    | none => fallAt p m ss n
def fallen (p : Prg) (m : Int) (ss : List Site) : Sit := fallAt p m ss ss.length
def leftBy (p : Prg) (m : Int) (ss : List Site) : Sit := match ss.getLast? with
  | none => ⟨m, [], .left⟩
  | some s => ⟨m, ss.dropLast, .pt s.1 (p.mv s).there⟩
def over (lim : Option Int) (ss : List Site) : Bool := match lim with
  | none => false
  | some l => decide (l ≤ (ss.length : Int))
def enter (p : Prg) (lim : Option Int) (m : Int) (ss : List Site) (s : Site) (n : Str) : Sit := if over lim ss = true then fallen p m (ss ++ [s]) else ⟨m, ss ++ [s], .pt n 0⟩
def byMove (p : Prg) (lim : Option Int) (m : Int) (ss : List Site) (s : Site) : List Sit := match p.mv s with
  | .go _ t ps => (ps.filter fun q => decide (q.1 = m)).map fun q => ⟨q.2, ss, .pt s.1 t⟩
  | .call _ _ n ms _ => if ms.contains m = true then [enter p lim m ss s n] else []
  | .leave _ ms => if ms.contains m = true then [leftBy p m ss] else []
  | .fail _ ms => if ms.contains m = true then [fallen p m ss] else []
def idxs (p : Prg) (n : Str) (q : Int) : List Nat := (List.range (p.mvs n).length).filter fun i => decide ((p.mv (n, i)).here = q)
def opts (p : Prg) (lim : Option Int) (st : Sit) : List (Sit × Site) := match st.spot with
  | .pt n q => (idxs p n q).flatMap fun i => (byMove p lim st.mode st.sites (n, i)).map fun l => (l, (n, i))
  | _ => []
/-- whether the step by a move at a site is a refused call -/
def refu (p : Prg) (lim : Option Int) (ss : List Site) (s : Site) : Nat := if (p.mv s).isCall = true ∧ over lim ss = true then 1 else 0
def stepN (p : Prg) (lim : Option Int) (st : Sit) (c : Int) : Option (Sit × Nat) := if 0 ≤ c then (opts p lim st)[c.toNat]?.map fun o => (o.1, refu p lim st.sites o.2) else none
def st0 (p : Prg) (m : Int) : Sit := ⟨m, [], .pt p.main 0⟩
def goOn (p : Prg) (lim : Option Int) (z : Sit) (acc : Option (List Sit × Nat)) (c : Int) : Option (List Sit × Nat) :=
  acc.bind fun q => (stepN p lim (q.1.getLastD z) c).map fun r => (q.1 ++ [r.1], q.2 + r.2)
def wentF (p : Prg) (lim : Option Int) (m : Int) (cs : List Int) : Option (List Sit × Nat) := cs.foldl (goOn p lim (st0 p m)) (some ([st0 p m], 0))
theorem went_nil (p : Prg) (lim : Option Int) (m : Int) : wentF p lim m [] = some ([st0 p m], 0) := rfl
theorem went_snoc (p : Prg) (lim : Option Int) (m : Int) (cs : List Int) (c : Int) : wentF p lim m (cs ++ [c]) = goOn p lim (st0 p m) (wentF p lim m cs) c := by
  unfold wentF
  rw [List.foldl_append]
  rfl
theorem foldl_none {p : Prg} {lim : Option Int} {z : Sit} : ∀ cs : List Int, cs.foldl (goOn p lim z) none = none
  | [] => rfl
  | c :: cs => by
    rw [List.foldl_cons]
    exact foldl_none cs
theorem went_none {p : Prg} {lim : Option Int} {m : Int} {cs ds : List Int} (h : wentF p lim m cs = none) : wentF p lim m (cs ++ ds) = none := by
  unfold wentF at h ⊢
  rw [List.foldl_append, h]
  exact foldl_none ds

/-! ### what is well formed -/
def ModesOk (n : Int) (ms : List Int) : Prop := ms ≠ [] ∧ ms.Pairwise (· < ·) ∧ ∀ m ∈ ms, 0 ≤ m ∧ m < n
def ltP (a b : Int × Int) : Prop := a.1 < b.1 ∨ (a.1 = b.1 ∧ a.2 < b.2)
def PairsOk (n : Int) (ps : List (Int × Int)) : Prop := ps ≠ [] ∧ ps.Pairwise ltP ∧ ∀ q ∈ ps, (0 ≤ q.1 ∧ q.1 < n) ∧ 0 ≤ q.2 ∧ q.2 < n
def In0 (n i : Int) : Prop := 0 ≤ i ∧ i < n
def MvOk (total points : Int) (names : List Str) : Mv → Prop
  | .go h t ps => In0 points h ∧ In0 points t ∧ PairsOk total ps
  | .call h t n ms c => In0 points h ∧ In0 points t ∧ n ∈ names ∧ ModesOk total ms ∧ ∀ x, c = some x → In0 points x
  | .leave h ms => In0 points h ∧ ModesOk total ms
  | .fail h ms => In0 points h ∧ ModesOk total ms
def okNames : List Str := ["main", "p", "q"]
structure ProcOk (total : Int) (names : List Str) (r : Str × Int × List Mv) : Prop where
  pts : 0 < r.2.1 ∧ r.2.1 ≤ 8
  len : r.2.2.length ≤ 16
  mvs : ∀ m ∈ r.2.2, MvOk total r.2.1 names m
structure PrgOk (p : Prg) : Prop where
  tot : 0 < p.total ∧ p.total ≤ 6
  sts : ModesOk p.total p.starts
  ne : p.procs ≠ []
  len : p.procs.length ≤ 6
  nd : p.names.Nodup
  nms : ∀ n ∈ p.names, n ∈ okNames
  prs : ∀ r ∈ p.procs, ProcOk p.total p.names r
/-- a site of a call -/
def SiteOk (p : Prg) (s : Site) : Prop := s.1 ∈ p.names ∧ ∃ h t n ms c, (p.mvs s.1)[s.2]? = some (.call h t n ms c)
structure SitOk (p : Prg) (st : Sit) : Prop where
  sites : ∀ s ∈ st.sites, SiteOk p s
  spot : ∀ n q, st.spot = .pt n q → n ∈ p.names

theorem lookup_name {p : Prg} {n : Str} (h : n ∈ p.names) : ∃ pts l, p.procs.lookup n = some (pts, l) ∧ (n, pts, l) ∈ p.procs := by
  unfold Prg.names at h
  have key : ∀ l : List (Str × Int × List Mv), n ∈ l.map (·.1) → ∃ pts m, l.lookup n = some (pts, m) ∧ (n, pts, m) ∈ l := by
    intro l
    induction l with
    | nil => intro h; cases h
    | cons r rs ih =>
      intro h
      obtain ⟨a, b, c⟩ := r
      by_cases e : n = a
      · subst e
        exact ⟨b, c, by simp [List.lookup], List.mem_cons_self⟩
      · rw [List.map_cons] at h
        rcases List.mem_cons.mp h with z | z
        · exact absurd z e
        · obtain ⟨pts, m, h1, h2⟩ := ih z
          refine ⟨pts, m, ?_, List.mem_cons_of_mem _ h2⟩
          have hb : (n == a) = false := by simpa using e
          simp only [List.lookup, hb]
          exact h1
  exact key _ h
theorem mvs_of {p : Prg} {n : Str} {pts : Int} {l : List Mv} (h : p.procs.lookup n = some (pts, l)) : p.mvs n = l := by
  unfold Prg.mvs
  rw [h]
theorem mv_of {p : Prg} {s : Site} {m : Mv} (h : (p.mvs s.1)[s.2]? = some m) : p.mv s = m := by
  unfold Prg.mv
  rw [List.getD_eq_getElem?_getD, h]
  rfl
theorem SiteOk.call {p : Prg} {s : Site} (h : SiteOk p s) : ∃ hh t n ms c, p.mv s = .call hh t n ms c ∧ (p.mvs s.1)[s.2]? = some (.call hh t n ms c) := by
  obtain ⟨_, hh, t, n, ms, c, e⟩ := h
  exact ⟨hh, t, n, ms, c, mv_of e, e⟩
theorem main_in {p : Prg} (ok : PrgOk p) : p.main ∈ p.names := by
  have h := ok.ne
  unfold Prg.main Prg.names
  cases q : p.procs with
  | nil => exact absurd q h
  | cons r rs => simp
theorem fallAt_ok {p : Prg} {m : Int} {ss : List Site} (h : ∀ s ∈ ss, SiteOk p s) : ∀ n, n ≤ ss.length → SitOk p (fallAt p m ss n)
  | 0, _ => ⟨fun s hs => (by cases hs), fun n q e => (by cases e)⟩
  | n + 1, hn => by
    unfold fallAt
    have hlt : n < ss.length := hn
    have e : ss.getD n ("", 0) = ss[n] := by
      rw [List.getD_eq_getElem?_getD, List.getElem?_eq_getElem hlt]
      rfl
    split
    · rename_i c hc
      refine ⟨fun s hs => h s (List.mem_of_mem_take hs), fun a b z => ?_⟩
      cases z
      rw [e]
      exact (h _ (List.getElem_mem hlt)).1
    · exact fallAt_ok h n (Nat.le_of_lt hlt)
theorem fallen_ok {p : Prg} {m : Int} {ss : List Site} (h : ∀ s ∈ ss, SiteOk p s) : SitOk p (fallen p m ss) := fallAt_ok h _ (Nat.le_refl _)
theorem leftBy_ok {p : Prg} {m : Int} {ss : List Site} (h : ∀ s ∈ ss, SiteOk p s) : SitOk p (leftBy p m ss) := by
  unfold leftBy
  split
  · exact ⟨fun s hs => (by cases hs), fun n q e => (by cases e)⟩
  · rename_i s hs
    have hm : s ∈ ss := List.mem_of_getLast? hs
    refine ⟨fun x hx => h x (List.dropLast_subset _ hx), fun a b z => ?_⟩
    cases z
    exact (h s hm).1
theorem mv_ok {p : Prg} (ok : PrgOk p) {s : Site} {m : Mv} (h : (p.mvs s.1)[s.2]? = some m) : ∃ pts, MvOk p.total pts p.names m ∧ s.1 ∈ p.names := by
  unfold Prg.mvs at h
  cases q : p.procs.lookup s.1 with
  | none =>
    rw [q] at h
    simp at h
  | some r =>
    rw [q] at h
    obtain ⟨pts, l⟩ := r
    have hin : s.1 ∈ p.names ∧ (s.1, pts, l) ∈ p.procs := by
      have key : ∀ l' : List (Str × Int × List Mv), l'.lookup s.1 = some (pts, l) → s.1 ∈ l'.map (·.1) ∧ (s.1, pts, l) ∈ l' := by
        intro l'
        induction l' with
        | nil => intro z; cases z
        | cons r rs ih =>
          intro z
          obtain ⟨a, b⟩ := r
          by_cases e : s.1 = a
          · subst e
            simp only [List.lookup, beq_self_eq_true] at z
            cases z
            exact ⟨by simp, List.mem_cons_self⟩
          · have hb : (s.1 == a) = false := by simpa using e
            simp only [List.lookup, hb] at z
            obtain ⟨h1, h2⟩ := ih z
            exact ⟨by rw [List.map_cons]; exact List.mem_cons_of_mem _ h1, List.mem_cons_of_mem _ h2⟩
      exact key _ q
    exact ⟨pts, (ok.prs _ hin.2).mvs m (List.mem_of_getElem? h), hin.1⟩
theorem idxs_mem {p : Prg} {n : Str} {q : Int} {i : Nat} (h : i ∈ idxs p n q) : i < (p.mvs n).length ∧ (p.mv (n, i)).here = q := by
  unfold idxs at h
  obtain ⟨h1, h2⟩ := List.mem_filter.mp h
  exact ⟨List.mem_range.mp h1, of_decide_eq_true h2⟩
theorem idx_mv {p : Prg} {n : Str} {i : Nat} (h : i < (p.mvs n).length) : (p.mvs n)[i]? = some (p.mv (n, i)) := by
  have e : (p.mvs n)[i]? = some (p.mvs n)[i] := List.getElem?_eq_getElem h
  rw [e, mv_of (s := (n, i)) e]
theorem enter_ok {p : Prg} (ok : PrgOk p) {lim : Option Int} {m : Int} {ss : List Site} {s : Site} {h t : Int} {n : Str} {ms : List Int} {c : Option Int} (hs : ∀ x ∈ ss, SiteOk p x) (e : (p.mvs s.1)[s.2]? = some (.call h t n ms c)) (hn : s.1 ∈ p.names) :
    SitOk p (enter p lim m ss s n) := by
  have h2 : ∀ x ∈ ss ++ [s], SiteOk p x := fun x hx => by
    rcases List.mem_append.mp hx with z | z
    · exact hs x z
    · rw [List.mem_singleton.mp z]
      exact ⟨hn, h, t, n, ms, c, e⟩
  unfold enter
  split
  · exact fallen_ok h2
  · refine ⟨h2, fun a b z => ?_⟩
    cases z
    obtain ⟨pts, hm, _⟩ := mv_ok ok e
    exact hm.2.2.1
theorem byMove_ok {p : Prg} (ok : PrgOk p) {lim : Option Int} {m : Int} {ss : List Site} {n : Str} {i : Nat} (hs : ∀ x ∈ ss, SiteOk p x) (hn : n ∈ p.names) (hi : i < (p.mvs n).length) : ∀ l ∈ byMove p lim m ss (n, i), SitOk p l := by
  intro l hl
  have e := idx_mv hi
  unfold byMove at hl
  cases q : p.mv (n, i) with
  | go h t ps =>
    rw [q] at hl
    obtain ⟨z, _, rfl⟩ := List.mem_map.mp hl
    exact ⟨hs, fun a b z => by cases z; exact hn⟩
  | call h t nn ms c =>
    rw [q] at hl e
    dsimp only at hl
    split at hl
    · rw [List.mem_singleton.mp hl]
      exact enter_ok ok hs e hn
    · cases hl
  | leave h ms =>
    rw [q] at hl
    dsimp only at hl
    split at hl
    · rw [List.mem_singleton.mp hl]
      exact leftBy_ok hs
    · cases hl
  | fail h ms =>
    rw [q] at hl
    dsimp only at hl
    split at hl
    · rw [List.mem_singleton.mp hl]
      exact fallen_ok hs
    · cases hl
theorem opts_ok {p : Prg} (ok : PrgOk p) {lim : Option Int} {st : Sit} (hs : SitOk p st) : ∀ o ∈ opts p lim st, SitOk p o.1 ∧ o.2.1 ∈ p.names ∧ o.2.2 < (p.mvs o.2.1).length := by
  intro o ho
  unfold opts at ho
  split at ho
  · rename_i n q e
    obtain ⟨i, hi, ho2⟩ := List.mem_flatMap.mp ho
    obtain ⟨l, hl, rfl⟩ := List.mem_map.mp ho2
    have hn := hs.spot n q e
    have hi2 := (idxs_mem hi).1
    exact ⟨byMove_ok ok hs.sites hn hi2 l hl, hn, hi2⟩
  · cases ho
theorem st0_ok {p : Prg} (ok : PrgOk p) (m : Int) : SitOk p (st0 p m) := ⟨fun s hs => (by cases hs), fun n q e => by
  cases e
  exact main_in ok⟩
end Kx

/- part M1 -/
/-! # M1: runs at other limits; the data that stand for situations -/
namespace Kx
open PySem
def pre (p : Prg) (m : Int) (ss : List Site) (s : Site) : List (Option Sit) := match p.mv s with
  | .go _ t ps => (ps.filter fun q => decide (q.1 = m)).map fun q => some ⟨q.2, ss, .pt s.1 t⟩
  | .call _ _ _ ms _ => if ms.contains m = true then [none] else []
  | .leave _ ms => if ms.contains m = true then [some (leftBy p m ss)] else []
  | .fail _ ms => if ms.contains m = true then [some (fallen p m ss)] else []
def res (p : Prg) (lim : Option Int) (m : Int) (ss : List Site) (s : Site) : Option Sit → Sit
  | some l => l
  | none => match p.mv s with
    | .call _ _ n _ _ => enter p lim m ss s n
    | _ => ⟨m, ss, .failed⟩
theorem byMove_pre (p : Prg) (lim : Option Int) (m : Int) (ss : List Site) (s : Site) : byMove p lim m ss s = (pre p m ss s).map (res p lim m ss s) := by
  unfold byMove pre
  cases q : p.mv s with
  | go h t ps =>
    dsimp only
    rw [List.map_map]
    rfl
  | call h t n ms c =>
    dsimp only
    split
    · rw [List.map_singleton]
      unfold res
      rw [q]
    · rfl
  | leave h ms =>
    dsimp only
    split <;> rfl
  | fail h ms =>
    dsimp only
    split <;> rfl
def popts (p : Prg) (st : Sit) : List (Option Sit × Site) := match st.spot with
  | .pt n q => (idxs p n q).flatMap fun i => (pre p st.mode st.sites (n, i)).map fun l => (l, (n, i))
  | _ => []
theorem opts_pre (p : Prg) (lim : Option Int) (st : Sit) : opts p lim st = (popts p st).map fun o => (res p lim st.mode st.sites o.2 o.1, o.2) := by
  unfold opts popts
  cases st.spot with
  | pt n q =>
    dsimp only
    rw [List.map_flatMap]
    congr 1
    funext i
    rw [byMove_pre, List.map_map, List.map_map]
    rfl
  | left => rfl
  | failed => rfl
theorem opts_length (p : Prg) (a b : Option Int) (st : Sit) : (opts p a st).length = (opts p b st).length := by
  rw [opts_pre, opts_pre, List.length_map, List.length_map]
theorem step_pre (p : Prg) (lim : Option Int) (st : Sit) (c : Int) : stepN p lim st c = if 0 ≤ c then (popts p st)[c.toNat]?.map fun o => (res p lim st.mode st.sites o.2 o.1, refu p lim st.sites o.2) else none := by
  unfold stepN
  split
  · rw [opts_pre, List.getElem?_map, Option.map_map]
    rfl
  · rfl
theorem res_eq {p : Prg} {a b : Option Int} {m : Int} {ss : List Site} {s : Site} {o : Option Sit} (ha : refu p a ss s = 0) (hb : refu p b ss s = 0) : res p a m ss s o = res p b m ss s o := by
  cases o with
  | some l => rfl
  | none =>
    unfold res
    cases q : p.mv s with
    | call h t n ms c =>
      dsimp only
      unfold refu at ha hb
      rw [q] at ha hb
      have na : ¬ over a ss = true := fun z => by
        rw [if_pos ⟨rfl, z⟩] at ha
        cases ha
      have nb : ¬ over b ss = true := fun z => by
        rw [if_pos ⟨rfl, z⟩] at hb
        cases hb
      unfold enter
      rw [if_neg na, if_neg nb]
    | _ => rfl
theorem snoc_ind {α : Type} {P : List α → Prop} (h0 : P []) (hs : ∀ l a, P l → P (l ++ [a])) : ∀ l, P l := by
  have key : ∀ l : List α, P l.reverse := by
    intro l
    induction l with
    | nil => exact h0
    | cons a l ih =>
      rw [List.reverse_cons]
      exact hs _ _ ih
  intro l
  have := key l.reverse
  rw [List.reverse_reverse] at this
  exact this
theorem goOn_some {p : Prg} {lim : Option Int} {z : Sit} {acc : Option (List Sit × Nat)} {c : Int} {l : List Sit} {k : Nat} (h : goOn p lim z acc c = some (l, k)) :
    ∃ l0 k0 st k1, acc = some (l0, k0) ∧ stepN p lim (l0.getLastD z) c = some (st, k1) ∧ l = l0 ++ [st] ∧ k = k0 + k1 := by
  unfold goOn at h
  cases acc with
  | none => cases h
  | some q =>
    obtain ⟨l0, k0⟩ := q
    rw [Option.bind_some] at h
    cases e : stepN p lim (l0.getLastD z) c with
    | none =>
      rw [e] at h
      cases h
    | some r =>
      obtain ⟨st, k1⟩ := r
      rw [e] at h
      cases h
      exact ⟨l0, k0, st, k1, rfl, e, rfl, rfl⟩
theorem went_split {p : Prg} {lim : Option Int} {m : Int} {cs : List Int} {c : Int} {l : List Sit} {k : Nat} (h : wentF p lim m (cs ++ [c]) = some (l, k)) :
    ∃ l0 k0 st k1, wentF p lim m cs = some (l0, k0) ∧ stepN p lim (l0.getLastD (st0 p m)) c = some (st, k1) ∧ l = l0 ++ [st] ∧ k = k0 + k1 := by
  rw [went_snoc] at h
  exact goOn_some h
theorem went_go {p : Prg} {lim : Option Int} {m : Int} {cs : List Int} {c : Int} {l0 : List Sit} {k0 : Nat} {st : Sit} {k1 : Nat} (h1 : wentF p lim m cs = some (l0, k0)) (h2 : stepN p lim (l0.getLastD (st0 p m)) c = some (st, k1)) :
    wentF p lim m (cs ++ [c]) = some (l0 ++ [st], k0 + k1) := by
  rw [went_snoc, h1]
  unfold goOn
  rw [Option.bind_some, h2]
  rfl
theorem went_stop {p : Prg} {lim : Option Int} {m : Int} {cs : List Int} {c : Int} {l0 : List Sit} {k0 : Nat} (h1 : wentF p lim m cs = some (l0, k0)) (h2 : stepN p lim (l0.getLastD (st0 p m)) c = none) :
    wentF p lim m (cs ++ [c]) = none := by
  rw [went_snoc, h1]
  unfold goOn
  rw [Option.bind_some, h2]
  rfl
/-- a limit is wide enough for a situation -/
def wide (b : Option Int) (st : Sit) : Prop := ∀ k, b = some k → (st.sites.length : Int) ≤ k
theorem step_some {p : Prg} {lim : Option Int} {st : Sit} {c : Int} {l : Sit} {k : Nat} (h : stepN p lim st c = some (l, k)) :
    0 ≤ c ∧ ∃ o, (popts p st)[c.toNat]? = some o ∧ l = res p lim st.mode st.sites o.2 o.1 ∧ k = refu p lim st.sites o.2 := by
  rw [step_pre] at h
  by_cases hc : 0 ≤ c
  · rw [if_pos hc] at h
    cases e : (popts p st)[c.toNat]? with
    | none =>
      rw [e] at h
      cases h
    | some o =>
      rw [e] at h
      cases h
      exact ⟨hc, o, rfl, rfl, rfl⟩
  · rw [if_neg hc] at h
    cases h
theorem step_of {p : Prg} {lim : Option Int} {st : Sit} {c : Int} {o : Option Sit × Site} (hc : 0 ≤ c) (h : (popts p st)[c.toNat]? = some o) :
    stepN p lim st c = some (res p lim st.mode st.sites o.2 o.1, refu p lim st.sites o.2) := by
  rw [step_pre, if_pos hc, h]
  rfl
theorem last_in {l : List Sit} {z y : Sit} (h : y ∈ l) : l.getLastD z ∈ l := by
  have hne : l ≠ [] := fun e => by
    rw [e] at h
    cases h
  rw [List.getLastD_eq_getLast?, List.getLast?_eq_some_getLast hne]
  exact List.getLast_mem hne
theorem went_first {p : Prg} {lim : Option Int} {m : Int} : ∀ (cs : List Int) (l : List Sit) (k : Nat), wentF p lim m cs = some (l, k) → st0 p m ∈ l := by
  refine snoc_ind ?_ ?_
  · intro l k h
    cases h
    exact List.mem_singleton.mpr rfl
  · intro cs c ih l k h
    obtain ⟨l0, k0, st, k1, h1, _, rfl, _⟩ := went_split h
    exact List.mem_append_left _ (ih _ _ h1)
/-- a call that is made, not refused -/
theorem pre_call {p : Prg} {st : Sit} {o : Option Sit × Site} (h : o ∈ popts p st) (hc : (p.mv o.2).isCall = true) : o.1 = none := by
  unfold popts at h
  cases es : st.spot with
  | pt n q =>
    rw [es] at h
    obtain ⟨i, _, h2⟩ := List.mem_flatMap.mp h
    obtain ⟨l, hl, rfl⟩ := List.mem_map.mp h2
    dsimp only at hc ⊢
    unfold pre at hl
    cases e : p.mv (n, i) with
    | call a b c d f =>
      rw [e] at hl
      dsimp only at hl
      split at hl
      · exact List.mem_singleton.mp hl
      · cases hl
    | _ =>
      rw [e] at hc
      cases hc
  | left =>
    rw [es] at h
    cases h
  | failed =>
    rw [es] at h
    cases h
theorem wide_went {p : Prg} {a b : Option Int} {m : Int} : ∀ (cs : List Int) (l : List Sit), wentF p a m cs = some (l, 0) → (∀ st ∈ l, wide b st) → wentF p b m cs = some (l, 0) := by
  refine snoc_ind ?_ ?_
  · intro l h _
    cases h
    rfl
  · intro cs c ih l h hw
    obtain ⟨l0, k0, st, k1, h1, h2, rfl, hk⟩ := went_split h
    have e0 : k0 = 0 := by omega
    have e1 : k1 = 0 := by omega
    subst e0 e1
    have i1 := ih l0 h1 fun x hx => hw x (List.mem_append_left _ hx)
    obtain ⟨hc, o, ho, e2, e3⟩ := step_some h2
    have rb : refu p b (l0.getLastD (st0 p m)).sites o.2 = 0 := by
      unfold refu
      rw [if_neg]
      rintro ⟨z1, z2⟩
      have hn := pre_call (List.mem_of_getElem? ho) z1
      have na : ¬ over a (l0.getLastD (st0 p m)).sites = true := fun z => by
        unfold refu at e3
        rw [if_pos ⟨z1, z⟩] at e3
        cases e3
      cases hb : b with
      | none =>
        rw [hb] at z2
        cases z2
      | some k =>
        rw [hb] at z2
        have hk : k ≤ ((l0.getLastD (st0 p m)).sites.length : Int) := of_decide_eq_true z2
        have hst := hw st (List.mem_append_right _ (List.mem_singleton.mpr rfl)) k hb
        rw [e2, hn] at hst
        unfold res at hst
        cases q : p.mv o.2 with
        | call x1 x2 x3 x4 x5 =>
          rw [q] at hst
          dsimp only at hst
          unfold enter at hst
          rw [if_neg na] at hst
          simp only [List.length_append, List.length_singleton] at hst
          omega
        | _ =>
          rw [q] at z1
          cases z1
    have s2 := step_of (lim := b) hc ho
    rw [rb, ← res_eq e3.symm rb, ← e2] at s2
    exact went_go i1 s2
theorem same_went {p : Prg} {a b : Option Int} {m : Int} : ∀ (cs : List Int) (l l' : List Sit), wentF p a m cs = some (l, 0) → wentF p b m cs = some (l', 0) → l = l' := by
  refine snoc_ind ?_ ?_
  · intro l l' h h'
    cases h
    cases h'
    rfl
  · intro cs c ih l l' h h'
    obtain ⟨l0, k0, st, k1, h1, h2, rfl, hk⟩ := went_split h
    obtain ⟨l1, k2, su, k3, g1, g2, rfl, gk⟩ := went_split h'
    have e0 : k0 = 0 := by omega
    have e1 : k1 = 0 := by omega
    have e2 : k2 = 0 := by omega
    have e3 : k3 = 0 := by omega
    subst e0 e1 e2 e3
    have e := ih l0 l1 h1 g1
    subst e
    obtain ⟨hc, o, ho, e2, e3⟩ := step_some h2
    obtain ⟨_, o', ho', e2', e3'⟩ := step_some g2
    rw [ho] at ho'
    cases ho'
    rw [e2, e2', res_eq e3.symm e3'.symm]
theorem fallAt_len {p : Prg} {m : Int} {ss : List Site} : ∀ n, n ≤ ss.length → (fallAt p m ss n).sites.length ≤ n - 1
  | 0, _ => Nat.le_refl _
  | n + 1, h => by
    unfold fallAt
    split
    · show (ss.take n).length ≤ n + 1 - 1
      rw [List.length_take]
      omega
    · have := fallAt_len (p := p) (m := m) n (Nat.le_of_succ_le h)
      omega
theorem fallen_len {p : Prg} {m : Int} {ss : List Site} : (fallen p m ss).sites.length ≤ ss.length - 1 := fallAt_len _ (Nat.le_refl _)
theorem leftBy_len {p : Prg} {m : Int} {ss : List Site} : (leftBy p m ss).sites.length ≤ ss.length := by
  unfold leftBy
  split
  · exact Nat.zero_le _
  · show ss.dropLast.length ≤ _
    rw [List.length_dropLast]
    omega
theorem res_len {p : Prg} {k : Int} {st : Sit} {o : Option Sit × Site} (h : o ∈ popts p st) (hs : (st.sites.length : Int) ≤ k) : ((res p (some k) st.mode st.sites o.2 o.1).sites.length : Int) ≤ k := by
  unfold popts at h
  split at h
  · rename_i n q _
    obtain ⟨i, _, h2⟩ := List.mem_flatMap.mp h
    obtain ⟨l, hl, rfl⟩ := List.mem_map.mp h2
    unfold pre at hl
    unfold res
    cases e : p.mv (n, i) with
    | go a b c =>
      rw [e] at hl
      obtain ⟨z, _, rfl⟩ := List.mem_map.mp hl
      exact hs
    | call a b c d f =>
      rw [e] at hl
      dsimp only at hl
      split at hl
      · cases List.mem_singleton.mp hl
        dsimp only
        unfold enter
        split
        · have := fallen_len (p := p) (m := st.mode) (ss := st.sites ++ [(n, i)])
          simp only [List.length_append, List.length_singleton] at this
          omega
        · rename_i no
          have : ¬ k ≤ (st.sites.length : Int) := fun z => no (decide_eq_true z)
          show ((st.sites ++ [(n, i)]).length : Int) ≤ k
          simp only [List.length_append, List.length_singleton]
          omega
      · cases hl
    | leave a b =>
      rw [e] at hl
      dsimp only at hl
      split at hl
      · cases List.mem_singleton.mp hl
        have := leftBy_len (p := p) (m := st.mode) (ss := st.sites)
        dsimp only
        omega
      · cases hl
    | fail a b =>
      rw [e] at hl
      dsimp only at hl
      split at hl
      · cases List.mem_singleton.mp hl
        have := fallen_len (p := p) (m := st.mode) (ss := st.sites)
        dsimp only
        omega
      · cases hl
  · cases h
theorem went_len {p : Prg} {k : Int} {m : Int} (hk : 0 ≤ k) : ∀ (cs : List Int) (l : List Sit) (r : Nat), wentF p (some k) m cs = some (l, r) → ∀ st ∈ l, (st.sites.length : Int) ≤ k := by
  refine snoc_ind ?_ ?_
  · intro l r h st hst
    cases h
    rw [List.mem_singleton.mp hst]
    exact hk
  · intro cs c ih l r h st hst
    obtain ⟨l0, k0, su, k1, h1, h2, rfl, _⟩ := went_split h
    rcases List.mem_append.mp hst with z | z
    · exact ih _ _ h1 st z
    · rw [List.mem_singleton.mp z]
      obtain ⟨_, o, ho, e, _⟩ := step_some h2
      rw [e]
      exact res_len (List.mem_of_getElem? ho) (ih _ _ h1 _ (last_in (z := st0 p m) (went_first cs l0 k0 h1)))
/-- at a limit below the greatest depth a run with these choices refuses a call -/
theorem narrow_went {p : Prg} {a : Option Int} {m : Int} {cs : List Int} {l l' : List Sit} {v : Int} {r : Nat} {st : Sit} (h : wentF p a m cs = some (l, 0)) (hv : 0 ≤ v) (hst : st ∈ l) (hd : v < (st.sites.length : Int)) (h' : wentF p (some v) m cs = some (l', r)) : r ≠ 0 := by
  intro e
  subst e
  have e := same_went cs l l' h h'
  subst e
  have := went_len hv cs l 0 h' st hst
  omega
theorem went_ok {p : Prg} (ok : PrgOk p) {lim : Option Int} {m : Int} : ∀ (cs : List Int) (l : List Sit) (k : Nat), wentF p lim m cs = some (l, k) → ∀ st ∈ l, SitOk p st := by
  refine snoc_ind ?_ ?_
  · intro l k h st hst
    cases h
    rw [List.mem_singleton.mp hst]
    exact st0_ok ok m
  · intro cs c ih l r h st hst
    obtain ⟨l0, k0, su, k1, h1, h2, rfl, _⟩ := went_split h
    rcases List.mem_append.mp hst with z | z
    · exact ih _ _ h1 st z
    · rw [List.mem_singleton.mp z]
      have hl := ih _ _ h1 _ (last_in (z := st0 p m) (went_first cs l0 k0 h1))
      unfold stepN at h2
      split at h2
      · cases e : (opts p lim (l0.getLastD (st0 p m)))[c.toNat]? with
        | none =>
          rw [e] at h2
          cases h2
        | some o =>
          rw [e] at h2
          cases h2
          exact (opts_ok ok hl o (List.mem_of_getElem? e)).1
      · cases h2
theorem went_length {p : Prg} {lim : Option Int} {m : Int} : ∀ (cs : List Int) (l : List Sit) (k : Nat), wentF p lim m cs = some (l, k) → l.length = cs.length + 1 := by
  refine snoc_ind ?_ ?_
  · intro l k h
    cases h
    rfl
  · intro cs c ih l k h
    obtain ⟨l0, k0, st, k1, h1, _, rfl, _⟩ := went_split h
    have := ih _ _ h1
    simp only [List.length_append, List.length_singleton]
    omega
theorem went_len2 {p : Prg} {lim : Option Int} {m : Int} : ∀ (cs : List Int) (l : List Sit) (k : Nat), wentF p lim m cs = some (l, k) → ∀ st ∈ l, st.sites.length ≤ cs.length := by
  intro cs l k h
  have key : ∀ (cs : List Int) (l : List Sit) (k : Nat), wentF p lim m cs = some (l, k) → (∀ st ∈ l, st.sites.length ≤ cs.length) := by
    refine snoc_ind ?_ ?_
    · intro l k h st hst
      cases h
      rw [List.mem_singleton.mp hst]
      exact Nat.le_refl _
    · intro cs c ih l k h st hst
      obtain ⟨l0, k0, su, k1, h1, h2, rfl, _⟩ := went_split h
      have ih1 := ih _ _ h1
      rw [List.length_append, List.length_singleton]
      rcases List.mem_append.mp hst with z | z
      · exact Nat.le_succ_of_le (ih1 st z)
      · rw [List.mem_singleton.mp z]
        obtain ⟨_, o, ho, e, _⟩ := step_some h2
        obtain ⟨o1, o2⟩ := o
        have hl := ih1 _ (last_in (z := st0 p m) (went_first cs l0 k0 h1))
        rw [e]
        have hin := List.mem_of_getElem? ho
        have : (res p lim (l0.getLastD (st0 p m)).mode (l0.getLastD (st0 p m)).sites o2 o1).sites.length ≤ (l0.getLastD (st0 p m)).sites.length + 1 := by
          cases o1 with
          | some x =>
            have h3 := res_len (k := ((l0.getLastD (st0 p m)).sites.length : Int)) hin (Int.le_refl _)
            have h4 : (x.sites.length : Int) ≤ ((l0.getLastD (st0 p m)).sites.length : Int) := h3
            show x.sites.length ≤ _
            omega
          | none =>
            unfold res
            dsimp only
            split
            · unfold enter
              split
              · have := fallen_len (p := p) (m := (l0.getLastD (st0 p m)).mode) (ss := (l0.getLastD (st0 p m)).sites ++ [o2])
                simp only [List.length_append, List.length_singleton] at this
                omega
              · show ((l0.getLastD (st0 p m)).sites ++ [o2]).length ≤ _
                simp
            · show (l0.getLastD (st0 p m)).sites.length ≤ _
              omega
        dsimp only at this ⊢
        omega
  exact key cs l k h

/-! ### the data -/
def eInts (ms : List Int) : List PyData := ms.map PyData.int
def eModes (ms : List Int) : PyData := .tuple (eInts ms)
def eSite (s : Site) : PyData := .tuple [.str s.1, .int (s.2 : Int)]
def eSites (ss : List Site) : PyData := .tuple (ss.map eSite)
def eSpot : Spot → PyData
  | .pt n q => .tuple [.str n, .int q]
  | .left => .str "left"
  | .failed => .str "failed"
def eSit (st : Sit) : PyData := .tuple [.int st.mode, eSites st.sites, eSpot st.spot]
def ePair (q : Int × Int) : PyData := .tuple [.int q.1, .int q.2]
def eCaught : Option Int → PyData
  | none => .none
  | some c => .int c
def eMv : Mv → PyData
  | .go h t ps => .tuple [.str "go", .int h, .int t, .tuple (ps.map ePair)]
  | .call h t n ms c => .tuple [.str "call", .int h, .int t, .str n, eModes ms, eCaught c]
  | .leave h ms => .tuple [.str "leave", .int h, eModes ms]
  | .fail h ms => .tuple [.str "fail", .int h, eModes ms]
def eMvs (ms : List Mv) : PyData := .tuple (ms.map eMv)
def eOpt (o : Sit × Site) : PyData := .tuple [eSit o.1, eSite o.2]
/-- laid, at most so deep -/
def sh (n : Nat) (d : PyData) : Prop := d.canLay0 = true ∧ d.depth ≤ n
theorem sh_mono {n m : Nat} {d : PyData} (h : sh n d) (l : n ≤ m) : sh m d := ⟨h.1, Nat.le_trans h.2 l⟩
theorem sh_int {n : Nat} {i : Int} : sh n (.int i) := ⟨by simp [PyData.canLay0], by simp [PyData.depth]⟩
theorem sh_non {n : Nat} : sh n .none := ⟨by simp [PyData.canLay0], by simp [PyData.depth]⟩
theorem sh_str {n : Nat} {x : Str} (h : PyData.strOk x = true) : sh n (.str x) := ⟨by simp [PyData.canLay0, h], by simp [PyData.depth]⟩
theorem sh_all {n : Nat} : ∀ ds : List PyData, (∀ d ∈ ds, sh n d) → PyData.canLayAll0 ds = true ∧ PyData.depthAll ds ≤ n
  | [], _ => ⟨by simp [PyData.canLayAll0], by simp [PyData.depthAll]⟩
  | d :: ds, h => by
    obtain ⟨h1, h2⟩ := sh_all ds fun x hx => h x (List.mem_cons_of_mem _ hx)
    obtain ⟨g1, g2⟩ := h d List.mem_cons_self
    exact ⟨by simp [PyData.canLayAll0, h1, g1], by simp only [PyData.depthAll]; omega⟩
theorem sh_tup {n : Nat} {ds : List PyData} (h : ∀ d ∈ ds, sh n d) : sh (n + 1) (.tuple ds) := by
  obtain ⟨h1, h2⟩ := sh_all ds h
  exact ⟨by simp [PyData.canLay0, h1], by simp only [PyData.depth]; omega⟩
theorem sh_lst {n : Nat} {ds : List PyData} (h : ∀ d ∈ ds, sh n d) : sh (n + 1) (.list ds) := by
  obtain ⟨h1, h2⟩ := sh_all ds h
  exact ⟨by simp [PyData.canLay0, h1], by simp only [PyData.depth]; omega⟩
theorem sh_ok {n : Nat} {d : PyData} (h : sh n d) (l : n ≤ 64) : SeqAt.shaped d = true := by
  unfold SeqAt.shaped
  rw [h.1, decide_eq_true (Nat.le_trans h.2 l)]
  rfl
theorem name_str {n : Str} (h : n ∈ okNames) : PyData.strOk n = true := by
  unfold okNames at h
  simp only [List.mem_cons, List.not_mem_nil, or_false] at h
  rcases h with rfl | rfl | rfl <;> decide +kernel
theorem sh_modes {ms : List Int} : sh 1 (eModes ms) := sh_tup fun d hd => by
  obtain ⟨i, _, rfl⟩ := List.mem_map.mp hd
  exact sh_int
theorem sh_site {p : Prg} (ok : PrgOk p) {s : Site} (h : s.1 ∈ p.names) : sh 1 (eSite s) := sh_tup fun d hd => by
  rcases List.mem_cons.mp hd with rfl | hd
  · exact sh_str (name_str (ok.nms _ h))
  · rw [List.mem_singleton.mp hd]
    exact sh_int
theorem sh_sites {p : Prg} (ok : PrgOk p) {ss : List Site} (h : ∀ s ∈ ss, SiteOk p s) : sh 2 (eSites ss) := sh_tup fun d hd => by
  obtain ⟨s, hs, rfl⟩ := List.mem_map.mp hd
  exact sh_site ok (h s hs).1
theorem sh_spot {p : Prg} (ok : PrgOk p) {st : Sit} (h : SitOk p st) : sh 1 (eSpot st.spot) := by
  cases e : st.spot with
  | pt n q =>
    refine sh_tup fun d hd => ?_
    rcases List.mem_cons.mp hd with rfl | hd
    · exact sh_str (name_str (ok.nms _ (h.spot n q e)))
    · rw [List.mem_singleton.mp hd]
      exact sh_int
  | left => exact sh_str (by decide +kernel)
  | failed => exact sh_str (by decide +kernel)
theorem sh_sit {p : Prg} (ok : PrgOk p) {st : Sit} (h : SitOk p st) : sh 3 (eSit st) := sh_tup fun d hd => by
  rcases List.mem_cons.mp hd with rfl | hd
  · exact sh_int
  rcases List.mem_cons.mp hd with rfl | hd
  · exact sh_sites ok h.sites
  · rw [List.mem_singleton.mp hd]
    exact sh_mono (sh_spot ok h) (by decide)
theorem sh_opt {p : Prg} (ok : PrgOk p) {lim : Option Int} {st : Sit} (h : SitOk p st) {o : Sit × Site} (ho : o ∈ opts p lim st) : sh 4 (eOpt o) := sh_tup fun d hd => by
  obtain ⟨h1, h2, _⟩ := opts_ok ok h o ho
  rcases List.mem_cons.mp hd with rfl | hd
  · exact sh_sit ok h1
  · rw [List.mem_singleton.mp hd]
    exact sh_mono (sh_site ok h2) (by decide)
end Kx

/- part K1 -/
/-! # K1: named readings, single steps -/
namespace Kx
open PySem PySem.Spec PyProof.Rows L2
/-! ### what a value is, for isinstance -/
inductive TyN (H : Hp) : V → String → Prop
  | non : TyN H .non "NoneType"
  | bl (b : Bool) : TyN H (.bl b) "bool"
  | int (i : Int) : TyN H (.int i) "int"
  | str (x : Str) : TyN H (.str x) "str"
  | lst {a : Addr} {xs : List V} (e : H a = some (.lst xs)) : TyN H (.ref a) "list"
  | tup {a : Addr} {xs : List V} (e : H a = some (.tup xs)) : TyN H (.ref a) "tuple"
  | dK {a : Addr} {kvs : List (Key × V)} (e : H a = some (.dK kvs)) : TyN H (.ref a) "dict"
theorem TyN.tyx {K : PySem.W.Frag} {H : Hp} {x : V} {T : String} (t : TyN H x T) : TyX K H x (.type T) := by
  cases t with
  | non => exact .base .non
  | bl b => exact .base (.bl b)
  | int i => exact .base (.int i)
  | str z => exact .base (.str z)
  | lst e => exact .base (.lst e)
  | tup e => exact .base (.tup e)
  | dK e => exact .base (.dK e)
/-- isinstance(x, a built-in type) -/
def rIsB : List V → Hp → VK → Prop := fun xs H Q => ∃ (x : V) (T c : String) (b : Bool), xs = [x, .ty c] ∧ TyN H x T ∧ kitB T c = some b ∧ Q (.bl b) H
/-- isinstance(x, a class of the program): of it, or a text, a tuple .. -/
def rIsC (K : PySem.W.Frag) : List V → Hp → VK → Prop := fun xs H Q => (∃ a C dx fs, xs = [.ref a, .ref C] ∧ H a = some (.ins C dx fs) ∧ C8.InsC K C ∧ Q (.bl true) H) ∨
  ∃ (x : V) (T : String) (C : Addr), xs = [x, .ref C] ∧ TyN H x T ∧ PySem.W.kitOne K (.type T) (.ref C) = some false ∧ Q (.bl false) H
def rLn (K : PySem.W.Frag) : List V → Hp → VK → Prop := fun xs H Q => ∃ x n, xs = [x] ∧ LenV K x H n ∧ Q (.int n) H
def rAbs : List V → Hp → VK → Prop := fun xs H Q => ∃ i : Int, xs = [.int i] ∧ Q (.int (if i < 0 then -i else i)) H
def rMx2 : List V → Hp → VK → Prop := fun xs H Q => ∃ i j : Int, xs = [.int i, .int j] ∧ Q (.int (if j > i then j else i)) H
def rMn2 : List V → Hp → VK → Prop := fun xs H Q => ∃ i j : Int, xs = [.int i, .int j] ∧ Q (.int (if j < i then j else i)) H
def rInt1 : List V → Hp → VK → Prop := fun xs H Q => (∃ i, xs = [.int i] ∧ Q (.int i) H) ∨ ∃ k, xs = [.bl k] ∧ Q (.int (if k then 1 else 0)) H
def rLstO (K : PySem.W.Frag) : List V → Hp → VK → Prop := fun xs H Q => ∃ p ys, xs = [.ref p] ∧ (SqL K H p ys ∨ SqT K H p ys) ∧ ∀ l, H l = none → Q (.ref l) (upd H l (.lst ys))
def rTupO (K : PySem.W.Frag) : List V → Hp → VK → Prop := fun xs H Q => ∃ p ys, xs = [.ref p] ∧ ((SqL K H p ys ∧ ∀ l, H l = none → Q (.ref l) (upd H l (.tup ys))) ∨ (SqT K H p ys ∧ Q (.ref p) H))
def rIsN : R2 := fun x y H Q => y = .non ∧ Q (.bl (decide (x = .non))) H
def rNotN : R2 := fun x y H Q => y = .non ∧ Q (.bl (!decide (x = .non))) H
def rInC : R2 := fun x y H Q => ∃ (c : Nat) (z : Str), x = .str ⟨#[c]⟩ ∧ y = .str z ∧ Q (.bl (decide (c ∈ z.cps.toList))) H
def rAdd : R2 := rI0 fun i j => .int (i + j)
def rSub : R2 := rI0 fun i j => .int (i - j)
def rLt : R2 := rI0 fun i j => .bl (decide (i < j))
def rLe : R2 := rI0 fun i j => .bl (decide (i ≤ j))
def rGt : R2 := rI0 fun i j => .bl (decide (j < i))
def rGe : R2 := rI0 fun i j => .bl (decide (j ≤ i))
def rMul : R2 := rI CMul fun i j => .int (i * j)
def rMod : R2 := rI (fun _ j => 0 < j) fun i j => .int (i % j)
def rFdv : R2 := rI CDiv fun i j => .int (i / j)
def rPow : R2 := rI CPow fun i j => .int (i ^ j.toNat)
def rNeg : V → Hp → VK → Prop := rU fun i => .int (-i)
section
variable {X : Cx}
theorem o_add : OpR X (binaryOp .Add) rAdd := op_add
theorem o_sub : OpR X (binaryOp .Sub) rSub := op_sub
theorem o_mul : OpR X (binaryOp .Mult) rMul := op_mul
theorem o_mod : OpR X (binaryOp .Mod) rMod := op_mod
theorem o_fdv : OpR X (binaryOp .FloorDiv) rFdv := op_fdiv
theorem o_pow : OpR X (binaryOp .Pow) rPow := op_pow
theorem o_neg : UnR X (unaryOp .USub) rNeg := un_neg
theorem o_lt : OpR X (compareOp .Lt) rLt := op_lt
theorem o_le : OpR X (compareOp .LtE) rLe := op_le
theorem o_gt : OpR X (compareOp .Gt) rGt := op_gt
theorem o_ge : OpR X (compareOp .GtE) rGe := op_ge
theorem o_isN : OpR X (compareOp .Is) rIsN := op_isN
theorem o_notN : OpR X (compareOp .IsNot) rNotN := op_notN
theorem o_inC : OpR X (compareOp .In) rInC := op_in_sign
theorem c_len : CallR X (.builtin "len") (rLn X.K) := call_len
theorem c_abs : CallR X (.builtin "abs") rAbs := call_abs
theorem c_mx2 (hc : X.calm = true) : CallR X (.builtin "max") rMx2 := call_max2 hc
theorem c_mn2 (hc : X.calm = true) : CallR X (.builtin "min") rMn2 := call_min2 hc
theorem c_int : CallR X (.type "int") rInt1 := call_int1
theorem c_lst : CallR X (.type "list") (rLstO X.K) := call_list_of
theorem c_tup : CallR X (.type "tuple") (rTupO X.K) := call_tuple_of
theorem c_isB : CallR X (.builtin "isinstance") rIsB := by
  intro pins s σ H xs us Q I r h
  obtain ⟨x, T, c, b, rfl, t, k, q⟩ := h
  exact call_isi pins s σ H _ us Q I r ⟨x, .ty c, _, _, b, rfl, .ty c, t.tyx, kit_ty k, q⟩
theorem c_isC : CallR X (.builtin "isinstance") (rIsC X.K) := by
  intro pins s σ H xs us Q I r h
  rcases h with ⟨a, C, dx, fs, rfl, ha, c, q⟩ | ⟨x, T, C, rfl, t, k, q⟩
  · exact C8.call_isC c pins s σ H _ us Q I r ⟨a, dx, fs, rfl, ha, q⟩
  · exact call_isi pins s σ H _ us Q I r ⟨x, .ref C, _, _, false, rfl, .own C, t.tyx, k, q⟩
end

/-! ### steps down into a reading -/
def pBl (Q : Bool → Hp → Prop) : VK := fun x H => ∃ c, x = .bl c ∧ Q c H
def pFld (K : PySem.W.Frag) (f : Str) (Q : VK) : VK := fun x H => ∃ a C dx fs v, x = .ref a ∧ H a = some (.ins C dx fs) ∧ Cls K C ∧ NoAttr K C f ∧ fs.lookup f = some v ∧ Q v H
def pDGet (Q : VK) (x y : V) (H : Hp) : Prop := ∃ a v, x = .ref a ∧ DGet H a y (some v) ∧ Q v H
def pTup (Q : VK) : List V → Hp → Prop := fun xs H1 => xs.length ≤ sizeLine ∧ ∀ p, H1 p = none → Q (.ref p) (upd H1 p (.tup xs))
def pLst (Q : VK) : List V → Hp → Prop := fun xs H1 => xs.length ≤ sizeLine ∧ ∀ p, H1 p = none → Q (.ref p) (upd H1 p (.lst xs))
section
variable {K : PySem.W.Frag} {σ : L2.St} {H H' : Hp} {Q : VK} {QB : Bool → Hp → Prop} {QA : List V → Hp → Prop} {D : Ends} {ta tb tc te tk tv : TE} {t u : TT} {tA tB' : TA} {r r' : R2} {v x y z : V} {xs ys : List V} {i j : Int} {p q a C dx : Addr} {fs : List (Str × V)} {f : Str} {tS tU : TS} {g : TG} {c k : Bool}
theorem z_var {n : Nat} (h : σ[n]? = some (some v)) (q : Q v H) : tVar n σ H Q := ⟨v, h, q⟩
theorem z_c (q : Q v H) : tC v σ H Q := q
theorem z_op (h : ta σ H fun x H1 => tb σ H1 fun y H2 => r x y H2 Q) : tOp r ta tb σ H Q := h
theorem z_un {ru : V → Hp → VK → Prop} (h : ta σ H fun x H1 => ru x H1 Q) : tUn ru ta σ H Q := h
theorem z_nil (q : QA [] H) : tNil σ H QA := q
theorem z_cons (h : ta σ H fun x H1 => tA σ H1 fun xs H2 => QA (x :: xs) H2) : tCons ta tA σ H QA := h
theorem z_tup (h : tA σ H (pTup Q)) : tTup tA σ H Q := h
theorem z_lst (h : tA σ H (pLst Q)) : tLst tA σ H Q := h
theorem z_fld (h : ta σ H (pFld K f Q)) : tFld K ta f σ H Q := h
theorem z_cB {rc : List V → Hp → VK → Prop} (h : tA σ H fun xs H1 => rc xs H1 Q) : tCB rc tA σ H Q := h
theorem z_andV (h : ta σ H (pBl fun c H1 => if c = true then tb σ H1 Q else Q (.bl false) H1)) : tAndV ta tb σ H Q := h
theorem z_orV (h : ta σ H (pBl fun c H1 => if c = true then Q (.bl true) H1 else tb σ H1 Q)) : tOrV ta tb σ H Q := h
theorem z_notV (h : ta σ H (pBl fun c H1 => Q (.bl (!c)) H1)) : tNotV ta σ H Q := h
theorem z_ifE (h : t σ H fun c H1 => if c = true then ta σ H1 Q else tb σ H1 Q) : tIf t ta tb σ H Q := h
theorem z_test (h : ta σ H (pBl QB)) : tTest ta σ H QB := h
theorem z_tB (h : ta σ H (pBl QB)) : tB ta σ H QB := h
theorem z_and (h : t σ H fun c H1 => if c = true then u σ H1 QB else QB false H1) : tAnd t u σ H QB := h
theorem z_or (h : t σ H fun c H1 => if c = true then QB true H1 else u σ H1 QB) : tOr t u σ H QB := h
theorem z_not (h : t σ H fun c H1 => QB (!c) H1) : tNot t σ H QB := h
theorem z_chain (h : ta σ H fun x H1 => tb σ H1 fun y H2 => r x y H2 (pBl fun k H3 => if k = true then tc σ H3 fun w' H4 => r' y w' H4 Q else Q (.bl false) H3)) : tChain r r' ta tb tc σ H Q := h
theorem z_dget (h : ta σ H fun x H1 => tb σ H1 fun y H2 => pDGet Q x y H2) : tDGet ta tb σ H Q := h
theorem z_call {sp : Sp} {dvs : List V} {E : XK} (h : tA σ H fun vs H1 => sp (vs ++ dvs) H1 Q E) : tCall sp dvs E tA σ H Q := h
-- leaves
theorem p_bl (q : QB c H) : pBl QB (.bl c) H := ⟨c, rfl, q⟩
theorem p_tup (h : xs.length ≤ sizeLine) (q : ∀ p H2, H p = none → Same H H2 → H2 p = some (.tup xs) → Q (.ref p) H2) : pTup Q xs H := ⟨h, fun p hp => q p _ hp (same_new hp) upd_same⟩
theorem p_lst (h : xs.length ≤ sizeLine) (q : ∀ p H2, H p = none → Same H H2 → H2 p = some (.lst xs) → Q (.ref p) H2) : pLst Q xs H := ⟨h, fun p hp => q p _ hp (same_new hp) upd_same⟩
theorem p_fld (ho : H a = some (.ins C dx fs)) (hc : Cls K C) (hn : NoAttr K C f) (hl : fs.lookup f = some v) (q : Q v H) : pFld K f Q (.ref a) H := ⟨a, C, dx, fs, v, rfl, ho, hc, hn, hl, q⟩
theorem p_ixT (h : H p = some (.tup xs)) (e : atI xs i = some v) (q : Q v H) : rIxT K (.ref p) (.int i) H Q := ⟨p, xs, i, v, rfl, rfl, .inl (.inl h), e, q⟩
theorem p_ixL (h : H p = some (.lst xs)) (e : atI xs i = some v) (q : Q v H) : rIxL K (.ref p) (.int i) H Q := ⟨p, xs, i, v, rfl, rfl, .inl (.inl h), e, q⟩
theorem p_add (q : Q (.int (i + j)) H) : rAdd (.int i) (.int j) H Q := ⟨i, j, rfl, rfl, q⟩
theorem p_sub (q : Q (.int (i - j)) H) : rSub (.int i) (.int j) H Q := ⟨i, j, rfl, rfl, q⟩
theorem p_lt (q : Q (.bl (decide (i < j))) H) : rLt (.int i) (.int j) H Q := ⟨i, j, rfl, rfl, q⟩
theorem p_le (q : Q (.bl (decide (i ≤ j))) H) : rLe (.int i) (.int j) H Q := ⟨i, j, rfl, rfl, q⟩
theorem p_gt (q : Q (.bl (decide (j < i))) H) : rGt (.int i) (.int j) H Q := ⟨i, j, rfl, rfl, q⟩
theorem p_ge (q : Q (.bl (decide (j ≤ i))) H) : rGe (.int i) (.int j) H Q := ⟨i, j, rfl, rfl, q⟩
theorem p_mul (h : CMul i j) (q : Q (.int (i * j)) H) : rMul (.int i) (.int j) H Q := ⟨i, j, rfl, rfl, h, q⟩
theorem p_mod (h : 0 < j) (q : Q (.int (i % j)) H) : rMod (.int i) (.int j) H Q := ⟨i, j, rfl, rfl, h, q⟩
theorem p_fdv (h : CDiv i j) (q : Q (.int (i / j)) H) : rFdv (.int i) (.int j) H Q := ⟨i, j, rfl, rfl, h, q⟩
theorem p_pow (h : CPow i j) (q : Q (.int (i ^ j.toNat)) H) : rPow (.int i) (.int j) H Q := ⟨i, j, rfl, rfl, h, q⟩
theorem p_neg (q : Q (.int (-i)) H) : rNeg (.int i) H Q := ⟨i, rfl, q⟩
theorem p_isN (q : Q (.bl true) H) : rIsN .non .non H Q := ⟨rfl, q⟩
theorem p_isNi (q : Q (.bl false) H) : rIsN (.int i) .non H Q := ⟨rfl, q⟩
theorem p_isNr (q : Q (.bl false) H) : rIsN (.ref a) .non H Q := ⟨rfl, q⟩
theorem p_isNv (q : Q (.bl (decide (x = .non))) H) : rIsN x .non H Q := ⟨rfl, q⟩
theorem p_notN (q : Q (.bl false) H) : rNotN .non .non H Q := ⟨rfl, q⟩
theorem p_notNi (q : Q (.bl true) H) : rNotN (.int i) .non H Q := ⟨rfl, q⟩
theorem p_notNr (q : Q (.bl true) H) : rNotN (.ref a) .non H Q := ⟨rfl, q⟩
theorem p_notNv (q : Q (.bl (!decide (x = .non))) H) : rNotN x .non H Q := ⟨rfl, q⟩
theorem p_eqI (q : Q (.bl (decide (i = j))) H) : rEq (.int i) (.int j) H Q := ⟨rfl, by
  have e : decide (V.int i = V.int j) = decide (i = j) := by
    rw [Bool.eq_iff_iff]
    simp
  rw [e]
  exact q⟩
theorem p_eqS {s s' : Str} (q : Q (.bl (decide (s = s'))) H) : rEq (.str s) (.str s') H Q := ⟨rfl, by
  have e : decide (V.str s = V.str s') = decide (s = s') := by
    rw [Bool.eq_iff_iff]
    simp
  rw [e]
  exact q⟩
theorem p_neI (q : Q (.bl (!decide (i = j))) H) : rNe (.int i) (.int j) H Q := ⟨rfl, by
  have e : decide (V.int i = V.int j) = decide (i = j) := by
    rw [Bool.eq_iff_iff]
    simp
  rw [e]
  exact q⟩
theorem p_eqNN (q : Q (.bl true) H) : rEq .non .non H Q := ⟨rfl, q⟩
theorem p_lenT (h : H p = some (.tup xs)) (q : Q (.int (xs.length : Nat)) H) : rLn K [.ref p] H Q := ⟨.ref p, xs.length, rfl, .inr ⟨xs, .inl (.inl h), rfl⟩, q⟩
theorem p_lenL (h : H p = some (.lst xs)) (q : Q (.int (xs.length : Nat)) H) : rLn K [.ref p] H Q := ⟨.ref p, xs.length, rfl, .inl ⟨xs, .inl (.inl h), rfl⟩, q⟩
theorem p_lenS {s : Str} (h : s.length ≤ sizeLine) (q : Q (.int (s.length : Nat)) H) : rLn K [.str s] H Q := ⟨.str s, s.length, rfl, ⟨h, rfl⟩, q⟩
theorem p_intI (q : Q (.int i) H) : rInt1 [.int i] H Q := .inl ⟨i, rfl, q⟩
theorem p_intB (q : Q (.int (if k then 1 else 0)) H) : rInt1 [.bl k] H Q := .inr ⟨k, rfl, q⟩
theorem p_abs (q : Q (.int (if i < 0 then -i else i)) H) : rAbs [.int i] H Q := ⟨i, rfl, q⟩
theorem p_mx2 (q : Q (.int (if j > i then j else i)) H) : rMx2 [.int i, .int j] H Q := ⟨i, j, rfl, q⟩
theorem p_mn2 (q : Q (.int (if j < i then j else i)) H) : rMn2 [.int i, .int j] H Q := ⟨i, j, rfl, q⟩
theorem p_lstL (h : H p = some (.lst xs)) (q : ∀ l H2, H l = none → Same H H2 → H2 l = some (.lst xs) → Q (.ref l) H2) : rLstO K [.ref p] H Q := ⟨p, xs, rfl, .inl (.inl (.inl h)), fun l hl => q l _ hl (same_new hl) upd_same⟩
theorem p_lstT (h : H p = some (.tup xs)) (q : ∀ l H2, H l = none → Same H H2 → H2 l = some (.lst xs) → Q (.ref l) H2) : rLstO K [.ref p] H Q := ⟨p, xs, rfl, .inr (.inl (.inl h)), fun l hl => q l _ hl (same_new hl) upd_same⟩
theorem p_tupL (h : H p = some (.lst xs)) (q : ∀ l H2, H l = none → Same H H2 → H2 l = some (.tup xs) → Q (.ref l) H2) : rTupO K [.ref p] H Q := ⟨p, xs, rfl, .inl ⟨.inl (.inl h), fun l hl => q l _ hl (same_new hl) upd_same⟩⟩
theorem p_append (h : H p = some (.lst xs)) (hz : xs.length < 100000) (q : Q .non (upd H p (.lst (xs ++ [y])))) : rAppend (.ref p) [y] H Q := ⟨p, xs, y, rfl, rfl, h, Nat.lt_of_lt_of_le hz (by decide), q⟩
theorem p_dget {kvs : List (Key × V)} {kk : Key} (h : H a = some (.dK kvs)) (e : valV kvs kk = some v) (q : Q v H) : pDGet Q (.ref a) (kV kk) H := ⟨a, v, rfl, by rw [← e]; exact DGet.k h, q⟩
theorem p_dgetS {kvs : List (Key × V)} {s : Str} (h : H a = some (.dK kvs)) (e : valV kvs (.inr s) = some v) (q : Q v H) : pDGet Q (.ref a) (.str s) H := p_dget (kk := .inr s) h e q
theorem p_isB {T cc : String} {b : Bool} (t : TyN H x T) (h : kitB T cc = some b) (q : Q (.bl b) H) : rIsB [x, .ty cc] H Q := ⟨x, T, cc, b, rfl, t, h, q⟩
theorem p_isC (h : H a = some (.ins C dx fs)) (cc : C8.InsC K C) (q : Q (.bl true) H) : rIsC K [.ref a, .ref C] H Q := .inl ⟨a, C, dx, fs, rfl, h, cc, q⟩
-- statements
theorem z_seq (h : tS { nx := tU D, rt := D.rt, bk := D.bk, ct := D.ct } σ H) : tSeq tS tU D σ H := h
theorem z_ret (h : te σ H D.rt) : tRet te D σ H := h
theorem z_retN (h : D.rt .non H) : tRetN D σ H := h
theorem z_set {n : Nat} (h : te σ H fun x H1 => D.nx (σ.set n (some x)) H1) : tAsg te (gName n) D σ H := h
theorem z_asg (h : te σ H fun x H1 => g x σ H1 D.nx) : tAsg te g D σ H := h
theorem z_drop (h : te σ H fun _ H1 => D.nx σ H1) : tDrop te D σ H := h
theorem z_if (h : t σ H fun b H1 => if b = true then tS D σ H1 else tU D σ H1) : tIfS t tS tU D σ H := h
theorem z_next (h : D.nx σ H) : tNext D σ H := h
theorem z_sfld (h : tv σ H fun y H1 => ta σ H1 fun x H2 => ∃ a C dx fs, x = .ref a ∧ H2 a = some (.ins C dx fs) ∧ Cls K C ∧ NoAttr K C f ∧ fs.length < 1000 ∧ D.nx σ (upd H2 a (.ins C dx (putF f y fs)))) : sFld K ta tv f D σ H := h
theorem z_iteT {A B : Prop} (h : A) : if true = true then A else B := iteT h
theorem z_iteF {A B : Prop} (h : B) : if false = true then A else B := iteF h
theorem z_iteNT {A B : Prop} (h : B) : if (!true) = true then A else B := iteF h
theorem z_iteNF {A B : Prop} (h : A) : if (!false) = true then A else B := iteT h
theorem z_iteD {P A B : Prop} [Decidable P] (hp : P) (h : A) : if decide P = true then A else B := by
  rw [if_pos (decide_eq_true hp)]
  exact h
theorem z_iteDF {P A B : Prop} [Decidable P] (hp : ¬ P) (h : B) : if decide P = true then A else B := by
  rw [if_neg (by simpa using hp)]
  exact h
theorem z_iteDN {P A B : Prop} [Decidable P] (hp : P) (h : B) : if (!decide P) = true then A else B := by
  rw [decide_eq_true hp]
  exact iteF h
theorem z_iteDNF {P A B : Prop} [Decidable P] (hp : ¬ P) (h : A) : if (!decide P) = true then A else B := by
  rw [decide_eq_false hp]
  exact iteT h
theorem z_ite2 {c : Bool} {A B : Prop} (h1 : c = true → A) (h2 : c = false → B) : if c = true then A else B := by
  cases c with
  | true => exact iteT (h1 rfl)
  | false => exact iteF (h2 rfl)
end
end Kx

/- part K2 -/
/-! # K2: joined readings, comprehensions -/
namespace Kx
open PySem PySem.Spec PyProof.Rows L2
/-! ### joined readings -/
def rIxA (K : PySem.W.Frag) : R2 := fun x y H Q => rIxT K x y H Q ∨ rIxL K x y H Q
def rEqA (K : PySem.W.Frag) : R2 := fun x y H Q => rEq x y H Q ∨ rEqD K x y H Q
def rNeA (K : PySem.W.Frag) : R2 := fun x y H Q => rNe x y H Q ∨ rNeD K x y H Q
def rLtA (K : PySem.W.Frag) : R2 := fun x y H Q => rLt x y H Q ∨ rLtT K x y H Q
def rInA (K : PySem.W.Frag) : R2 := fun x y H Q => rIn K false x y H Q ∨ rInC x y H Q
section
variable {X : Cx}
theorem i_A : IxR X (rIxA X.K) := ix_tup.or ix_list
theorem o_eqA (hu : X.A.units + 64 < cLine) : OpR X (compareOp .Eq) (rEqA X.K) := op_eq.or (op_eqD hu)
theorem o_neA (hu : X.A.units + 64 < cLine) : OpR X (compareOp .NotEq) (rNeA X.K) := op_ne.or (op_neD hu)
theorem o_ltA (hu : X.A.units < cLine) : OpR X (compareOp .Lt) (rLtA X.K) := OpR.or o_lt (op_ltT hu)
theorem o_inA : OpR X (compareOp .In) (rInA X.K) := OpR.or op_in_seq o_inC
theorem o_niA : OpR X (compareOp .NotIn) (rIn X.K true) := op_notIn_seq
end
mutual
theorem TD.dp {K : PySem.W.Frag} {H : Hp} : ∀ (d : PyData) (v : V), TD H v d → Dp K H v d
  | .none, _, h => by cases h; exact .non
  | .bool b, _, h => by cases h; exact .bl b
  | .int i, _, h => by cases h; exact .int i
  | .str x, _, h => by cases h; exact .str x
  | .tuple ds, _, h => by
    cases h with
    | tup h1 h2 => exact .tup (.inl (.inl h1)) (TDs.dp ds _ h2)
  | .list _, _, h => by cases h
  | .dict _, _, h => by cases h
theorem TDs.dp {K : PySem.W.Frag} {H : Hp} : ∀ (ds : List PyData) (vs : List V), TDs H vs ds → DpAll K H vs ds
  | [], _, h => by cases h; exact .nil
  | d :: ds, _, h => by
    cases h with
    | cons h1 h2 => exact .cons (TD.dp d _ h1) (TDs.dp ds _ h2)
end
theorem TDs.length {H : Hp} : ∀ {vs : List V} {ds : List PyData}, TDs H vs ds → vs.length = ds.length
  | _, _, .nil => rfl
  | _, _, .cons _ h => by
    rw [List.length_cons, List.length_cons, TDs.length h]
theorem TDs.get {H : Hp} : ∀ {vs : List V} {ds : List PyData} {i : Nat} {v : V}, TDs H vs ds → vs[i]? = some v → ∃ d, ds[i]? = some d ∧ TD H v d
  | _, _, _, _, .nil, h => by cases h
  | _, _, 0, _, .cons a h, e => by cases e; exact ⟨_, rfl, a⟩
  | _, _, i + 1, _, .cons a h, e => TDs.get (i := i) h e
theorem TDs.get' {H : Hp} : ∀ {vs : List V} {ds : List PyData} {i : Nat} {d : PyData}, TDs H vs ds → ds[i]? = some d → ∃ v, vs[i]? = some v ∧ TD H v d
  | _, _, _, _, .nil, h => by cases h
  | _, _, 0, _, .cons a h, e => by cases e; exact ⟨_, rfl, a⟩
  | _, _, i + 1, _, .cons a h, e => TDs.get' (i := i) h e
theorem TDs.append {H : Hp} : ∀ {vs ws : List V} {ds es : List PyData}, TDs H vs ds → TDs H ws es → TDs H (vs ++ ws) (ds ++ es)
  | _, _, _, _, .nil, h => h
  | _, _, _, _, .cons a b, h => .cons a (TDs.append b h)
theorem TDs.take {H : Hp} : ∀ {vs : List V} {ds : List PyData} (n : Nat), TDs H vs ds → TDs H (vs.take n) (ds.take n)
  | _, _, 0, _ => .nil
  | _, _, _ + 1, .nil => .nil
  | _, _, n + 1, .cons a h => .cons a (TDs.take n h)
theorem TDs.drop {H : Hp} : ∀ {vs : List V} {ds : List PyData} (n : Nat), TDs H vs ds → TDs H (vs.drop n) (ds.drop n)
  | _, _, 0, h => h
  | _, _, _ + 1, .nil => .nil
  | _, _, n + 1, .cons a h => TDs.drop n h
theorem TDs.ints {H : Hp} : ∀ (ns : List Int), TDs H (ns.map V.int) (ns.map PyData.int)
  | [] => .nil
  | n :: ns => .cons (.int n) (TDs.ints ns)
theorem TDs.ints_inv {H : Hp} : ∀ {vs : List V} {ns : List Int}, TDs H vs (ns.map PyData.int) → vs = ns.map V.int
  | _, [], .nil => rfl
  | _, n :: ns, .cons a h => by
    cases a
    rw [TDs.ints_inv h]
    rfl
theorem TD.tuple {H : Hp} {v : V} {ds : List PyData} (h : TD H v (.tuple ds)) : ∃ a xs, v = .ref a ∧ H a = some (.tup xs) ∧ TDs H xs ds := by
  cases h with
  | tup h1 h2 => exact ⟨_, _, rfl, h1, h2⟩
theorem TD.tupR {H : Hp} {a : Addr} {ds : List PyData} (h : TD H (.ref a) (.tuple ds)) : ∃ xs, H a = some (.tup xs) ∧ TDs H xs ds := by
  cases h with
  | tup h1 h2 => exact ⟨_, h1, h2⟩
theorem TD.intI {H : Hp} {v : V} {i : Int} (h : TD H v (.int i)) : v = .int i := by cases h; rfl
theorem TD.strI {H : Hp} {v : V} {i : Str} (h : TD H v (.str i)) : v = .str i := by cases h; rfl
theorem TD.sm {H H' : Hp} {v : V} {d : PyData} (s : Same H H') (h : TD H v d) : TD H' v d := TD.mono (Kx.Same.tk s) _ _ h
theorem TDs.sm {H H' : Hp} {v : List V} {d : List PyData} (s : Same H H') (h : TDs H v d) : TDs H' v d := TDs.mono (Kx.Same.tk s) _ _ h

/-! ### all that is no list is kept -/
def NK (H H' : Hp) : Prop := ∀ b o, nlst o = true → H b = some o → H' b = some o
theorem NK.tk {H H' : Hp} (s : NK H H') : TK H H' := fun a xs e => s a _ rfl e
theorem Same.nk {H H' : Hp} (s : Same H H') : NK H H' := fun b o _ e => s b o e
theorem SB.nk {d : Addr} {H H' : Hp} (s : SB d H H') (D : Die H d) : NK H H' := fun b o n e => s.get D e n
theorem NK.trans {H H1 H2 : Hp} (a : NK H H1) (b : NK H1 H2) : NK H H2 := fun c o n e => b c o n (a c o n e)
theorem NK.refl {H : Hp} : NK H H := fun _ _ _ e => e
theorem nk_upd {H : Hp} {p : Addr} {xs ys : List V} (h : H p = some (.lst xs)) : NK H (upd H p (.lst ys)) := fun a u n e => by
  have : a ≠ p := by
    intro z
    subst z
    rw [h] at e
    cases e
    cases n
  rw [upd_ne this]
  exact e
theorem nk_new {H : Hp} {p : Addr} {o : HO} (h : H p = none) : NK H (upd H p o) := Kx.Same.nk (same_new h)

/-! ### comprehensions -/
/-- a relation of heaps that a block's turns keep -/
structure Rl (Rel : Hp → Hp → Prop) (H0 : Hp) (D : Addr) : Prop where
  rf : Rel H0 H0
  tr : ∀ H H', Rel H0 H → Rel H H' → Rel H0 H'
  kp : ∀ H H' o, Rel H0 H → Rel H H' → H D = some o → H' D = some o
  up : ∀ H o, Rel H0 H → Rel H0 (upd H D o)
  nk : ∀ H H', Rel H0 H → Rel H H' → NK H H'
theorem rl_same {H0 : Hp} {D : Addr} (hD : H0 D = none) : Rl Same H0 D :=
  ⟨Same.refl _, fun _ _ a b => a.trans b, fun _ _ _ _ b e => b _ _ e, fun H o a b u e => by
    rw [upd_ne (ne_of_none e hD)]
    exact a _ _ e, fun _ _ _ b => Kx.Same.nk b⟩
theorem rl_sb {H0 : Hp} {D d : Addr} (dd : Die H0 d) (hD : H0 D = none) : Rl (SB d) H0 D := by
  have hne : D ≠ d := by
    obtain ⟨a, b, c, e⟩ := dd
    exact (ne_of_none e hD).symm
  refine ⟨SB.of_same dd (Same.refl _), fun _ _ a b => a.trans b, fun _ _ o _ b e => b.keep _ _ hne e, fun H o a => ⟨?_, fun b u n e => ?_⟩, fun H _ a b => b.nk a.die⟩
  · obtain ⟨a, b, c, e⟩ := a.die
    refine ⟨a, b, c, ?_⟩
    rw [upd_ne hne.symm]
    exact e
  · rw [upd_ne (ne_of_none e hD)]
    exact a.keep _ _ n e
/-- i turns are done -/
def LPv (Rel : Hp → Hp → Prop) (H0 : Hp) (D : Addr) (R : Nat → List V → Hp → Prop) (i : Nat) (H : Hp) : Prop := Rel H0 H ∧ ∃ acc, H D = some (.lst acc) ∧ acc.length ≤ i ∧ R i acc H
def LPut (D : Addr) (Nx : Hp → Prop) : VK := fun y H => ∃ acc, H D = some (.lst acc) ∧ acc.length < sizeLine ∧ Nx (upd H D (.lst (acc ++ [y])))
section
variable {Rel : Hp → Hp → Prop} {H0 H H' : Hp} {D a b : Addr} {R : Nat → List V → Hp → Prop} {i n : Nat} {acc : List V} {y : V} {K : PySem.W.Frag} {xs ys : List V} {g g1 : TG} {tt tt1 : TT} {te : TE} {vs vs1 : List Nat} {σ : L2.St} {Qd : Hp → Prop}
theorem l_put (ok : Rl Rel H0 D) (hR : ∀ i acc H H', NK H H' → R i acc H → R i acc H') (hi : i ≤ 100000) (r : Rel H0 H) (e : H D = some (.lst acc)) (hl : acc.length ≤ i) (r' : Rel H H') (q : R (i + 1) (acc ++ [y]) H') : LPut D (LPv Rel H0 D R (i + 1)) y H' := by
  have e' := ok.kp _ _ _ r r' e
  refine ⟨acc, e', Nat.lt_of_le_of_lt (Nat.le_trans hl hi) (by decide), ok.up _ _ (ok.tr _ _ r r'), _, upd_same, ?_, hR _ _ _ _ (nk_upd e') q⟩
  rw [List.length_append]
  exact Nat.add_le_add_right hl 1
theorem l_skip (ok : Rl Rel H0 D) (r : Rel H0 H) (e : H D = some (.lst acc)) (hl : acc.length ≤ i) (r' : Rel H H') (q : R (i + 1) acc H') : LPv Rel H0 D R (i + 1) H' :=
  ⟨ok.tr _ _ r r', acc, ok.kp _ _ _ r r' e, Nat.le_succ_of_le hl, q⟩
/-- the general form: J runs n turns on heaps that C holds of -/
theorem lc_J {J : It} (ok : Rl Rel H0 D) (hD : H0 D = none) (C : Hp → Prop) (hC : ∀ H, Rel H0 H → C H) (hgo : ∀ i H, C H → i < n → J.go i H) (hst : ∀ H, C H → J.stop n H) (hn : n ≤ 100000)
    (hR : ∀ i acc H H', NK H H' → R i acc H → R i acc H') (h0 : R 0 [] H0)
    (hs : ∀ i x acc H H', i < n → Rel H0 H → H D = some (.lst acc) → acc.length ≤ i → R i acc H → C H → J.yld i H x H' → g x (wipe σ vs) H' fun σ2 H2 => wipe σ2 vs = wipe σ vs ∧ tt σ2 H2 fun b H3 =>
      if b = true then te σ2 H3 (LPut D (LPv Rel H0 D R (i + 1))) else LPv Rel H0 D R (i + 1) H3)
    (hd : ∀ H ys, Rel H0 H → H D = some (.lst ys) → R n ys H → Qd H) :
    ∃ W : Nat → Nat → Hp → Prop, (∃ m, W 0 m (upd H0 D (.lst []))) ∧ ∀ i m H, W i m H →
      (J.stop i H ∧ Qd H) ∨ (J.go i H ∧ ∃ Nx : Hp → Prop, (∀ H', Nx H' → ∃ m', m' < m ∧ W (i + 1) m' H') ∧ ∀ x H', J.yld i H x H' → g x (wipe σ vs) H' fun σ2 H2 => wipe σ2 vs = wipe σ vs ∧ tt σ2 H2 fun b H3 =>
        if b = true then te σ2 H3 fun y H4 => ∃ acc, H4 D = some (.lst acc) ∧ acc.length < sizeLine ∧ Nx (upd H4 D (.lst (acc ++ [y]))) else Nx H3) := by
  refine ⟨fun i m H => m = n - i ∧ i ≤ n ∧ LPv Rel H0 D R i H, ⟨n, by simp, Nat.zero_le _, ok.up _ _ ok.rf, [], upd_same, Nat.le_refl _, hR _ _ _ _ (nk_new hD) h0⟩, ?_⟩
  rintro i m H ⟨rfl, hi, r, acc, e, hl, q⟩
  have c := hC H r
  by_cases hlt : i < n
  · exact .inr ⟨hgo i H c hlt, LPv Rel H0 D R (i + 1), fun H' p' => ⟨n - (i + 1), by omega, rfl, hlt, p'⟩, fun x H' y => hs i x acc H H' hlt r e hl q c y⟩
  · have e2 : i = n := by omega
    subst e2
    exact .inl ⟨hst H c, hd H acc r e q⟩
/-- over a tuple -/
theorem lcT (ok : Rl Rel H0 D) (hD : H0 D = none) (hx : H0 a = some (.tup xs)) (hn : xs.length ≤ 100000)
    (hR : ∀ i acc H H', NK H H' → R i acc H → R i acc H') (h0 : R 0 [] H0)
    (hs : ∀ i x acc H, xs[i]? = some x → i < xs.length → Rel H0 H → H D = some (.lst acc) → acc.length ≤ i → R i acc H → g x (wipe σ vs) H fun σ2 H2 => wipe σ2 vs = wipe σ vs ∧ tt σ2 H2 fun b H3 =>
      if b = true then te σ2 H3 (LPut D (LPv Rel H0 D R (i + 1))) else LPv Rel H0 D R (i + 1) H3)
    (hd : ∀ H ys, Rel H0 H → H D = some (.lst ys) → R xs.length ys H → Qd H) :
    ∃ W : Nat → Nat → Hp → Prop, (∃ m, W 0 m (upd H0 D (.lst []))) ∧ ∀ i m H, W i m H →
      ((Itt K a).stop i H ∧ Qd H) ∨ ((Itt K a).go i H ∧ ∃ Nx : Hp → Prop, (∀ H', Nx H' → ∃ m', m' < m ∧ W (i + 1) m' H') ∧ ∀ x H', (Itt K a).yld i H x H' → g x (wipe σ vs) H' fun σ2 H2 => wipe σ2 vs = wipe σ vs ∧ tt σ2 H2 fun b H3 =>
        if b = true then te σ2 H3 fun y H4 => ∃ acc, H4 D = some (.lst acc) ∧ acc.length < sizeLine ∧ Nx (upd H4 D (.lst (acc ++ [y]))) else Nx H3) := by
  refine lc_J (n := xs.length) ok hD (fun H => SqT K H a xs) (fun H r => .inl (.inl ((ok.nk _ _ ok.rf r) _ _ rfl hx))) (fun i H c hi => ⟨xs, xs[i], c, by simp [hi]⟩) (fun H c => ⟨xs, c, Nat.le_refl _⟩) hn hR h0 (fun i x acc H H' hi r e hl q c y => ?_) hd
  obtain ⟨e1, y⟩ := y
  subst e1
  exact hs i x acc _ (y xs c) hi r e hl q
/-- over a list that is not the new one -/
theorem lcL (ok : Rl Rel H0 D) (hD : H0 D = none) (hx : ∀ H, Rel H0 H → H a = some (.lst xs)) (hn : xs.length ≤ 100000)
    (hR : ∀ i acc H H', NK H H' → R i acc H → R i acc H') (h0 : R 0 [] H0)
    (hs : ∀ i x acc H, xs[i]? = some x → i < xs.length → Rel H0 H → H D = some (.lst acc) → acc.length ≤ i → R i acc H → g x (wipe σ vs) H fun σ2 H2 => wipe σ2 vs = wipe σ vs ∧ tt σ2 H2 fun b H3 =>
      if b = true then te σ2 H3 (LPut D (LPv Rel H0 D R (i + 1))) else LPv Rel H0 D R (i + 1) H3)
    (hd : ∀ H ys, Rel H0 H → H D = some (.lst ys) → R xs.length ys H → Qd H) :
    ∃ W : Nat → Nat → Hp → Prop, (∃ m, W 0 m (upd H0 D (.lst []))) ∧ ∀ i m H, W i m H →
      ((Itl K a).stop i H ∧ Qd H) ∨ ((Itl K a).go i H ∧ ∃ Nx : Hp → Prop, (∀ H', Nx H' → ∃ m', m' < m ∧ W (i + 1) m' H') ∧ ∀ x H', (Itl K a).yld i H x H' → g x (wipe σ vs) H' fun σ2 H2 => wipe σ2 vs = wipe σ vs ∧ tt σ2 H2 fun b H3 =>
        if b = true then te σ2 H3 fun y H4 => ∃ acc, H4 D = some (.lst acc) ∧ acc.length < sizeLine ∧ Nx (upd H4 D (.lst (acc ++ [y]))) else Nx H3) := by
  refine lc_J (n := xs.length) ok hD (fun H => SqL K H a xs) (fun H r => .inl (.inl (hx H r))) (fun i H c hi => ⟨xs, xs[i], c, by simp [hi]⟩) (fun H c => ⟨xs, c, Nat.le_refl _⟩) hn hR h0 (fun i x acc H H' hi r e hl q c y => ?_) hd
  obtain ⟨e1, y⟩ := y
  subst e1
  exact hs i x acc _ (y xs c) hi r e hl q
/-- over a range -/
theorem lcR {lo : Int} (ok : Rl Rel H0 D) (hD : H0 D = none) (hn : n ≤ 100000)
    (hR : ∀ i acc H H', NK H H' → R i acc H → R i acc H') (h0 : R 0 [] H0)
    (hs : ∀ i acc H, i < n → Rel H0 H → H D = some (.lst acc) → acc.length ≤ i → R i acc H → g (.int (lo + (i : Nat))) (wipe σ vs) H fun σ2 H2 => wipe σ2 vs = wipe σ vs ∧ tt σ2 H2 fun b H3 =>
      if b = true then te σ2 H3 (LPut D (LPv Rel H0 D R (i + 1))) else LPv Rel H0 D R (i + 1) H3)
    (hd : ∀ H ys, Rel H0 H → H D = some (.lst ys) → R n ys H → Qd H) :
    ∃ W : Nat → Nat → Hp → Prop, (∃ m, W 0 m (upd H0 D (.lst []))) ∧ ∀ i m H, W i m H →
      ((Itr lo n).stop i H ∧ Qd H) ∨ ((Itr lo n).go i H ∧ ∃ Nx : Hp → Prop, (∀ H', Nx H' → ∃ m', m' < m ∧ W (i + 1) m' H') ∧ ∀ x H', (Itr lo n).yld i H x H' → g x (wipe σ vs) H' fun σ2 H2 => wipe σ2 vs = wipe σ vs ∧ tt σ2 H2 fun b H3 =>
        if b = true then te σ2 H3 fun y H4 => ∃ acc, H4 D = some (.lst acc) ∧ acc.length < sizeLine ∧ Nx (upd H4 D (.lst (acc ++ [y]))) else Nx H3) := by
  refine lc_J (n := n) ok hD (fun H => True) (fun H r => trivial) (fun i H c hi => hi) (fun H c => Nat.le_refl _) hn hR h0 (fun i x acc H H' hi r e hl q c y => ?_) hd
  obtain ⟨e1, e2⟩ := y
  subst e1
  subst e2
  exact hs i acc _ hi r e hl q
/-- over a text -/
theorem lcS {z : Str} (ok : Rl Rel H0 D) (hD : H0 D = none) (hn : z.cps.size ≤ 100000)
    (hR : ∀ i acc H H', NK H H' → R i acc H → R i acc H') (h0 : R 0 [] H0)
    (hs : ∀ i x acc H, i < z.cps.size → (Its z).yld i H x H → Rel H0 H → H D = some (.lst acc) → acc.length ≤ i → R i acc H → g x (wipe σ vs) H fun σ2 H2 => wipe σ2 vs = wipe σ vs ∧ tt σ2 H2 fun b H3 =>
      if b = true then te σ2 H3 (LPut D (LPv Rel H0 D R (i + 1))) else LPv Rel H0 D R (i + 1) H3)
    (hd : ∀ H ys, Rel H0 H → H D = some (.lst ys) → R z.cps.size ys H → Qd H) :
    ∃ W : Nat → Nat → Hp → Prop, (∃ m, W 0 m (upd H0 D (.lst []))) ∧ ∀ i m H, W i m H →
      ((Its z).stop i H ∧ Qd H) ∨ ((Its z).go i H ∧ ∃ Nx : Hp → Prop, (∀ H', Nx H' → ∃ m', m' < m ∧ W (i + 1) m' H') ∧ ∀ x H', (Its z).yld i H x H' → g x (wipe σ vs) H' fun σ2 H2 => wipe σ2 vs = wipe σ vs ∧ tt σ2 H2 fun b H3 =>
        if b = true then te σ2 H3 fun y H4 => ∃ acc, H4 D = some (.lst acc) ∧ acc.length < sizeLine ∧ Nx (upd H4 D (.lst (acc ++ [y]))) else Nx H3) := by
  refine lc_J (n := z.cps.size) ok hD (fun H => True) (fun H r => trivial) (fun i H c hi => hi) (fun H c => Nat.le_refl _) hn hR h0 (fun i x acc H H' hi r e hl q c y => ?_) hd
  have y' := y
  obtain ⟨e1, e2⟩ := y
  subst e1
  exact hs i x acc _ hi y' r e hl q
/-- over zip of two tuples -/
theorem lcZ (ok : Rl Rel H0 D) (hRel : ∀ H T o, Rel H0 H → H T = none → Rel H (upd H T o)) (hD : H0 D = none) (hx : H0 a = some (.tup xs)) (hy : H0 b = some (.tup ys)) (hn1 : n ≤ xs.length) (hn2 : n ≤ ys.length) (hn3 : xs.length ≤ n ∨ ys.length ≤ n) (hn : n ≤ 100000)
    (hR : ∀ i acc H H', NK H H' → R i acc H → R i acc H') (h0 : R 0 [] H0)
    (hs : ∀ i x y T acc H H', xs[i]? = some x → ys[i]? = some y → i < n → Rel H0 H → H D = some (.lst acc) → acc.length ≤ i → R i acc H → Rel H H' → H' T = some (.tup [x, y]) → g (.ref T) (wipe σ vs) H' fun σ2 H2 => wipe σ2 vs = wipe σ vs ∧ tt σ2 H2 fun b H3 =>
      if b = true then te σ2 H3 (LPut D (LPv Rel H0 D R (i + 1))) else LPv Rel H0 D R (i + 1) H3)
    (hd : ∀ H ys, Rel H0 H → H D = some (.lst ys) → R n ys H → Qd H) :
    ∃ W : Nat → Nat → Hp → Prop, (∃ m, W 0 m (upd H0 D (.lst []))) ∧ ∀ i m H, W i m H →
      ((RZ.ItzT K a b).stop i H ∧ Qd H) ∨ ((RZ.ItzT K a b).go i H ∧ ∃ Nx : Hp → Prop, (∀ H', Nx H' → ∃ m', m' < m ∧ W (i + 1) m' H') ∧ ∀ x H', (RZ.ItzT K a b).yld i H x H' → g x (wipe σ vs) H' fun σ2 H2 => wipe σ2 vs = wipe σ vs ∧ tt σ2 H2 fun b H3 =>
        if b = true then te σ2 H3 fun y H4 => ∃ acc, H4 D = some (.lst acc) ∧ acc.length < sizeLine ∧ Nx (upd H4 D (.lst (acc ++ [y]))) else Nx H3) := by
  refine lc_J (n := n) ok hD (fun H => SqT K H a xs ∧ SqT K H b ys) (fun H r => ⟨.inl (.inl ((ok.nk _ _ ok.rf r) _ _ rfl hx)), .inl (.inl ((ok.nk _ _ ok.rf r) _ _ rfl hy))⟩) (fun i H c hi => ⟨xs, ys, xs[i], ys[i], c.1, c.2, by simp [Nat.lt_of_lt_of_le hi hn1], by simp [Nat.lt_of_lt_of_le hi hn2]⟩)
    (fun H c => ⟨xs, ys, c.1, c.2, hn3⟩) hn hR h0 (fun i x acc H H' hi r e hl q c y => ?_) hd
  obtain ⟨T, x', y', rfl, hT, rfl, f1, f2⟩ := y
  exact hs i x' y' T acc H _ (f1 xs c.1) (f2 ys c.2) hi r e hl q (hRel _ _ _ r hT) upd_same

/-- what a turn goes on to -/
def LK (σ : L2.St) (vs : List Nat) (tt : TT) (te : TE) (D : Addr) (Nx : Hp → Prop) : L2.St → Hp → Prop := fun σ2 H2 => wipe σ2 vs = wipe σ vs ∧ tt σ2 H2 fun b H3 => if b = true then te σ2 H3 (LPut D Nx) else Nx H3
/-- one turn from H' -/
def LTurn (Rel : Hp → Hp → Prop) (R : Nat → List V → Hp → Prop) (σ : L2.St) (vs : List Nat) (g : TG) (tt : TT) (te : TE) (i : Nat) (x : V) (acc : List V) (H H' : Hp) : Prop :=
  ∀ (D : Addr) (Nx : Hp → Prop), (∀ y H4, Rel H H4 → R (i + 1) (acc ++ [y]) H4 → LPut D Nx y H4) → (∀ H4, Rel H H4 → R (i + 1) acc H4 → Nx H4) → g x (wipe σ vs) H' (LK σ vs tt te D Nx)
def pLc (J : It) (g : TG) (tt : TT) (te : TE) (vs : List Nat) (σ : L2.St) (H1 : Hp) (Q : VK) : Prop := ∀ D, H1 D = none → ∃ W : Nat → Nat → Hp → Prop, (∃ m, W 0 m (upd H1 D (.lst []))) ∧ ∀ i m H, W i m H →
  (J.stop i H ∧ Q (.ref D) H) ∨ (J.go i H ∧ ∃ Nx : Hp → Prop, (∀ H', Nx H' → ∃ m', m' < m ∧ W (i + 1) m' H') ∧ ∀ x H', J.yld i H x H' → g x (wipe σ vs) H' fun σ2 H2 => wipe σ2 vs = wipe σ vs ∧ tt σ2 H2 fun b H3 =>
    if b = true then te σ2 H3 fun y H4 => ∃ acc, H4 D = some (.lst acc) ∧ acc.length < sizeLine ∧ Nx (upd H4 D (.lst (acc ++ [y]))) else Nx H3)
def pLcT (K : PySem.W.Frag) (g : TG) (tt : TT) (te : TE) (vs : List Nat) (σ : L2.St) (Q : VK) : VK := fun x H1 => ∃ a, x = .ref a ∧ (∃ xs, SqT K H1 a xs) ∧ pLc (Itt K a) g tt te vs σ H1 Q
def pLcL (K : PySem.W.Frag) (g : TG) (tt : TT) (te : TE) (vs : List Nat) (σ : L2.St) (Q : VK) : VK := fun x H1 => ∃ a, x = .ref a ∧ (∃ xs, SqL K H1 a xs) ∧ pLc (Itl K a) g tt te vs σ H1 Q
def pLcS (g : TG) (tt : TT) (te : TE) (vs : List Nat) (σ : L2.St) (Q : VK) : VK := fun v H1 => ∃ x, v = .str x ∧ pLc (Its x) g tt te vs σ H1 Q
def pLcR (g : TG) (tt : TT) (te : TE) (vs : List Nat) (σ : L2.St) (Q : VK) : List V → Hp → Prop := fun vs' H1 => ∃ j : Int, vs' = [.int j] ∧ -(2 ^ 62) ≤ j ∧ j < 2 ^ 62 ∧ pLc (Itr 0 j.toNat) g tt te vs σ H1 Q
def pLcZ (K : PySem.W.Frag) (g : TG) (tt : TT) (te : TE) (vs : List Nat) (σ : L2.St) (Q : VK) : List V → Hp → Prop := fun vs' H1 => ∃ a b xs ys, vs' = [.ref a, .ref b] ∧ ((SqL K H1 a xs ∧ SqL K H1 b ys ∧ pLc (Itz K a b) g tt te vs σ H1 Q) ∨ (SqT K H1 a xs ∧ SqT K H1 b ys ∧ pLc (RZ.ItzT K a b) g tt te vs σ H1 Q))
theorem z_lcT {tl : TE} {Q : VK} (h : tl σ H (pLcT K g tt te vs σ Q)) : tLc (iTup K tl) g tt te vs σ H Q := h
theorem z_lcL {tl : TE} {Q : VK} (h : tl σ H (pLcL K g tt te vs σ Q)) : tLc (iList K tl) g tt te vs σ H Q := h
theorem z_lcS {tl : TE} {Q : VK} (h : tl σ H (pLcS g tt te vs σ Q)) : tLc (iStr tl) g tt te vs σ H Q := h
theorem z_lcR {ta : TA} {Q : VK} (h : ta σ H (pLcR g tt te vs σ Q)) : tLc (iRng1 ta) g tt te vs σ H Q := h
theorem z_lcZ {ta : TA} {Q : VK} (h : ta σ H (pLcZ K g tt te vs σ Q)) : tLc (RZ.iZipA K ta) g tt te vs σ H Q := h
theorem z_wip {σ2 : L2.St} {A : Prop} (h : wipe σ2 vs = wipe σ vs) (q : A) : wipe σ2 vs = wipe σ vs ∧ A := ⟨h, q⟩
theorem z_LK {σ2 : L2.St} {Nx : Hp → Prop} (h : wipe σ2 vs = wipe σ vs) (q : tt σ2 H fun b H3 => if b = true then te σ2 H3 (LPut D Nx) else Nx H3) : LK σ vs tt te D Nx σ2 H := ⟨h, q⟩
theorem z_yes {QB : Bool → Hp → Prop} (q : QB true H) : tYes σ H QB := q
section
variable (Rel) (R) (hR : ∀ i acc H H', NK H H' → R i acc H → R i acc H') {Q : VK}
include hR
theorem p_lcT (ok : ∀ D, H D = none → Rl Rel H D) (ha : H a = some (.tup xs)) (hn : xs.length ≤ 100000) (h0 : R 0 [] H) (hs : ∀ i x acc H', xs[i]? = some x → i < xs.length → Rel H H' → R i acc H' → LTurn Rel R σ vs g tt te i x acc H' H')
    (hd : ∀ D H' ys, H D = none → Rel H H' → H' D = some (.lst ys) → R xs.length ys H' → Q (.ref D) H') : pLcT K g tt te vs σ Q (.ref a) H :=
  ⟨a, rfl, ⟨xs, .inl (.inl ha)⟩, fun D hD => lcT (ok D hD) hD ha hn hR h0 (fun i x acc H' hx hi r e hl q => hs i x acc H' hx hi r q D _ (fun y H4 r4 q4 => l_put (ok D hD) hR (Nat.le_trans (Nat.le_of_lt hi) hn) r e hl r4 q4) (fun H4 r4 q4 => l_skip (ok D hD) r e hl r4 q4)) (fun H' ys r e q => hd D H' ys hD r e q)⟩
theorem p_lcL (ok : ∀ D, H D = none → Rl Rel H D) (ha0 : H a = some (.lst xs)) (ha : ∀ H', Rel H H' → H' a = some (.lst xs)) (hn : xs.length ≤ 100000) (h0 : R 0 [] H) (hs : ∀ i x acc H', xs[i]? = some x → i < xs.length → Rel H H' → R i acc H' → LTurn Rel R σ vs g tt te i x acc H' H')
    (hd : ∀ D H' ys, H D = none → Rel H H' → H' D = some (.lst ys) → R xs.length ys H' → Q (.ref D) H') : pLcL K g tt te vs σ Q (.ref a) H :=
  ⟨a, rfl, ⟨xs, .inl (.inl ha0)⟩, fun D hD => lcL (ok D hD) hD ha hn hR h0 (fun i x acc H' hx hi r e hl q => hs i x acc H' hx hi r q D _ (fun y H4 r4 q4 => l_put (ok D hD) hR (Nat.le_trans (Nat.le_of_lt hi) hn) r e hl r4 q4) (fun H4 r4 q4 => l_skip (ok D hD) r e hl r4 q4)) (fun H' ys r e q => hd D H' ys hD r e q)⟩
theorem p_lcS {z : Str} (ok : ∀ D, H D = none → Rl Rel H D) (hn : z.cps.size ≤ 100000) (h0 : R 0 [] H) (hs : ∀ i x acc H', i < z.cps.size → (Its z).yld i H' x H' → Rel H H' → R i acc H' → LTurn Rel R σ vs g tt te i x acc H' H')
    (hd : ∀ D H' ys, H D = none → Rel H H' → H' D = some (.lst ys) → R z.cps.size ys H' → Q (.ref D) H') : pLcS g tt te vs σ Q (.str z) H :=
  ⟨z, rfl, fun D hD => lcS (ok D hD) hD hn hR h0 (fun i x acc H' hi y r e hl q => hs i x acc H' hi y r q D _ (fun y H4 r4 q4 => l_put (ok D hD) hR (Nat.le_trans (Nat.le_of_lt hi) hn) r e hl r4 q4) (fun H4 r4 q4 => l_skip (ok D hD) r e hl r4 q4)) (fun H' ys r e q => hd D H' ys hD r e q)⟩
theorem p_lcR {j : Int} (ok : ∀ D, H D = none → Rl Rel H D) (hn : j ≤ 100000) (h1 : 0 ≤ j) (h0 : R 0 [] H) (hs : ∀ (i : Nat) acc H', i < j.toNat → Rel H H' → R i acc H' → LTurn Rel R σ vs g tt te i (.int (0 + (i : Nat))) acc H' H')
    (hd : ∀ D H' ys, H D = none → Rel H H' → H' D = some (.lst ys) → R j.toNat ys H' → Q (.ref D) H') : pLcR g tt te vs σ Q [.int j] H :=
  ⟨j, rfl, by omega, by omega, fun D hD => lcR (ok D hD) hD (by omega) hR h0 (fun i acc H' hi r e hl q => hs i acc H' hi r q D _ (fun y H4 r4 q4 => l_put (ok D hD) hR (by omega) r e hl r4 q4) (fun H4 r4 q4 => l_skip (ok D hD) r e hl r4 q4)) (fun H' ys r e q => hd D H' ys hD r e q)⟩
theorem p_lcZ (ok : ∀ D, H D = none → Rl Rel H D) (hRel : ∀ H1 T o, Rel H H1 → H1 T = none → Rel H1 (upd H1 T o)) (ha : H a = some (.tup xs)) (hb : H b = some (.tup ys)) (hn1 : n ≤ xs.length) (hn2 : n ≤ ys.length) (hn3 : xs.length ≤ n ∨ ys.length ≤ n) (hn : n ≤ 100000) (h0 : R 0 [] H)
    (hs : ∀ i x y T acc H1 H', xs[i]? = some x → ys[i]? = some y → i < n → Rel H H1 → R i acc H1 → Rel H1 H' → H' T = some (.tup [x, y]) → LTurn Rel R σ vs g tt te i (.ref T) acc H1 H')
    (hd : ∀ D H' ys, H D = none → Rel H H' → H' D = some (.lst ys) → R n ys H' → Q (.ref D) H') : pLcZ K g tt te vs σ Q [.ref a, .ref b] H :=
  ⟨a, b, xs, ys, rfl, .inr ⟨.inl (.inl ha), .inl (.inl hb), fun D hD => lcZ (ok D hD) hRel hD ha hb hn1 hn2 hn3 hn hR h0 (fun i x y T acc H1 H' hx hy hi r e hl q r' eT => hs i x y T acc H1 H' hx hy hi r q r' eT D _ (fun y H4 r4 q4 => l_put (ok D hD) hR (Nat.le_trans (Nat.le_of_lt hi) hn) r e hl r4 q4) (fun H4 r4 q4 => l_skip (ok D hD) r e hl r4 q4)) (fun H' ys r e q => hd D H' ys hD r e q)⟩⟩
end
end
theorem okS {H : Hp} : ∀ D, H D = none → Rl Same H D := fun _ h => rl_same h
theorem okD {H : Hp} {d : Addr} (h : Die H d) : ∀ D, H D = none → Rl (SB d) H D := fun _ e => rl_sb h e
theorem relS {H : Hp} : ∀ H1 T o, Same H H1 → H1 T = none → Same H1 (upd H1 T o) := fun _ _ _ _ h => same_new h
/-! ### two clauses -/
def pIn (J1 : It) (g1 : TG) (tt1 : TT) (te : TE) (vs1 : List Nat) (σ2 : L2.St) (D : Addr) (Nx : Hp → Prop) (H4 : Hp) : Prop := ∃ W1 : Nat → Nat → Hp → Prop, (∃ m, W1 0 m H4) ∧ ∀ j k H, W1 j k H →
  (J1.stop j H ∧ Nx H) ∨ (J1.go j H ∧ ∃ Nx1 : Hp → Prop, (∀ H', Nx1 H' → ∃ k', k' < k ∧ W1 (j + 1) k' H') ∧ ∀ x H', J1.yld j H x H' → g1 x (wipe σ2 vs1) H' (LK σ2 vs1 tt1 te D Nx1))
def pInT (K : PySem.W.Frag) (g1 : TG) (tt1 : TT) (te : TE) (vs1 : List Nat) (σ2 : L2.St) (D : Addr) (Nx : Hp → Prop) : VK := fun x H1 => ∃ a, x = .ref a ∧ (∃ xs, SqT K H1 a xs) ∧ pIn (Itt K a) g1 tt1 te vs1 σ2 D Nx H1
def pInL (K : PySem.W.Frag) (g1 : TG) (tt1 : TT) (te : TE) (vs1 : List Nat) (σ2 : L2.St) (D : Addr) (Nx : Hp → Prop) : VK := fun x H1 => ∃ a, x = .ref a ∧ (∃ xs, SqL K H1 a xs) ∧ pIn (Itl K a) g1 tt1 te vs1 σ2 D Nx H1
/-- what an outer turn goes on to -/
def LK2 (σ : L2.St) (vs : List Nat) (tt : TT) (wi1 : TI) (g1 : TG) (tt1 : TT) (te : TE) (vs1 : List Nat) (D : Addr) (Nx : Hp → Prop) : L2.St → Hp → Prop := fun σ2 H2 => wipe σ2 vs = wipe σ vs ∧ tt σ2 H2 fun b H3 =>
  if b = true then wi1 σ2 H3 (fun J1 H4 => pIn J1 g1 tt1 te vs1 σ2 D Nx H4) else Nx H3
def pLc2 (J : It) (g : TG) (tt : TT) (wi1 : TI) (g1 : TG) (tt1 : TT) (te : TE) (vs vs1 : List Nat) (σ : L2.St) (H1 : Hp) (Q : VK) : Prop := ∀ D, H1 D = none → ∃ W : Nat → Nat → Hp → Prop, (∃ m, W 0 m (upd H1 D (.lst []))) ∧ ∀ i m H, W i m H →
  (J.stop i H ∧ Q (.ref D) H) ∨ (J.go i H ∧ ∃ Nx : Hp → Prop, (∀ H', Nx H' → ∃ m', m' < m ∧ W (i + 1) m' H') ∧ ∀ x H', J.yld i H x H' → g x (wipe σ vs) H' (LK2 σ vs tt wi1 g1 tt1 te vs1 D Nx))
def pLc2T (K : PySem.W.Frag) (g : TG) (tt : TT) (wi1 : TI) (g1 : TG) (tt1 : TT) (te : TE) (vs vs1 : List Nat) (σ : L2.St) (Q : VK) : VK := fun x H1 => ∃ a, x = .ref a ∧ (∃ xs, SqT K H1 a xs) ∧ pLc2 (Itt K a) g tt wi1 g1 tt1 te vs vs1 σ H1 Q
def pLc2L (K : PySem.W.Frag) (g : TG) (tt : TT) (wi1 : TI) (g1 : TG) (tt1 : TT) (te : TE) (vs vs1 : List Nat) (σ : L2.St) (Q : VK) : VK := fun x H1 => ∃ a, x = .ref a ∧ (∃ xs, SqL K H1 a xs) ∧ pLc2 (Itl K a) g tt wi1 g1 tt1 te vs vs1 σ H1 Q
/-- the state within a second clause: the list at D holds acc -/
structure InAt (Rel : Hp → Hp → Prop) (H0 : Hp) (D : Addr) (R : List V → Hp → Prop) (H : Hp) : Prop where
  rel : Rel H0 H
  at_ : ∃ acc, H D = some (.lst acc) ∧ R acc H
section
variable {Rel : Hp → Hp → Prop} {H0 H H' : Hp} {D a b : Addr} {R : Nat → List V → Hp → Prop} {i n : Nat} {acc : List V} {y : V} {K : PySem.W.Frag} {xs ys : List V} {g g1 : TG} {tt tt1 : TT} {te : TE} {wi1 : TI} {vs vs1 : List Nat} {σ : L2.St} {Nx : Hp → Prop}
theorem z_lc2T {tl : TE} {Q : VK} (h : tl σ H (pLc2T K g tt wi1 g1 tt1 te vs vs1 σ Q)) : tLc2 (iTup K tl) g tt wi1 g1 tt1 te vs vs1 σ H Q := h
theorem z_lc2L {tl : TE} {Q : VK} (h : tl σ H (pLc2L K g tt wi1 g1 tt1 te vs vs1 σ Q)) : tLc2 (iList K tl) g tt wi1 g1 tt1 te vs vs1 σ H Q := h
theorem z_inT {tl : TE} (h : tl σ H (pInT K g1 tt1 te vs1 σ D Nx)) : iTup K tl σ H (fun J1 H4 => pIn J1 g1 tt1 te vs1 σ D Nx H4) := h
theorem z_inL {tl : TE} (h : tl σ H (pInL K g1 tt1 te vs1 σ D Nx)) : iList K tl σ H (fun J1 H4 => pIn J1 g1 tt1 te vs1 σ D Nx H4) := h
theorem z_LK2 {σ2 : L2.St} (h : wipe σ2 vs = wipe σ vs) (q : tt σ2 H fun b H3 => if b = true then wi1 σ2 H3 (fun J1 H4 => pIn J1 g1 tt1 te vs1 σ2 D Nx H4) else Nx H3) : LK2 σ vs tt wi1 g1 tt1 te vs1 D Nx σ2 H := ⟨h, q⟩
/-- one inner turn: R by the acc -/
def ITurn (Rel : Hp → Hp → Prop) (R : Nat → List V → Hp → Prop) (σ : L2.St) (vs1 : List Nat) (g1 : TG) (tt1 : TT) (te : TE) (D : Addr) (j : Nat) (x : V) (acc : List V) (H' : Hp) : Prop :=
  ∀ Nx1 : Hp → Prop, (∀ y H4, Rel H' H4 → R (j + 1) (acc ++ [y]) H4 → LPut D Nx1 y H4) → (∀ H4, Rel H' H4 → R (j + 1) acc H4 → Nx1 H4) → g1 x (wipe σ vs1) H' (LK σ vs1 tt1 te D Nx1)
theorem in_J {J1 : It} (ok : Rl Rel H0 D) (r0 : Rel H0 H) (e0 : H D = some (.lst acc)) (hlen : ∀ j acc H, R j acc H → acc.length < 100000) (C : Hp → Prop) (hC : ∀ H', Rel H0 H' → NK H H' → C H') (hgo : ∀ i H, C H → i < n → J1.go i H) (hst : ∀ H, C H → J1.stop n H)
    (hR : ∀ i acc H H', NK H H' → R i acc H → R i acc H') (h0 : R 0 acc H) (hs : ∀ j x acc H1 H', j < n → Rel H0 H1 → R j acc H1 → C H1 → J1.yld j H1 x H' → H' = H1 ∧ ITurn Rel R σ vs1 g1 tt1 te D j x acc H1)
    (hd : ∀ H', InAt Rel H0 D (R n) H' → Nx H') : pIn J1 g1 tt1 te vs1 σ D Nx H := by
  refine ⟨fun j k H1 => k = n - j ∧ j ≤ n ∧ NK H H1 ∧ InAt Rel H0 D (R j) H1, ⟨n, by simp, Nat.zero_le _, NK.refl, r0, acc, e0, h0⟩, ?_⟩
  rintro j k H1 ⟨rfl, hj, nk, r, acc1, e, q⟩
  have c := hC H1 r nk
  by_cases hlt : j < n
  · refine .inr ⟨hgo j H1 c hlt, fun H1 => NK H H1 ∧ InAt Rel H0 D (R (j + 1)) H1, fun H' p' => ⟨n - (j + 1), by omega, rfl, hlt, p'⟩, fun x H' y => ?_⟩
    obtain ⟨e1, t⟩ := hs j x acc1 H1 H' hlt r q c y
    subst e1
    refine t _ (fun y H4 r4 q4 => ?_) (fun H4 r4 q4 => ⟨nk.trans (ok.nk _ _ r r4), ok.tr _ _ r r4, acc1, ok.kp _ _ _ r r4 e, q4⟩)
    have e' := ok.kp _ _ _ r r4 e
    exact ⟨acc1, e', Nat.lt_trans (hlen _ _ _ q) (by decide), (nk.trans (ok.nk _ _ r r4)).trans (nk_upd e'), ok.up _ _ (ok.tr _ _ r r4), _, upd_same, hR _ _ _ _ (nk_upd e') q4⟩
  · have e2 : j = n := by omega
    subst e2
    exact .inl ⟨hst H1 c, hd H1 ⟨r, acc1, e, q⟩⟩
theorem p_inT (ok : Rl Rel H0 D) (r0 : Rel H0 H) (e0 : H D = some (.lst acc)) (hlen : ∀ j acc H, R j acc H → acc.length < 100000) (ha : H a = some (.tup xs))
    (hR : ∀ i acc H H', NK H H' → R i acc H → R i acc H') (h0 : R 0 acc H) (hs : ∀ j x acc H1, xs[j]? = some x → j < xs.length → Rel H0 H1 → NK H H1 → R j acc H1 → ITurn Rel R σ vs1 g1 tt1 te D j x acc H1)
    (hd : ∀ H', InAt Rel H0 D (R xs.length) H' → Nx H') : pInT K g1 tt1 te vs1 σ D Nx (.ref a) H :=
  ⟨a, rfl, ⟨xs, .inl (.inl ha)⟩, in_J (n := xs.length) ok r0 e0 hlen (fun H' => NK H H' ∧ SqT K H' a xs) (fun H' _ nk => ⟨nk, .inl (.inl (nk _ _ rfl ha))⟩) (fun i H c hi => ⟨xs, xs[i], c.2, by simp [hi]⟩) (fun H c => ⟨xs, c.2, Nat.le_refl _⟩) hR h0
    (fun j x acc H1 H' hj r q c y => ⟨y.1, hs j x acc H1 (y.2 xs c.2) hj r c.1 q⟩) (fun H' h => hd H' h)⟩
theorem p_inL (ok : Rl Rel H0 D) (r0 : Rel H0 H) (e0 : H D = some (.lst acc)) (hlen : ∀ j acc H, R j acc H → acc.length < 100000) (ha : H a = some (.lst xs)) (hne : a ≠ D)
    (hR : ∀ i acc H H', NK H H' → R i acc H → R i acc H') (hk : ∀ H1 H', Rel H0 H1 → Rel H1 H' → H1 a = some (.lst xs) → H' a = some (.lst xs)) (h0 : R 0 acc H)
    (hs : ∀ j x acc H1, xs[j]? = some x → j < xs.length → Rel H0 H1 → NK H H1 → R j acc H1 → ITurn Rel R σ vs1 g1 tt1 te D j x acc H1)
    (hd : ∀ H', InAt Rel H0 D (R xs.length) H' → Nx H') : pInL K g1 tt1 te vs1 σ D Nx (.ref a) H := by
  refine ⟨a, rfl, ⟨xs, .inl (.inl ha)⟩, ?_⟩
  refine ⟨fun j k H1 => k = xs.length - j ∧ j ≤ xs.length ∧ H1 a = some (.lst xs) ∧ NK H H1 ∧ InAt Rel H0 D (R j) H1, ⟨xs.length, by simp, Nat.zero_le _, ha, NK.refl, r0, acc, e0, h0⟩, ?_⟩
  rintro j k H1 ⟨rfl, hj, ha1, nk, r, acc1, e, q⟩
  by_cases hlt : j < xs.length
  · refine .inr ⟨⟨xs, xs[j], .inl (.inl ha1), by simp [hlt]⟩, fun H1 => H1 a = some (.lst xs) ∧ NK H H1 ∧ InAt Rel H0 D (R (j + 1)) H1, fun H' p' => ⟨xs.length - (j + 1), by omega, rfl, hlt, p'⟩, fun x H' y => ?_⟩
    obtain ⟨e1, y⟩ := y
    subst e1
    refine hs j x acc1 _ (y xs (.inl (.inl ha1))) hlt r nk q _ (fun y H4 r4 q4 => ?_) (fun H4 r4 q4 => ⟨hk _ _ r r4 ha1, nk.trans (ok.nk _ _ r r4), ok.tr _ _ r r4, acc1, ok.kp _ _ _ r r4 e, q4⟩)
    have e' := ok.kp _ _ _ r r4 e
    refine ⟨acc1, e', Nat.lt_trans (hlen _ _ _ q) (by decide), ?_, (nk.trans (ok.nk _ _ r r4)).trans (nk_upd e'), ok.up _ _ (ok.tr _ _ r r4), _, upd_same, hR _ _ _ _ (nk_upd e') q4⟩
    rw [upd_ne hne]
    exact hk _ _ r r4 ha1
  · have e2 : j = xs.length := by omega
    subst e2
    exact .inl ⟨⟨xs, .inl (.inl ha1), Nat.le_refl _⟩, hd H1 ⟨r, acc1, e, q⟩⟩
/-- the outer loop -/
theorem lc2_J {J : It} {Q : VK} (C : Hp → Prop) (hC : ∀ D H1, H D = none → Rel H H1 → C H1) (hgo : ∀ i H, C H → i < n → J.go i H) (hst : ∀ H, C H → J.stop n H) (ok : ∀ D, H D = none → Rl Rel H D)
    (hR : ∀ i acc H H', NK H H' → R i acc H → R i acc H') (h0 : R 0 [] H)
    (hs : ∀ D i x acc H1 H', H D = none → i < n → Rel H H1 → H1 D = some (.lst acc) → R i acc H1 → C H1 → J.yld i H1 x H' → H' = H1 ∧ ∀ Nx, (∀ H', InAt Rel H D (R (i + 1)) H' → Nx H') → g x (wipe σ vs) H1 (LK2 σ vs tt wi1 g1 tt1 te vs1 D Nx))
    (hd : ∀ D H' ys, H D = none → Rel H H' → H' D = some (.lst ys) → R n ys H' → Q (.ref D) H') : pLc2 J g tt wi1 g1 tt1 te vs vs1 σ H Q := by
  intro D hD
  refine ⟨fun i m H1 => m = n - i ∧ i ≤ n ∧ InAt Rel H D (R i) H1, ⟨n, by simp, Nat.zero_le _, (ok D hD).up _ _ (ok D hD).rf, [], upd_same, hR _ _ _ _ (nk_new hD) h0⟩, ?_⟩
  rintro i m H1 ⟨rfl, hi, r, acc1, e, q⟩
  have c := hC D H1 hD r
  by_cases hlt : i < n
  · refine .inr ⟨hgo i H1 c hlt, fun H1 => InAt Rel H D (R (i + 1)) H1, fun H' p' => ⟨n - (i + 1), by omega, rfl, hlt, p'⟩, fun x H' y => ?_⟩
    obtain ⟨e1, t⟩ := hs D i x acc1 H1 H' hD hlt r e q c y
    subst e1
    exact t _ fun _ h => h
  · have e2 : i = n := by omega
    subst e2
    exact .inl ⟨hst H1 c, hd D H1 acc1 hD r e q⟩
theorem p_lc2T {Q : VK} (Rel : Hp → Hp → Prop) (R : Nat → List V → Hp → Prop) (hR : ∀ i acc H H', NK H H' → R i acc H → R i acc H') (ok : ∀ D, H D = none → Rl Rel H D) (ha : H a = some (.tup xs)) (h0 : R 0 [] H)
    (hs : ∀ D i x acc H1, H D = none → xs[i]? = some x → i < xs.length → Rel H H1 → H1 D = some (.lst acc) → R i acc H1 → ∀ Nx, (∀ H', InAt Rel H D (R (i + 1)) H' → Nx H') → g x (wipe σ vs) H1 (LK2 σ vs tt wi1 g1 tt1 te vs1 D Nx))
    (hd : ∀ D H' ys, H D = none → Rel H H' → H' D = some (.lst ys) → R xs.length ys H' → Q (.ref D) H') : pLc2T K g tt wi1 g1 tt1 te vs vs1 σ Q (.ref a) H :=
  ⟨a, rfl, ⟨xs, .inl (.inl ha)⟩, lc2_J (n := xs.length) (fun H' => SqT K H' a xs) (fun D H1 hD r => .inl (.inl ((ok D hD).nk _ _ (ok D hD).rf r _ _ rfl ha))) (fun i H c hi => ⟨xs, xs[i], c, by simp [hi]⟩) (fun H c => ⟨xs, c, Nat.le_refl _⟩) ok hR h0
    (fun D i x acc H1 H' hD hi r e q c y => ⟨y.1, hs D i x acc H1 hD (y.2 xs c) hi r e q⟩) hd⟩
theorem p_lc2L {Q : VK} (Rel : Hp → Hp → Prop) (R : Nat → List V → Hp → Prop) (hR : ∀ i acc H H', NK H H' → R i acc H → R i acc H') (ok : ∀ D, H D = none → Rl Rel H D) (ha0 : H a = some (.lst xs)) (ha : ∀ H', Rel H H' → H' a = some (.lst xs)) (h0 : R 0 [] H)
    (hs : ∀ D i x acc H1, H D = none → xs[i]? = some x → i < xs.length → Rel H H1 → H1 D = some (.lst acc) → R i acc H1 → ∀ Nx, (∀ H', InAt Rel H D (R (i + 1)) H' → Nx H') → g x (wipe σ vs) H1 (LK2 σ vs tt wi1 g1 tt1 te vs1 D Nx))
    (hd : ∀ D H' ys, H D = none → Rel H H' → H' D = some (.lst ys) → R xs.length ys H' → Q (.ref D) H') : pLc2L K g tt wi1 g1 tt1 te vs vs1 σ Q (.ref a) H :=
  ⟨a, rfl, ⟨xs, .inl (.inl ha0)⟩, lc2_J (n := xs.length) (fun H' => SqL K H' a xs) (fun D H1 hD r => .inl (.inl (ha _ r))) (fun i H c hi => ⟨xs, xs[i], c, by simp [hi]⟩) (fun H c => ⟨xs, c, Nat.le_refl _⟩) ok hR h0
    (fun D i x acc H1 H' hD hi r e q c y => ⟨y.1, hs D i x acc H1 hD (y.2 xs c) hi r e q⟩) hd⟩
end
end Kx

/- part K3 -/
/-! # K3: the small tests of values -/
namespace Kx
open PySem PySem.Spec PyProof.Rows L2
theorem u1 {k : Nat} {A : Around} (r : Room k A) : A.units + 1 < cLine := by have := r.units; omega
/-! ### the rules that speak of K, K named -/
section
variable {X : Cx} {K : PySem.W.Frag} {e o a b : Expr} {te ta tb : TE} {es : List Expr} {t : TA} {f : Str} {pos p : Pos} {tg : Expr}
theorem k_len (h : X.K = K) : CallR X (.builtin "len") (rLn K) := h ▸ c_len
theorem k_all (h : X.K = K) (hc : X.calm = true) : CallR X (.builtin "all") (rAll K) := h ▸ cr_all hc
theorem k_isC (h : X.K = K) : CallR X (.builtin "isinstance") (rIsC K) := h ▸ c_isC
theorem k_clst (h : X.K = K) : CallR X (.type "list") (rLstO K) := h ▸ c_lst
theorem k_ctup (h : X.K = K) : CallR X (.type "tuple") (rTupO K) := h ▸ c_tup
theorem k_eqA (h : X.K = K) (hu : X.A.units + 64 < cLine) : OpR X (compareOp .Eq) (rEqA K) := h ▸ o_eqA hu
theorem k_neA (h : X.K = K) (hu : X.A.units + 64 < cLine) : OpR X (compareOp .NotEq) (rNeA K) := h ▸ o_neA hu
theorem k_ltA (h : X.K = K) (hu : X.A.units < cLine) : OpR X (compareOp .Lt) (rLtA K) := h ▸ o_ltA hu
theorem k_inA (h : X.K = K) : OpR X (compareOp .In) (rInA K) := h ▸ o_inA
theorem k_niA (h : X.K = K) : OpR X (compareOp .NotIn) (rIn K true) := h ▸ o_niA
theorem k_ix (h : X.K = K) (ha : PE X a ta) (hb : PE X b tb) (hs : PlainIx b) : PE X (.Subscript a b pos) (tOp (rIxA K) ta tb) := h ▸ pe_ix i_A ha hb hs
theorem k_fld (h : X.K = K) (he : PE X e ta) (hb : attributeBase e f X.env (eval e X.env) = eval e X.env) : PE X (.Attribute e f pos) (tFld K ta f) := h ▸ pe_fld he hb
theorem k_slT (h : X.K = K) : SlR X (rSlT K) := h ▸ sl_tup
theorem k_slL (h : X.K = K) : SlR X (rSlL K) := h ▸ sl_list
theorem k_tup (h : X.K = K) (he : PE X e te) : PI X tg e (iTup K te) := h ▸ pi_tup he
theorem k_lst (h : X.K = K) (he : PE X e te) : PI X tg e (iList K te) := h ▸ pi_list he
theorem k_zip {e2 : Expr} {ta : TA} {p tpos : Pos} {elts : List Expr} {kk : Nat} (h : X.K = K) (hg : Gl X "zip") (hm : X.mg "zip" = none) (ha : PA X [e, e2] ta)
    (hs : starEach [e, e2] X.env = (false, eval e X.env) :: starEach [e2] X.env := by rfl) (hpl : (backTo pos (starEach [e2] X.env)).any (·.1) = false := by rfl) : PI X (.Tuple elts kk tpos) (.Call (.Name "zip" p) [e, e2] [] pos) (RZ.iZipA K ta) := h ▸ RZ.pi_zipA hg hm ha hs hpl
theorem k_star (h : X.K = K) (he : PE X e te) (hr : PA X es t) (hs : starEach (.Starred e p :: es) X.env = (true, eval e X.env) :: starEach es X.env := by rfl) : PA X (.Starred e p :: es) (StX.tStar K te t) := h ▸ StX.pa_star he hr hs
theorem k_gt {k : Nat} {u : TGs} {n : Nat} (h : X.K = K) (hc : X.calm = true) (hp : PGs X es u) (hn : (assignEach es X.env).length = n := by rfl) (hst : (assignEach es X.env).findIdx? (·.1) = none := by rfl) : PG X (.Tuple es k pos) (gTup K n u) := h ▸ pg_tup hc hp hn hst
end
section
variable {K : PySem.W.Frag} {H H' : Hp} {Q : VK} {v x y : V} {xs ys : List V} {i j : Int} {p q a b : Addr} {s s' : Str} {d e : PyData} {ds es : List PyData} {c : Bool} {kvs : List (Key × V)}
theorem p_xT (h : H p = some (.tup xs)) (e : atI xs i = some v) (q : Q v H) : rIxA K (.ref p) (.int i) H Q := .inl (p_ixT h e q)
theorem p_xL (h : H p = some (.lst xs)) (e : atI xs i = some v) (q : Q v H) : rIxA K (.ref p) (.int i) H Q := .inr (p_ixL h e q)
theorem p_qI (q : Q (.bl (decide (i = j))) H) : rEqA K (.int i) (.int j) H Q := .inl (p_eqI q)
theorem p_qS (q : Q (.bl (decide (s = s'))) H) : rEqA K (.str s) (.str s') H Q := .inl (p_eqS q)
theorem p_qNI (q : Q (.bl (!decide (i = j))) H) : rNeA K (.int i) (.int j) H Q := .inl (p_neI q)
theorem p_qD (h1 : TD H x d) (h2 : TD H y e) (s1 : SeqAt.shaped d = true) (s2 : SeqAt.shaped e = true) (q : Q (.bl (PyData.eqv d e)) H) : rEqA K x y H Q := .inr ⟨d, e, h1.dp, h2.dp, s1, s2, q⟩
theorem p_qND (h1 : TD H x d) (h2 : TD H y e) (s1 : SeqAt.shaped d = true) (s2 : SeqAt.shaped e = true) (q : Q (.bl (!PyData.eqv d e)) H) : rNeA K x y H Q := .inr ⟨d, e, h1.dp, h2.dp, s1, s2, q⟩
theorem eqv_nil (ds : List PyData) : PyData.eqv (.tuple ds) (.tuple []) = ds.isEmpty := by
  cases ds <;> rfl
theorem sh_nil : SeqAt.shaped (.tuple []) = true := rfl
/-- a tuple against () -/
theorem p_q0 (h1 : TD H (.ref a) (.tuple ds)) (s1 : SeqAt.shaped (.tuple ds) = true) (h2 : H b = some (.tup [])) (q : Q (.bl ds.isEmpty) H) : rEqA K (.ref a) (.ref b) H Q :=
  p_qD h1 (.tup h2 .nil) s1 sh_nil (by rw [eqv_nil]; exact q)
theorem p_n0 (h1 : TD H (.ref a) (.tuple ds)) (s1 : SeqAt.shaped (.tuple ds) = true) (h2 : H b = some (.tup [])) (q : Q (.bl (!ds.isEmpty)) H) : rNeA K (.ref a) (.ref b) H Q :=
  p_qND h1 (.tup h2 .nil) s1 sh_nil (by rw [eqv_nil]; exact q)
theorem p_ltI (q : Q (.bl (decide (i < j))) H) : rLtA K (.int i) (.int j) H Q := .inl (p_lt q)
theorem p_ltT {ns ms : List Int} (h1 : H a = some (.tup (ns.map V.int))) (h2 : H b = some (.tup (ms.map V.int))) (q : Q (.bl (HT.lexLt ns ms)) H) : rLtA K (.ref a) (.ref b) H Q := .inr ⟨a, b, ns, ms, rfl, rfl, .inl (.inl h1), .inl (.inl h2), q⟩
theorem p_mT (h : H p = some (.tup xs)) (f : flatV x = true) (fs : xs.all flatV = true) (q : Q (.bl (inV x xs)) H) : rInA K x (.ref p) H Q := .inl ⟨p, xs, rfl, .inr (.inl (.inl h)), f, fs, q⟩
theorem p_mL (h : H p = some (.lst xs)) (f : flatV x = true) (fs : xs.all flatV = true) (q : Q (.bl (inV x xs)) H) : rInA K x (.ref p) H Q := .inl ⟨p, xs, rfl, .inl (.inl (.inl h)), f, fs, q⟩
theorem p_niT (h : H p = some (.tup xs)) (f : flatV x = true) (fs : xs.all flatV = true) (q : Q (.bl (!inV x xs)) H) : rIn K true x (.ref p) H Q := ⟨p, xs, rfl, .inr (.inl (.inl h)), f, fs, q⟩
theorem p_inC {c : Nat} {z : Str} (q : Q (.bl (decide (c ∈ z.cps.toList))) H) : rInA K (.str ⟨#[c]⟩) (.str z) H Q := .inr ⟨c, z, rfl, rfl, q⟩
theorem p_all {bs : List Bool} (h : H a = some (.lst (bs.map V.bl))) (q : Q (.bl (bs.all id)) H) : rAll K [.ref a] H Q := ⟨a, bs, rfl, .inl (.inl h), q⟩
theorem p_all1 (h : H a = some (.lst xs)) (e : ∀ x ∈ xs, x = .bl true) (q : Q (.bl true) H) : rAll K [.ref a] H Q := by
  have e1 : xs = (List.replicate xs.length true).map V.bl := by
    rw [List.map_replicate]
    exact List.eq_replicate_iff.mpr ⟨rfl, e⟩
  rw [e1] at h
  refine p_all h ?_
  rw [show (List.replicate xs.length true).all id = true by simp]
  exact q
theorem flat_ints (ns : List Int) : (ns.map V.int).all flatV = true := by
  rw [List.all_map, List.all_eq_true]
  exact fun x _ => rfl
theorem flat_strs (ns : List Str) : (ns.map V.str).all flatV = true := by
  rw [List.all_map, List.all_eq_true]
  exact fun x _ => rfl
theorem inV_ints (i : Int) (ns : List Int) : inV (.int i) (ns.map V.int) = ns.contains i := by
  unfold inV
  rw [List.any_map]
  induction ns with
  | nil => rfl
  | cons n ns ih =>
    rw [List.any_cons, List.contains_cons, ih]
    congr 1
    show eqV (.int n) (.int i) = (i == n)
    rw [Bool.eq_iff_iff]
    simp [eqV]
    exact eq_comm
theorem inV_strs (i : Str) (ns : List Str) : inV (.str i) (ns.map V.str) = ns.contains i := by
  unfold inV
  rw [List.any_map]
  induction ns with
  | nil => rfl
  | cons n ns ih =>
    rw [List.any_cons, List.contains_cons, ih]
    congr 1
    show eqV (.str n) (.str i) = (i == n)
    rw [Bool.eq_iff_iff]
    simp [eqV]
    exact eq_comm
theorem kb_int_int : kitB "int" "int" = some true := by decide +kernel
theorem q_int_int (q : Q (.bl true) H) : rIsB [.int i, .ty "int"] H Q := p_isB (.int i) kb_int_int q
theorem kb_int_bool : kitB "int" "bool" = some false := by decide +kernel
theorem q_int_bool (q : Q (.bl false) H) : rIsB [.int i, .ty "bool"] H Q := p_isB (.int i) kb_int_bool q
theorem kb_int_str : kitB "int" "str" = some false := by decide +kernel
theorem q_int_str (q : Q (.bl false) H) : rIsB [.int i, .ty "str"] H Q := p_isB (.int i) kb_int_str q
theorem kb_int_tuple : kitB "int" "tuple" = some false := by decide +kernel
theorem q_int_tuple (q : Q (.bl false) H) : rIsB [.int i, .ty "tuple"] H Q := p_isB (.int i) kb_int_tuple q
theorem kb_bool_int : kitB "bool" "int" = some true := by decide +kernel
theorem q_bool_int (q : Q (.bl true) H) : rIsB [.bl c, .ty "int"] H Q := p_isB (.bl c) kb_bool_int q
theorem kb_bool_bool : kitB "bool" "bool" = some true := by decide +kernel
theorem q_bool_bool (q : Q (.bl true) H) : rIsB [.bl c, .ty "bool"] H Q := p_isB (.bl c) kb_bool_bool q
theorem kb_bool_str : kitB "bool" "str" = some false := by decide +kernel
theorem q_bool_str (q : Q (.bl false) H) : rIsB [.bl c, .ty "str"] H Q := p_isB (.bl c) kb_bool_str q
theorem kb_bool_tuple : kitB "bool" "tuple" = some false := by decide +kernel
theorem q_bool_tuple (q : Q (.bl false) H) : rIsB [.bl c, .ty "tuple"] H Q := p_isB (.bl c) kb_bool_tuple q
theorem kb_str_int : kitB "str" "int" = some false := by decide +kernel
theorem q_str_int (q : Q (.bl false) H) : rIsB [.str s, .ty "int"] H Q := p_isB (.str s) kb_str_int q
theorem kb_str_bool : kitB "str" "bool" = some false := by decide +kernel
theorem q_str_bool (q : Q (.bl false) H) : rIsB [.str s, .ty "bool"] H Q := p_isB (.str s) kb_str_bool q
theorem kb_str_str : kitB "str" "str" = some true := by decide +kernel
theorem q_str_str (q : Q (.bl true) H) : rIsB [.str s, .ty "str"] H Q := p_isB (.str s) kb_str_str q
theorem kb_str_tuple : kitB "str" "tuple" = some false := by decide +kernel
theorem q_str_tuple (q : Q (.bl false) H) : rIsB [.str s, .ty "tuple"] H Q := p_isB (.str s) kb_str_tuple q
theorem kb_NoneType_int : kitB "NoneType" "int" = some false := by decide +kernel
theorem q_NoneType_int (q : Q (.bl false) H) : rIsB [.non, .ty "int"] H Q := p_isB .non kb_NoneType_int q
theorem kb_NoneType_bool : kitB "NoneType" "bool" = some false := by decide +kernel
theorem q_NoneType_bool (q : Q (.bl false) H) : rIsB [.non, .ty "bool"] H Q := p_isB .non kb_NoneType_bool q
theorem kb_NoneType_str : kitB "NoneType" "str" = some false := by decide +kernel
theorem q_NoneType_str (q : Q (.bl false) H) : rIsB [.non, .ty "str"] H Q := p_isB .non kb_NoneType_str q
theorem kb_NoneType_tuple : kitB "NoneType" "tuple" = some false := by decide +kernel
theorem q_NoneType_tuple (q : Q (.bl false) H) : rIsB [.non, .ty "tuple"] H Q := p_isB .non kb_NoneType_tuple q
theorem kb_tuple_int : kitB "tuple" "int" = some false := by decide +kernel
theorem q_tuple_int (h : H a = some (.tup xs)) (q : Q (.bl false) H) : rIsB [.ref a, .ty "int"] H Q := p_isB (.tup h) kb_tuple_int q
theorem kb_tuple_bool : kitB "tuple" "bool" = some false := by decide +kernel
theorem q_tuple_bool (h : H a = some (.tup xs)) (q : Q (.bl false) H) : rIsB [.ref a, .ty "bool"] H Q := p_isB (.tup h) kb_tuple_bool q
theorem kb_tuple_str : kitB "tuple" "str" = some false := by decide +kernel
theorem q_tuple_str (h : H a = some (.tup xs)) (q : Q (.bl false) H) : rIsB [.ref a, .ty "str"] H Q := p_isB (.tup h) kb_tuple_str q
theorem kb_tuple_tuple : kitB "tuple" "tuple" = some true := by decide +kernel
theorem q_tuple_tuple (h : H a = some (.tup xs)) (q : Q (.bl true) H) : rIsB [.ref a, .ty "tuple"] H Q := p_isB (.tup h) kb_tuple_tuple q
theorem kb_list_int : kitB "list" "int" = some false := by decide +kernel
theorem q_list_int (h : H a = some (.lst xs)) (q : Q (.bl false) H) : rIsB [.ref a, .ty "int"] H Q := p_isB (.lst h) kb_list_int q
theorem kb_list_bool : kitB "list" "bool" = some false := by decide +kernel
theorem q_list_bool (h : H a = some (.lst xs)) (q : Q (.bl false) H) : rIsB [.ref a, .ty "bool"] H Q := p_isB (.lst h) kb_list_bool q
theorem kb_list_str : kitB "list" "str" = some false := by decide +kernel
theorem q_list_str (h : H a = some (.lst xs)) (q : Q (.bl false) H) : rIsB [.ref a, .ty "str"] H Q := p_isB (.lst h) kb_list_str q
theorem kb_list_tuple : kitB "list" "tuple" = some false := by decide +kernel
theorem q_list_tuple (h : H a = some (.lst xs)) (q : Q (.bl false) H) : rIsB [.ref a, .ty "tuple"] H Q := p_isB (.lst h) kb_list_tuple q
theorem kb_dict_int : kitB "dict" "int" = some false := by decide +kernel
theorem q_dict_int (h : H a = some (.dK kvs)) (q : Q (.bl false) H) : rIsB [.ref a, .ty "int"] H Q := p_isB (.dK h) kb_dict_int q
theorem kb_dict_bool : kitB "dict" "bool" = some false := by decide +kernel
theorem q_dict_bool (h : H a = some (.dK kvs)) (q : Q (.bl false) H) : rIsB [.ref a, .ty "bool"] H Q := p_isB (.dK h) kb_dict_bool q
theorem kb_dict_str : kitB "dict" "str" = some false := by decide +kernel
theorem q_dict_str (h : H a = some (.dK kvs)) (q : Q (.bl false) H) : rIsB [.ref a, .ty "str"] H Q := p_isB (.dK h) kb_dict_str q
theorem kb_dict_tuple : kitB "dict" "tuple" = some false := by decide +kernel
theorem q_dict_tuple (h : H a = some (.dK kvs)) (q : Q (.bl false) H) : rIsB [.ref a, .ty "tuple"] H Q := p_isB (.dK h) kb_dict_tuple q
theorem z_sl {r : V → Option Int → Option Int → Hp → VK → Prop} {te : TE} {tl th : TO} {σ : L2.St} (h : te σ H fun x H1 => tl σ H1 fun lo H2 => th σ H2 fun hi H3 => r x lo hi H3 Q) : tSl r te tl th σ H Q := h
theorem z_nop {QO : Option Int → Hp → Prop} {σ : L2.St} (q : QO none H) : tNoPart σ H QO := q
theorem z_part {te : TE} {QO : Option Int → Hp → Prop} {σ : L2.St} (h : te σ H fun x H1 => ∃ i, x = .int i ∧ QO (some i) H1) : tPart te σ H QO := h
theorem z_exi {QO : Int → Prop} (q : QO i) : ∃ i', V.int i = .int i' ∧ QO i' := ⟨i, rfl, q⟩
theorem p_isNb (q : Q (.bl false) H) : rIsN (.bl c) .non H Q := ⟨rfl, q⟩
theorem p_isNs (q : Q (.bl false) H) : rIsN (.str s) .non H Q := ⟨rfl, q⟩
theorem z_gn {σ : L2.St} {QS : L2.St → Hp → Prop} {n : Nat} (q : QS (σ.set n (some v)) H) : gName n v σ H QS := q
theorem z_gt2 {σ : L2.St} {QS : L2.St → Hp → Prop} {n m : Nat} (h : H a = some (.tup [x, y])) (q : QS ((σ.set n (some x)).set m (some y)) H) : gTup K 2 (gCons (gName n) (gCons (gName m) gNil)) (.ref a) σ H QS :=
  ⟨a, _, rfl, .inl (.inl h), rfl, x, _, rfl, y, _, rfl, rfl, q⟩
theorem z_gt3 {z : V} {σ : L2.St} {QS : L2.St → Hp → Prop} {n m l : Nat} (h : H a = some (.tup [x, y, z])) (q : QS (((σ.set n (some x)).set m (some y)).set l (some z)) H) : gTup K 3 (gCons (gName n) (gCons (gName m) (gCons (gName l) gNil))) (.ref a) σ H QS :=
  ⟨a, _, rfl, .inl (.inl h), rfl, x, _, rfl, y, _, rfl, z, _, rfl, rfl, q⟩
theorem p_slT {lo hi : Option Int} (h : H p = some (.tup xs)) (w : ¬ (HT.sIx xs.length 0 lo = 0 ∧ HT.sIx xs.length xs.length hi = xs.length)) (q : ∀ l H2, H l = none → Same H H2 → H2 l = some (.tup (cutV xs lo hi)) → Q (.ref l) H2) : rSlT K (.ref p) lo hi H Q :=
  ⟨p, xs, rfl, .inl (.inl h), w, fun l hl => q l _ hl (same_new hl) upd_same⟩
theorem cut_tail (x : V) (xs : List V) : cutV (x :: xs) (some 1) none = xs := by
  unfold cutV
  rw [show HT.sIx (x :: xs).length 0 (some 1) = min 1 (x :: xs).length from HT.sIx_nat _ 0 1, HT.sIx_none]
  rw [show min 1 (x :: xs).length = 1 by rw [List.length_cons]; omega]
  show (List.take ((x :: xs).length - 1) xs) = xs
  rw [List.length_cons, Nat.add_sub_cancel, List.take_length]
end
/-- all of a comprehension's items are True -/
def allT : Nat → List V → Hp → Prop := fun _ acc _ => ∀ x ∈ acc, x = .bl true
theorem allT_mono : ∀ i acc H H', NK H H' → allT i acc H → allT i acc H' := fun _ _ _ _ _ h => h
theorem allT_snoc {i : Nat} {acc : List V} {H H' : Hp} (h : allT i acc H) : allT (i + 1) (acc ++ [.bl true]) H' := fun x hx => by
  rcases List.mem_append.mp hx with h1 | h1
  · exact h x h1
  · exact List.mem_singleton.mp h1
theorem allT_nil {H : Hp} : allT 0 [] H := fun x hx => by cases hx
local macro_rules
  | `(tactic| row_cond hp) => `(tactic| first
    | assumption
    | exact upd_same
    | (refine Kx.Same.get (by assumption) ?_; row_cond hp)
    | (refine Kx.SB.get (by assumption) (by assumption) ?_ rfl; row_cond hp)
    | (refine Kx.SB.getL (by assumption) (by assumption) ?_; row_cond hp))
local macro_rules
  | `(tactic| row_cond zs) => `(tactic| first
    | ((with_reducible refine Kx.z_var (v := ?zval) ?zv ?zq); (case zv => rfl))
    | with_reducible refine Kx.z_c ?_
    | with_reducible refine Kx.z_cons ?_
    | with_reducible refine Kx.z_nil ?_
    | with_reducible refine Kx.z_op ?_
    | with_reducible refine Kx.z_cB ?_
    | with_reducible refine Kx.z_call ?_
    | with_reducible refine Kx.z_fld ?_
    | with_reducible refine Kx.z_tup ?_
    | with_reducible refine Kx.z_lst ?_
    | with_reducible refine Kx.z_test ?_
    | with_reducible refine Kx.z_tB ?_
    | with_reducible refine Kx.p_bl ?_
    | with_reducible refine Kx.z_iteT ?_
    | with_reducible refine Kx.z_iteF ?_
    | with_reducible refine Kx.z_seq ?_
    | with_reducible refine Kx.z_ret ?_
    | with_reducible refine Kx.z_set ?_
    | with_reducible refine Kx.z_drop ?_
    | with_reducible refine Kx.z_if ?_
    | with_reducible refine Kx.z_next ?_
    | with_reducible refine Kx.z_and ?_
    | with_reducible refine Kx.z_or ?_
    | with_reducible refine Kx.z_not ?_
    | with_reducible refine Kx.z_andV ?_
    | with_reducible refine Kx.z_orV ?_
    | with_reducible refine Kx.z_notV ?_
    | with_reducible refine Kx.z_ifE ?_
    | with_reducible refine Kx.z_chain ?_
    | with_reducible refine Kx.z_dget ?_
    | with_reducible refine Kx.z_un ?_
    | with_reducible refine Kx.z_asg ?_
    | with_reducible refine Kx.z_retN ?_
    | with_reducible refine Kx.z_iteNT ?_
    | with_reducible refine Kx.z_iteNF ?_
    | with_reducible refine Kx.p_add ?_
    | with_reducible refine Kx.p_sub ?_
    | with_reducible refine Kx.p_lt ?_
    | with_reducible refine Kx.p_le ?_
    | with_reducible refine Kx.p_gt ?_
    | with_reducible refine Kx.p_ge ?_
    | with_reducible refine Kx.p_neg ?_
    | with_reducible refine Kx.p_eqI ?_
    | with_reducible refine Kx.p_eqS ?_
    | with_reducible refine Kx.p_neI ?_
    | with_reducible refine Kx.p_eqNN ?_
    | with_reducible refine Kx.p_isN ?_
    | with_reducible refine Kx.p_isNi ?_
    | with_reducible refine Kx.p_isNr ?_
    | with_reducible refine Kx.p_notN ?_
    | with_reducible refine Kx.p_notNi ?_
    | with_reducible refine Kx.p_notNr ?_
    | with_reducible refine Kx.p_intI ?_
    | with_reducible refine Kx.p_intB ?_
    | with_reducible refine Kx.p_abs ?_
    | with_reducible refine Kx.p_mx2 ?_
    | with_reducible refine Kx.p_mn2 ?_
    | ((with_reducible refine Kx.p_ixT (xs := ?zxs) (v := ?zval) ?zh ?ze ?zq); (case zh => row_cond hp); (case ze => rfl))
    | ((with_reducible refine Kx.p_ixL (xs := ?zxs) (v := ?zval) ?zh ?ze ?zq); (case zh => row_cond hp); (case ze => rfl))
    | ((with_reducible refine Kx.p_lenT (xs := ?zxs) ?zh ?zq); (case zh => row_cond hp))
    | ((with_reducible refine Kx.p_lenL (xs := ?zxs) ?zh ?zq); (case zh => row_cond hp))
    | ((with_reducible refine Kx.p_xT (xs := ?zxs) (v := ?zval) ?zh ?ze ?zq); (case zh => row_cond hp); (case ze => rfl))
    | ((with_reducible refine Kx.p_xL (xs := ?zxs) (v := ?zval) ?zh ?ze ?zq); (case zh => row_cond hp); (case ze => rfl))
    | with_reducible refine Kx.p_qI ?_
    | with_reducible refine Kx.p_qS ?_
    | with_reducible refine Kx.p_qNI ?_
    | with_reducible refine Kx.p_ltI ?_
    | with_reducible refine Kx.q_int_int ?_
    | with_reducible refine Kx.q_int_bool ?_
    | with_reducible refine Kx.q_int_str ?_
    | with_reducible refine Kx.q_int_tuple ?_
    | with_reducible refine Kx.q_bool_int ?_
    | with_reducible refine Kx.q_bool_bool ?_
    | with_reducible refine Kx.q_bool_str ?_
    | with_reducible refine Kx.q_bool_tuple ?_
    | with_reducible refine Kx.q_str_int ?_
    | with_reducible refine Kx.q_str_bool ?_
    | with_reducible refine Kx.q_str_str ?_
    | with_reducible refine Kx.q_str_tuple ?_
    | with_reducible refine Kx.q_NoneType_int ?_
    | with_reducible refine Kx.q_NoneType_bool ?_
    | with_reducible refine Kx.q_NoneType_str ?_
    | with_reducible refine Kx.q_NoneType_tuple ?_
    | ((with_reducible refine Kx.q_tuple_int (xs := ?zxs) ?zh ?zq); (case zh => row_cond hp))
    | ((with_reducible refine Kx.q_tuple_bool (xs := ?zxs) ?zh ?zq); (case zh => row_cond hp))
    | ((with_reducible refine Kx.q_tuple_str (xs := ?zxs) ?zh ?zq); (case zh => row_cond hp))
    | ((with_reducible refine Kx.q_tuple_tuple (xs := ?zxs) ?zh ?zq); (case zh => row_cond hp))
    | ((with_reducible refine Kx.q_list_int (xs := ?zxs) ?zh ?zq); (case zh => row_cond hp))
    | ((with_reducible refine Kx.q_list_bool (xs := ?zxs) ?zh ?zq); (case zh => row_cond hp))
    | ((with_reducible refine Kx.q_list_str (xs := ?zxs) ?zh ?zq); (case zh => row_cond hp))
    | ((with_reducible refine Kx.q_list_tuple (xs := ?zxs) ?zh ?zq); (case zh => row_cond hp))
    | ((with_reducible refine Kx.q_dict_int (kvs := ?zxs) ?zh ?zq); (case zh => row_cond hp))
    | ((with_reducible refine Kx.q_dict_bool (kvs := ?zxs) ?zh ?zq); (case zh => row_cond hp))
    | ((with_reducible refine Kx.q_dict_str (kvs := ?zxs) ?zh ?zq); (case zh => row_cond hp))
    | ((with_reducible refine Kx.q_dict_tuple (kvs := ?zxs) ?zh ?zq); (case zh => row_cond hp))
    | with_reducible refine Kx.z_gn ?_
    | ((with_reducible refine Kx.z_gt2 (x := ?zx) (y := ?zy) ?zh ?zq); (case zh => row_cond hp))
    | ((with_reducible refine Kx.z_gt3 (x := ?zx) (y := ?zy) (z := ?zz) ?zh ?zq); (case zh => row_cond hp))
    | with_reducible refine Kx.z_lcT ?_
    | with_reducible refine Kx.z_lcL ?_
    | with_reducible refine Kx.z_lcS ?_
    | with_reducible refine Kx.z_lcR ?_
    | with_reducible refine Kx.z_lcZ ?_
    | with_reducible refine Kx.z_yes ?_
    | ((with_reducible refine Kx.z_wip ?zh ?zq); (case zh => rfl))
    | ((with_reducible refine Kx.z_LK ?zh ?zq); (case zh => rfl))
    | with_reducible refine Kx.z_lc2T ?_
    | with_reducible refine Kx.z_lc2L ?_
    | with_reducible refine Kx.z_inT ?_
    | with_reducible refine Kx.z_inL ?_
    | ((with_reducible refine Kx.z_LK2 ?zh ?zq); (case zh => rfl))
    | with_reducible refine Kx.z_sl ?_
    | with_reducible refine Kx.z_nop ?_
    | with_reducible refine Kx.z_part ?_
    | with_reducible refine Kx.z_exi ?_
    | with_reducible refine Kx.p_isNb ?_
    | with_reducible refine Kx.p_isNs ?_
    | with_reducible refine Kx.z_match ?_
    | ((with_reducible refine Kx.z_caseT (y := ?zy) (xs := ?zxs) ?zh ?zl ?zf ?zq); (case zh => row_cond hp); (case zl => rfl); (case zf => rfl))
    | ((with_reducible refine Kx.z_caseL (y := ?zy) (xs := ?zxs) ?zh ?zl ?zq); (case zh => row_cond hp); (case zl => (intro z; cases z)))
    | ((with_reducible refine Kx.z_caseF (y := ?zy) (xs := ?zxs) ?zh ?zf ?zq); (case zh => row_cond hp); (case zf => rfl))
    | with_reducible refine Kx.z_mnil ?_
    | with_reducible refine Kx.z_lcE ?_
    | with_reducible refine Kx.z_forT ?_
    | with_reducible refine Kx.z_forL ?_
    | with_reducible refine Kx.z_forR ?_
    | with_reducible refine Kx.z_forC ?_
    | ((with_reducible refine Kx.p_fP (dx := ?zd) (fs := ?zfs) (v := ?zv) (by assumption) ?zh ?zl ?zf ?zq); (case zh => row_cond hp); (case zl => assumption); (case zf => decide +kernel))
    | ((with_reducible refine Kx.p_fG (dx := ?zd) (fs := ?zfs) (v := ?zv) (by assumption) ?zh ?zl ?zf ?zq); (case zh => row_cond hp); (case zl => assumption); (case zf => decide +kernel))
    | ((with_reducible refine Kx.p_fR (dx := ?zd) (fs := ?zfs) (v := ?zv) (by assumption) ?zh ?zl ?zf ?zq); (case zh => row_cond hp); (case zl => assumption); (case zf => decide +kernel))
    | ((with_reducible refine Kx.p_dgetS (kvs := ?zk) (v := ?zv) ?zh ?ze ?zq); (case zh => row_cond hp); (case ze => assumption))
    | with_reducible refine Kx.z_star ?_
    | ((with_reducible refine Kx.p_star (xs := ?zxs) ?zh ?zq); (case zh => row_cond hp))
    | with_reducible refine Kx.z_bm ?_
    | with_reducible refine Kx.p_ip ?_
    | with_reducible refine Kx.z_lss ?_
    | with_reducible refine Kx.z_dcT ?_
    | with_reducible refine Kx.z_sf ?_
    | with_reducible refine Kx.z_dnew ?_
    | with_reducible refine Kx.z_mk ?_
    | with_reducible refine Kx.z_callS ?_
    | with_reducible refine Kx.z_gsub ?_
    | ((with_reducible refine Kx.p_setL (xs := ?zxs) (k := ?zk) ?zh ?ze ?zq); (case zh => row_cond hp); (case ze => rfl))
    | ((with_reducible refine Kx.p_modP ?zh ?zq); (case zh => first | assumption | decide +kernel))
    | ((with_reducible refine Kx.p_mulR ?zh ?zq); (case zh => first | assumption | decide +kernel))
    | ((with_reducible refine Kx.p_mulL ?zh ?zq); (case zh => first | assumption | decide +kernel))
    | ((with_reducible refine Kx.p_powS ?zh ?zq); (case zh => first | assumption | decide +kernel))
    | ((with_reducible refine Kx.p_powW ?zh ?zq); (case zh => first | assumption | decide +kernel))
    | ((with_reducible refine Kx.p_fdvS ?zh ?zq); (case zh => first | assumption | decide +kernel))
    | with_reducible refine Kx.z_par ?_
    | with_reducible refine Kx.p_par ?_
    | with_reducible refine Kx.z_par3 ?_
    | with_reducible refine Kx.p_par3 ?_
    | ((with_reducible refine Kx.z_gl3 (x := ?zx) (y := ?zy) (z := ?zz) ?zh ?zq); (case zh => row_cond hp))
    | ((with_reducible refine Kx.z_gtG2 (x := ?zx) (y := ?zy) ?zh ?zq); (case zh => row_cond hp))
    | with_reducible refine Kx.z_cm ?_
    | with_reducible refine Kx.p_cm ?_
    | with_reducible refine Kx.z_prs ?_
    | with_reducible refine Kx.z_prn ?_
    | dsimp only)
local macro_rules
  | `(tactic| row_cond zz) => `(tactic| repeat (row_cond zs))

section
variable {P : Program} {w : World} {K : PySem.W.Frag} {mg : Str → Option Value} {base : Heap}
/-! ### is_integer -/
def big : Int := 10 ^ 40
def isInt : V → Bool
  | .int i => decide (-(10 ^ 40) < i) && decide (i < 10 ^ 40)
  | _ => false
def spIsInt : Sp := fun vs H Q _ => ∃ x T, vs = [x] ∧ TyN H x T ∧ Q (.bl (isInt x)) H
theorem sc_is_integer : FnScope ["value"] ["value"] (defScope (top 14)) := ⟨rfl, rfl, rfl, by decide +kernel, rfl, by decide +kernel, by decide +kernel⟩
theorem c_is_integer (T : Txt K mg) : Cal P w K mg base 1 "is_integer" spIsInt := by
  refine cal_of T 0 rfl sc_is_integer (fun _ _ _ _ _ _ us hl => match us, hl with | [_], _ => rfl) (fun vs H Q E h => ?_) (fun f cdv A outer s H vs Q E hr h => ?_)
  · obtain ⟨x, t, rfl, _⟩ := h
    rfl
  · obtain ⟨x, t, rfl, ht, hq⟩ := h
    refine ⟨_, (pss_one (ps_ret (pe_and (pe_callB c_isB rfl (T.b "isinstance") boot_isinstance (pa_cons (pv 0) (pa_cons (pe_bltn rfl (T.b "int") boot_int (v := .ty "int") rfl) pa_nil))) (pe_and (pe_not (pe_callB c_isB rfl (T.b "isinstance") boot_isinstance (pa_cons (pv 0) (pa_cons (pe_bltn rfl (T.b "bool") boot_bool (v := .ty "bool") rfl) pa_nil)))) (pe_one (pe_chain o_lt o_lt (pe_un o_neg (C8.pe_gc rfl T.top)) (pv 0) (C8.pe_gc rfl T.top))))))), ?_⟩
    row_cond zz
    cases ht with
    | int i =>
      row_cond zz
      refine z_ite2 (fun h => ?_) fun h => ?_
      · row_cond zz
        rw [show isInt (.int i) = decide (i < 10 ^ 40) by
          show (decide (-(10 ^ 40) < i) && decide (i < 10 ^ 40)) = _
          rw [h]
          rfl] at hq
        exact hq
      · rw [show isInt (.int i) = false by
          show (decide (-(10 ^ 40) < i) && decide (i < 10 ^ 40)) = _
          rw [h]
          rfl] at hq
        exact hq
    | bl b =>
      row_cond zz
      exact hq
    | non =>
      row_cond zz
      exact hq
    | str x =>
      row_cond zz
      exact hq
    | lst e =>
      row_cond zz
      exact hq
    | tup e =>
      row_cond zz
      exact hq
    | dK e =>
      row_cond zz
      exact hq
/-! ### is_below -/
def isBelow : V → Int → Bool
  | .int i, n => decide (-(10 ^ 40) < i) && decide (i < 10 ^ 40) && (decide (0 ≤ i) && decide (i < n))
  | _, _ => false
theorem isBelow_in {n i : Int} (hn : n ≤ 10 ^ 40) (h : In0 n i) : isBelow (.int i) n = true := by
  obtain ⟨h1, h2⟩ := h
  show (decide (-(10 ^ 40) < i) && decide (i < 10 ^ 40) && (decide (0 ≤ i) && decide (i < n))) = true
  rw [decide_eq_true (by omega : -(10 ^ 40) < i), decide_eq_true (by omega : i < 10 ^ 40), decide_eq_true h1, decide_eq_true h2]
  rfl
def spIsBelow : Sp := fun vs H Q _ => ∃ x n T, vs = [x, .int n] ∧ TyN H x T ∧ Q (.bl (isBelow x n)) H
theorem sc_is_below : FnScope ["value", "limit"] ["value", "limit"] (defScope (top 15)) := ⟨rfl, rfl, rfl, by decide +kernel, rfl, by decide +kernel, by decide +kernel⟩
theorem c_is_below (T : Txt K mg) : Cal P w K mg base 2 "is_below" spIsBelow := by
  refine cal_of T 1 rfl sc_is_below (fun _ _ _ _ _ _ us hl => match us, hl with | [_, _], _ => rfl) (fun vs H Q E h => ?_) (fun f cdv A outer s H vs Q E hr h => ?_)
  · obtain ⟨x, n, t, rfl, _⟩ := h
    rfl
  · obtain ⟨x, n, t, rfl, ht, hq⟩ := h
    refine ⟨_, (pss_one (ps_ret (pe_and (C8.pe_c (c_is_integer T) hr (by decide) rfl (pa_cons (pv 0) pa_nil)) (pe_one (pe_chain o_le o_lt pe_int (pv 0) (pv 1)))))), ?_⟩
    row_cond zz
    refine ⟨x, t, rfl, ht, ?_⟩
    row_cond zz
    cases x with
    | int i =>
      refine z_ite2 (fun h => ?_) fun h => ?_
      · row_cond zz
        have e : isBelow (.int i) n = (decide (0 ≤ i) && decide (i < n)) := by
          show (isInt (.int i) && (decide (0 ≤ i) && decide (i < n))) = _
          rw [h]
          rfl
        rw [e] at hq
        refine z_ite2 (fun h => ?_) fun h => ?_
        · rw [h] at hq
          row_cond zz
          exact hq
        · rw [h] at hq
          exact hq
      · have e : isBelow (.int i) n = false := by
          show (isInt (.int i) && (decide (0 ≤ i) && decide (i < n))) = _
          rw [h]
          rfl
        rw [e] at hq
        exact hq
    | non => exact z_iteF hq
    | bl b => exact z_iteF hq
    | str b => exact z_iteF hq
    | byt b => exact z_iteF hq
    | flt b => exact z_iteF hq
    | ref b => exact z_iteF hq
    | ty b => exact z_iteF hq
theorem b_in {H : Hp} {i n : Int} {Q : VK} {E : XK} (hn : n ≤ 10 ^ 40) (h : In0 n i) (q : Q (.bl true) H) : spIsBelow [.int i, .int n] H Q E := ⟨.int i, n, "int", rfl, .int i, by rw [isBelow_in hn h]; exact q⟩
/-! ### is_pair -/
def spIsPair : Sp := fun vs H Q _ => ∃ a u v, vs = [.ref a] ∧ H a = some (.tup [u, v]) ∧ Q (.bl true) H
theorem sc_is_pair : FnScope ["value"] ["value"] (defScope (top 17)) := ⟨rfl, rfl, rfl, by decide +kernel, rfl, by decide +kernel, by decide +kernel⟩
theorem c_is_pair (T : Txt K mg) : Cal P w K mg base 1 "is_pair" spIsPair := by
  refine cal_of T 3 rfl sc_is_pair (fun _ _ _ _ _ _ us hl => match us, hl with | [_], _ => rfl) (fun vs H Q E h => ?_) (fun f cdv A outer s H vs Q E hr h => ?_)
  · obtain ⟨a, u, v, rfl, _⟩ := h
    rfl
  · obtain ⟨a, u, v, rfl, ha, hq⟩ := h
    refine ⟨_, (pss_one (ps_ret (pe_and (pe_callB c_isB rfl (T.b "isinstance") boot_isinstance (pa_cons (pv 0) (pa_cons (pe_bltn rfl (T.b "tuple") boot_tuple (v := .ty "tuple") rfl) pa_nil))) (pe_one (pe_cmpR (k_eqA (K := K) rfl hr.units) (pe_callB (k_len (K := K) rfl) rfl (T.b "len") boot_len (pa_cons (pv 0) pa_nil)) pe_int (nomark _)))))), ?_⟩
    row_cond zz
    exact hq
/-! ### is_ascending -/
/-- two items of which the first is less -/
def Lt2 (H : Hp) (x y : V) : Prop := (∃ i j : Int, x = .int i ∧ y = .int j ∧ i < j) ∨ ∃ a b ns ms, x = .ref a ∧ y = .ref b ∧ H a = some (.tup (ns.map V.int)) ∧ H b = some (.tup (ms.map V.int)) ∧ HT.lexLt ns ms = true
theorem Lt2.tk {H H' : Hp} {x y : V} (s : TK H H') (h : Lt2 H x y) : Lt2 H' x y := by
  rcases h with h | ⟨a, b, ns, ms, e1, e2, h1, h2, h⟩
  · exact .inl h
  · exact .inr ⟨a, b, ns, ms, e1, e2, s _ _ h1, s _ _ h2, h⟩
def spAsc : Sp := fun vs H Q _ => ∃ a xs, vs = [.ref a] ∧ H a = some (.tup xs) ∧ xs ≠ [] ∧ xs.length ≤ 1000 ∧ (∀ i x y, xs[i]? = some x → xs[i + 1]? = some y → Lt2 H x y) ∧ ∀ H', Same H H' → Q (.bl true) H'
theorem sc_is_ascending : FnScope ["items", "one", "other"] ["items"] (defScope (top 16)) := ⟨rfl, rfl, rfl, by decide +kernel, rfl, by decide +kernel, by decide +kernel⟩
theorem c_is_ascending (T : Txt K mg) : Cal P w K mg base 1 "is_ascending" spAsc := by
  refine cal_of T 2 rfl sc_is_ascending (fun _ _ _ _ _ _ us hl => match us, hl with | [_], _ => rfl) (fun vs H Q E h => ?_) (fun f cdv A outer s H vs Q E hr h => ?_)
  · obtain ⟨a, xs, rfl, _⟩ := h
    rfl
  · obtain ⟨a, xs, rfl, ha, hne, hl, hlt, hq⟩ := h
    refine ⟨_, (pss_one (ps_ret (pe_callB (k_all (K := K) rfl rfl) rfl (T.b "all") boot_all (pa_cons (pe_lc rfl sc_is_ascending.nd (k_zip (K := K) rfl rfl (T.b "zip") (pa_cons (pv 0) (pa_cons (pe_slice (k_slT (K := K) rfl) (pv 0) (po_some pe_int) po_none) pa_nil))) (blkOk_by (own := [(("one" : Str), 1), (("other" : Str), 2)]) (by kernel_rfl)) (fun _ _ _ _ _ => (k_gt (K := K) (n := 2) rfl rfl (pgs_cons (pg_name (i := 1) sc_is_ascending.nd rfl (.inl rfl) (.inr rfl)) (pgs_cons (pg_name (i := 2) sc_is_ascending.nd rfl (.inl rfl) (.inr rfl)) pgs_nil)))) (fun _ _ _ _ _ => pts_nil) (fun _ _ _ _ _ => (pe_cmpR (k_ltA (K := K) rfl hr.units0) (pv 1) (pv 2) (nomark _)))) pa_nil)))), ?_⟩
    obtain ⟨x0, r, rfl⟩ := List.exists_cons_of_ne_nil hne
    row_cond zz
    refine p_slT ha (fun z => ?_) fun l H1 hl1 s1 e1 => ?_
    · have := z.1
      rw [show HT.sIx (x0 :: r).length 0 (some 1) = min 1 (x0 :: r).length from HT.sIx_nat _ 0 1, List.length_cons] at this
      omega
    rw [cut_tail] at e1
    row_cond zz
    refine p_lcZ (n := r.length) Same allT allT_mono okS relS (Kx.Same.get s1 ha) e1 (by rw [List.length_cons]; omega) (Nat.le_refl _) (.inr (Nat.le_refl _)) (by rw [List.length_cons] at hl; omega) allT_nil (fun i x y T acc H2 H3 hx hy hi r2 q r3 eT => ?_) (fun D H2 ys hD r2 e2 q2 => ?_)
    · intro D Nx put skip
      row_cond zz
      have e : (x0 :: r)[i + 1]? = some y := hy
      rcases Lt2.tk (Kx.Same.tk (s1.trans (r2.trans r3))) (hlt i x y hx e) with ⟨m, n, rfl, rfl, h⟩ | ⟨a1, a2, ns, ms, rfl, rfl, h1, h2, h⟩
      · refine p_ltI (put _ _ r3 ?_)
        rw [decide_eq_true h]
        exact allT_snoc q
      · refine p_ltT h1 h2 (put _ _ r3 ?_)
        rw [h]
        exact allT_snoc q
    · row_cond zz
      exact p_all1 e2 q2 (hq _ (s1.trans r2))
/-! ### is_name -/
def spIsName : Sp := fun vs H Q _ => ∃ n, vs = [.str n] ∧ n ∈ okNames ∧ ∀ H', Same H H' → Q (.bl true) H'
theorem sc_is_name : FnScope ["value", "letter"] ["value"] (defScope (top 18)) := ⟨rfl, rfl, rfl, by decide +kernel, rfl, by decide +kernel, by decide +kernel⟩
theorem name_len {n : Str} (h : n ∈ okNames) : (0 < n.length ∧ n.length ≤ 8) ∧ n.cps.size ≤ 8 ∧ ∀ c ∈ n.cps.toList, c ∈ ("abcdefghijklmnopqrstuvwxyz" : Str).cps.toList := by
  unfold okNames at h
  simp only [List.mem_cons, List.not_mem_nil, or_false] at h
  rcases h with rfl | rfl | rfl <;> decide +kernel
theorem c_is_name (T : Txt K mg) : Cal P w K mg base 1 "is_name" spIsName := by
  refine cal_of T 4 rfl sc_is_name (fun _ _ _ _ _ _ us hl => match us, hl with | [_], _ => rfl) (fun vs H Q E h => ?_) (fun f cdv A outer s H vs Q E hr h => ?_)
  · obtain ⟨x, rfl, _⟩ := h
    rfl
  · obtain ⟨x, rfl, hn, hq⟩ := h
    obtain ⟨⟨n1, n2⟩, n3, n4⟩ := name_len hn
    refine ⟨_, (pss_cons (ps_if (PW.pt (pw_or (pt_not (pt_val (pe_callB c_isB rfl (T.b "isinstance") boot_isinstance (pa_cons (pv 0) (pa_cons (pe_bltn rfl (T.b "str") boot_str (v := .ty "str") rfl) pa_nil))))) (pw_or1 (pt_not (pt_chain o_lt o_le pe_int (pe_callB (k_len (K := K) rfl) rfl (T.b "len") boot_len (pa_cons (pv 0) pa_nil)) (C8.pe_gc rfl T.ml)))))) (pss_one (ps_ret pe_bl)) pss_nil)
      (pss_one (ps_ret (pe_callB (k_all (K := K) rfl rfl) rfl (T.b "all") boot_all (pa_cons (pe_lc rfl sc_is_name.nd (pi_str (pv 0)) (blkOk_by (own := [(("letter" : Str), 1)]) (by kernel_rfl)) (fun _ _ _ _ _ => (pg_name (i := 1) sc_is_name.nd rfl (.inl rfl) (.inr rfl))) (fun _ _ _ _ _ => pts_nil) (fun _ _ _ _ _ => (pe_cmpR (k_inA (K := K) rfl) (pv 1) (C8.pe_gc rfl T.letters) (by with_unfolding_all rfl)))) pa_nil))))), ?_⟩
    row_cond zz
    refine p_lenS (Nat.le_trans n2 (by decide)) ?_
    row_cond zz
    refine z_iteD (by omega) ?_
    row_cond zz
    rw [decide_eq_true (show ((x.length : Nat) : Int) ≤ 8 by omega)]
    row_cond zz
    refine p_lcS Same allT allT_mono okS (Nat.le_trans n3 (by decide)) allT_nil (fun i y acc H2 hi yl r2 q => ?_) (fun D H2 ys hD r2 e2 q2 => ?_)
    · intro D Nx put skip
      obtain ⟨_, c, ec, rfl⟩ := yl
      row_cond zz
      refine p_inC (put _ _ (Same.refl _) ?_)
      rw [decide_eq_true (n4 c (Array.mem_toList_iff.mpr (Array.mem_of_getElem? ec)))]
      exact allT_snoc q
    · row_cond zz
      exact p_all1 e2 q2 (hq _ r2)
/-! ### is_limit, is_caught -/
def isLim : V → Bool
  | .non => true
  | x => isBelow x (10 ^ 40)
def spIsLim : Sp := fun vs H Q _ => ∃ x T, vs = [x] ∧ TyN H x T ∧ Q (.bl (isLim x)) H
theorem sc_is_limit : FnScope ["value"] ["value"] (defScope (top 19)) := ⟨rfl, rfl, rfl, by decide +kernel, rfl, by decide +kernel, by decide +kernel⟩
theorem c_is_limit (T : Txt K mg) : Cal P w K mg base 3 "is_limit" spIsLim := by
  refine cal_of T 5 rfl sc_is_limit (fun _ _ _ _ _ _ us hl => match us, hl with | [_], _ => rfl) (fun vs H Q E h => ?_) (fun f cdv A outer s H vs Q E hr h => ?_)
  · obtain ⟨x, t, rfl, _⟩ := h
    rfl
  · obtain ⟨x, t, rfl, ht, hq⟩ := h
    refine ⟨_, (pss_one (ps_ret (pe_or (pe_cmpR o_isN (pv 0) pe_non (nomark _)) (pe_one (C8.pe_c (c_is_below T) hr (by decide) rfl (pa_cons (pv 0) (pa_cons (C8.pe_gc rfl T.top) pa_nil))))))), ?_⟩
    cases ht with
    | non =>
      row_cond zz
      exact hq
    | bl b => (row_cond zz; exact ⟨_, _, _, rfl, .bl b, hq⟩)
    | int b => (row_cond zz; exact ⟨_, _, _, rfl, .int b, hq⟩)
    | str b => (row_cond zz; exact ⟨_, _, _, rfl, .str b, hq⟩)
    | lst b => (row_cond zz; exact ⟨_, _, _, rfl, .lst b, hq⟩)
    | tup b => (row_cond zz; exact ⟨_, _, _, rfl, .tup b, hq⟩)
    | dK b => (row_cond zz; exact ⟨_, _, _, rfl, .dK b, hq⟩)
def vO : Option Int → V
  | none => .non
  | some c => .int c
def spIsCau : Sp := fun vs H Q _ => ∃ c n, vs = [vO c, .int n] ∧ n ≤ 10 ^ 40 ∧ (∀ x, c = some x → In0 n x) ∧ Q (.bl true) H
theorem sc_is_caught : FnScope ["value", "points"] ["value", "points"] (defScope (top 27)) := ⟨rfl, rfl, rfl, by decide +kernel, rfl, by decide +kernel, by decide +kernel⟩
theorem c_is_caught (T : Txt K mg) : Cal P w K mg base 3 "is_caught" spIsCau := by
  refine cal_of T 9 rfl sc_is_caught (fun _ _ _ _ _ _ us hl => match us, hl with | [_, _], _ => rfl) (fun vs H Q E h => ?_) (fun f cdv A outer s H vs Q E hr h => ?_)
  · obtain ⟨x, t, rfl, _⟩ := h
    rfl
  · obtain ⟨c, n, rfl, hn, hc, hq⟩ := h
    refine ⟨_, (pss_one (ps_ret (pe_or (pe_cmpR o_isN (pv 0) pe_non (nomark _)) (pe_one (C8.pe_c (c_is_below T) hr (by decide) rfl (pa_cons (pv 0) (pa_cons (pv 1) pa_nil))))))), ?_⟩
    cases c with
    | none =>
      dsimp only [vO]
      row_cond zz
      exact hq
    | some c =>
      dsimp only [vO]
      row_cond zz
      exact b_in hn (hc c rfl) hq
/-! ### is_mode_set -/
theorem ints_lt {H : Hp} {ms : List Int} (h : ms.Pairwise (· < ·)) (i : Nat) (x y : V) (hx : (ms.map V.int)[i]? = some x) (hy : (ms.map V.int)[i + 1]? = some y) : Lt2 H x y := by
  rw [List.getElem?_map] at hx hy
  obtain ⟨m, e1, rfl⟩ := Option.map_eq_some_iff.mp hx
  obtain ⟨n, e2, rfl⟩ := Option.map_eq_some_iff.mp hy
  obtain ⟨l1, e1⟩ := List.getElem?_eq_some_iff.mp e1
  obtain ⟨l2, e2⟩ := List.getElem?_eq_some_iff.mp e2
  have hp := List.pairwise_iff_getElem.mp h i (i + 1) l1 l2 (Nat.lt_succ_self i)
  rw [e1, e2] at hp
  exact .inl ⟨m, n, rfl, rfl, hp⟩
def spModes : Sp := fun vs H Q _ => ∃ a ms n, vs = [.ref a, .int n] ∧ n ≤ 10 ^ 40 ∧ H a = some (.tup (ms.map V.int)) ∧ ms.length ≤ 1000 ∧ ModesOk n ms ∧ ∀ H', Same H H' → Q (.bl true) H'
theorem sc_is_mode_set : FnScope ["value", "modes", "mode"] ["value", "modes"] (defScope (top 25)) := ⟨rfl, rfl, rfl, by decide +kernel, rfl, by decide +kernel, by decide +kernel⟩
theorem c_is_mode_set (T : Txt K mg) : Cal P w K mg base 3 "is_mode_set" spModes := by
  refine cal_of T 7 rfl sc_is_mode_set (fun _ _ _ _ _ _ us hl => match us, hl with | [_, _], _ => rfl) (fun vs H Q E h => ?_) (fun f cdv A outer s H vs Q E hr h => ?_)
  · obtain ⟨a, ms, n, rfl, _⟩ := h
    rfl
  · obtain ⟨a, ms, n, rfl, hn, ha, hl, ⟨m1, m2, m3⟩, hq⟩ := h
    refine ⟨_, (pss_cons (ps_if (PW.pt (pw_or (pt_not (pt_val (pe_callB c_isB rfl (T.b "isinstance") boot_isinstance (pa_cons (pv 0) (pa_cons (pe_bltn rfl (T.b "tuple") boot_tuple (v := .ty "tuple") rfl) pa_nil))))) (pw_or1 (pt_cmpR (k_eqA (K := K) rfl hr.units) (pv 0) (pe_tup pa_nil) (nomark _))))) (pss_one (ps_ret pe_bl)) pss_nil)
      (pss_one (ps_ret (pe_and (pe_callB (k_all (K := K) rfl rfl) rfl (T.b "all") boot_all (pa_cons (pe_lc rfl sc_is_mode_set.nd (k_tup (K := K) rfl (pv 0)) (blkOk_by (own := [(("mode" : Str), 2)]) (by kernel_rfl)) (fun _ _ _ _ _ => (pg_name (i := 2) sc_is_mode_set.nd rfl (.inl rfl) (.inr rfl))) (fun _ _ _ _ _ => pts_nil) (fun _ _ _ _ _ => (C8.pe_c (c_is_below T) hr (by decide) rfl (pa_cons (pv 2) (pa_cons (pv 1) pa_nil))))) pa_nil)) (pe_one (C8.pe_c (c_is_ascending T) hr (by decide) rfl (pa_cons (pv 0) pa_nil))))))), ?_⟩
    row_cond zz
    refine p_tup (by decide) fun p1 H1 hp1 s1 e1 => ?_
    row_cond zz
    refine p_q0 (ds := ms.map PyData.int) (.tup (Kx.Same.get s1 ha) (TDs.ints ms)) (sh_ok sh_modes (by decide)) e1 ?_
    rw [show (ms.map PyData.int).isEmpty = false by cases ms with | nil => exact absurd rfl m1 | cons => rfl]
    row_cond zz
    refine p_lcT Same allT allT_mono okS (Kx.Same.get s1 ha) (by rw [List.length_map]; omega) allT_nil (fun i x acc H2 hx hi r2 q => ?_) (fun D H2 ys hD r2 e2 q2 => ?_)
    · intro D Nx put skip
      obtain ⟨m, hm, rfl⟩ := List.mem_map.mp (List.mem_of_getElem? hx)
      row_cond zz
      exact b_in hn (m3 m hm) (put _ _ (Same.refl _) (allT_snoc q))
    · row_cond zz
      refine p_all1 e2 q2 ?_
      row_cond zz
      exact ⟨a, _, rfl, Kx.Same.get (s1.trans r2) ha, fun e => m1 (List.map_eq_nil_iff.mp e), by rw [List.length_map]; exact hl, ints_lt m2, fun H3 s3 => hq _ (s1.trans (r2.trans s3))⟩
/-! ### are_pairs -/
theorem pair_at {H : Hp} {xs : List V} {ps : List (Int × Int)} {i : Nat} {x : V} (h : TDs H xs (ps.map ePair)) (e : xs[i]? = some x) : ∃ q b, ps[i]? = some q ∧ x = .ref b ∧ H b = some (.tup [.int q.1, .int q.2]) := by
  obtain ⟨d, hd, td⟩ := h.get e
  rw [List.getElem?_map] at hd
  obtain ⟨q, hq, rfl⟩ := Option.map_eq_some_iff.mp hd
  obtain ⟨b, zs, rfl, hb, ts⟩ := TD.tuple td
  cases ts with
  | cons t1 ts =>
    cases ts with
    | cons t2 ts =>
      cases ts
      cases t1
      cases t2
      exact ⟨q, b, hq, rfl, hb⟩
theorem lex_pair {a b c d : Int} (h : ltP (a, b) (c, d)) : HT.lexLt [a, b] [c, d] = true := by
  rcases h with h | ⟨h1, h2⟩
  · have h : a < c := h
    simp [HT.lexLt, h]
    omega
  · have h1 : a = c := h1
    have h2 : b < d := h2
    simp [HT.lexLt, h1, h2]
    omega
theorem pairs_lt {H : Hp} {xs : List V} {ps : List (Int × Int)} (t : TDs H xs (ps.map ePair)) (h : ps.Pairwise ltP) (i : Nat) (x y : V) (hx : xs[i]? = some x) (hy : xs[i + 1]? = some y) : Lt2 H x y := by
  obtain ⟨q, b, e1, rfl, h1⟩ := pair_at t hx
  obtain ⟨q', b', e2, rfl, h2⟩ := pair_at t hy
  obtain ⟨l1, e1⟩ := List.getElem?_eq_some_iff.mp e1
  obtain ⟨l2, e2⟩ := List.getElem?_eq_some_iff.mp e2
  have hp := List.pairwise_iff_getElem.mp h i (i + 1) l1 l2 (Nat.lt_succ_self i)
  rw [e1, e2] at hp
  exact .inr ⟨b, b', [q.1, q.2], [q'.1, q'.2], rfl, rfl, h1, h2, lex_pair hp⟩
def spPairs : Sp := fun vs H Q _ => ∃ a ps n, vs = [.ref a] ∧ n ≤ 6 ∧ TD H (.ref a) (.tuple (ps.map ePair)) ∧ ps.length ≤ 1000 ∧ PairsOk n ps ∧ ∀ H', Same H H' → Q (.bl true) H'
theorem sh_pairs {ps : List (Int × Int)} : sh 2 (.tuple (ps.map ePair)) := sh_tup fun d hd => by
  obtain ⟨q, _, rfl⟩ := List.mem_map.mp hd
  refine sh_tup fun d hd => ?_
  rcases List.mem_cons.mp hd with rfl | hd
  · exact sh_int
  rw [List.mem_singleton.mp hd]
  exact sh_int
/-- a bounded list of True -/
def allB (n : Nat) : Nat → List V → Hp → Prop := fun i acc _ => acc.length ≤ n * i ∧ ∀ x ∈ acc, x = .bl true
def allC (n m : Nat) : Nat → List V → Hp → Prop := fun j acc _ => (acc.length ≤ n + j ∧ j ≤ m) ∧ ∀ x ∈ acc, x = .bl true
theorem sc_are_pairs : FnScope ["value", "pair", "mode"] ["value"] (defScope (top 26)) := ⟨rfl, rfl, rfl, by decide +kernel, rfl, by decide +kernel, by decide +kernel⟩
theorem c_are_pairs (T : Txt K mg) : Cal P w K mg base 3 "are_pairs" spPairs := by
  refine cal_of T 8 rfl sc_are_pairs (fun _ _ _ _ _ _ us hl => match us, hl with | [_], _ => rfl) (fun vs H Q E h => ?_) (fun f cdv A outer s H vs Q E hr h => ?_)
  · obtain ⟨a, ps, n, rfl, _⟩ := h
    rfl
  · obtain ⟨a, ps, n, rfl, hn, ta, hl, ⟨m1, m2, m3⟩, hq⟩ := h
    obtain ⟨xs, ha, ts⟩ := TD.tupR ta
    have hxl : xs.length = ps.length := by rw [ts.length, List.length_map]
    refine ⟨_, (pss_cons (ps_if (PW.pt (pw_or (pt_not (pt_val (pe_callB c_isB rfl (T.b "isinstance") boot_isinstance (pa_cons (pv 0) (pa_cons (pe_bltn rfl (T.b "tuple") boot_tuple (v := .ty "tuple") rfl) pa_nil))))) (pw_or (pt_cmpR (k_eqA (K := K) rfl hr.units) (pv 0) (pe_tup pa_nil) (nomark _)) (pw_or1 (pt_not (pt_val (pe_callB (k_all (K := K) rfl rfl) rfl (T.b "all") boot_all (pa_cons (pe_lc rfl sc_are_pairs.nd (k_tup (K := K) rfl (pv 0)) (blkOk_by (own := [(("pair" : Str), 1)]) (by kernel_rfl)) (fun _ _ _ _ _ => (pg_name (i := 1) sc_are_pairs.nd rfl (.inl rfl) (.inr rfl))) (fun _ _ _ _ _ => pts_nil) (fun _ _ _ _ _ => (C8.pe_c (c_is_pair T) hr (by decide) rfl (pa_cons (pv 1) pa_nil)))) pa_nil)))))))) (pss_one (ps_ret pe_bl)) pss_nil)
      (pss_cons (ps_if (pt_not (pt_val (pe_callB (k_all (K := K) rfl rfl) rfl (T.b "all") boot_all (pa_cons (pe_lc2 rfl sc_are_pairs.nd (k_tup (K := K) rfl (pv 0)) (blkOk_by (own := [(("pair" : Str), 1), (("mode" : Str), 2)]) (by kernel_rfl)) (vs1 := [2]) (by decide) (fun _ _ _ _ _ => (pg_name (i := 1) sc_are_pairs.nd rfl (.inl rfl) (.inr rfl))) (fun _ _ _ _ _ => pts_nil) (fun _ _ _ _ _ => (k_tup (K := K) rfl (pv 1))) (fun _ _ _ _ _ => (pg_name (i := 2) sc_are_pairs.nd rfl (.inl rfl) (.inr rfl))) (fun _ _ _ _ _ => pts_nil) (fun _ _ _ _ _ => (C8.pe_c (c_is_below T) hr (by decide) rfl (pa_cons (pv 2) (pa_cons (C8.pe_gc rfl T.mm) pa_nil))))) pa_nil)))) (pss_one (ps_ret pe_bl)) pss_nil)
      (pss_one (ps_ret (C8.pe_c (c_is_ascending T) hr (by decide) rfl (pa_cons (pv 0) pa_nil)))))), ?_⟩
    row_cond zz
    refine p_tup (by decide) fun p1 H1 hp1 s1 e1 => ?_
    row_cond zz
    refine p_q0 (TD.sm s1 ta) (sh_ok sh_pairs (by decide)) e1 ?_
    rw [show (ps.map ePair).isEmpty = false by cases ps with | nil => exact absurd rfl m1 | cons => rfl]
    row_cond zz
    refine p_lcT Same allT allT_mono okS (Kx.Same.get s1 ha) (by omega) allT_nil (fun i x acc H2 hx hi r2 q => ?_) (fun D H2 ys hD r2 e2 q2 => ?_)
    · intro D Nx put skip
      obtain ⟨p, b, _, rfl, hb⟩ := pair_at (TDs.sm (s1.trans r2) ts) hx
      row_cond zz
      exact ⟨b, _, _, rfl, hb, put _ _ (Same.refl _) (allT_snoc q)⟩
    · row_cond zz
      refine p_all1 e2 q2 ?_
      row_cond zz
      refine p_lc2T Same (allB 2) (fun _ _ _ _ _ h => h) okS (Kx.Same.get (s1.trans r2) ha) ⟨Nat.zero_le _, fun x hx => by cases hx⟩ (fun D i x acc H3 hD hx hi r3 e3 q3 Nx nx => ?_) (fun D H3 ys hD r3 e3 q3 => ?_)
      · obtain ⟨p, b, hp, rfl, hb⟩ := pair_at (TDs.sm ((s1.trans r2).trans r3) ts) hx
        obtain ⟨⟨u1, u2⟩, u3, u4⟩ := m3 p (List.mem_of_getElem? hp)
        row_cond zz
        refine p_inT (R := allC (2 * i) 2) (rl_same hD) r3 e3 (fun j acc H h => ?_) hb (fun _ _ _ _ _ h => h) ⟨⟨q3.1, Nat.zero_le _⟩, q3.2⟩ (fun j x acc2 H4 hx hj r4 nk q4 => ?_) (fun H4 i4 => nx H4 ⟨i4.rel, ?_⟩)
        · have h1 := h.1.1
          have h2 := h.1.2
          omega
        · intro Nx1 put skip
          have hx : x = .int p.1 ∨ x = .int p.2 := by
            have := List.mem_of_getElem? hx
            simpa using this
          row_cond zz
          have hin : ∃ k, x = .int k ∧ In0 6 k := by
            rcases hx with e | e
            · exact ⟨_, e, u1, by omega⟩
            · exact ⟨_, e, u3, by omega⟩
          obtain ⟨k, rfl, hk⟩ := hin
          refine b_in (by decide) hk (put _ _ (Same.refl _) ⟨⟨?_, hj⟩, ?_⟩)
          · rw [List.length_append]
            exact Nat.add_le_add_right q4.1.1 1
          · exact allT_snoc (i := j) (H := H4) (H' := H4) q4.2
        · obtain ⟨acc, e, h⟩ := i4.at_
          exact ⟨acc, e, Nat.le_trans h.1.1 (by show 2 * i + 2 ≤ 2 * (i + 1); omega), h.2⟩
      · row_cond zz
        refine p_all1 e3 q3.2 ?_
        row_cond zz
        exact ⟨a, _, rfl, Kx.Same.get (s1.trans (r2.trans r3)) ha, fun e => m1 (by rw [e] at hxl; exact List.eq_nil_of_length_eq_zero hxl.symm), by omega, pairs_lt (TDs.sm (s1.trans (r2.trans r3)) ts) m2, fun H4 s4 => hq _ (s1.trans (r2.trans (r3.trans s4)))⟩
end
end Kx

/- part K4 -/
/-! # K4: the match statement -/
namespace Kx
open PySem PySem.Spec PyProof.Rows L2
/-- patterns that take a name each, the names' places -/
inductive Caps (X : Cx) : List Pattern → List Str → List Nat → Prop
  | nil : Caps X [] [] []
  | cons {n : Str} {pos : Pos} {i : Nat} {ps : List Pattern} {ns : List Str} {is : List Nat} (hi : X.N[i]? = some n) (hx : Loc X.env.scope n) (hf : X.fn n = true ∨ X.env.scope.names.lookup n = some .local) : Caps X ps ns is → Caps X (.MatchAs none (some n) pos :: ps) (n :: ns) (i :: is)
def setMany (σ : L2.St) : List Nat → List V → L2.St
  | i :: is, v :: vs => setMany (σ.set i (some v)) is vs
  | _, _ => σ
/-- the head of a sequence pattern: a test of a text -/
def HeadP (X : Cx) (hp : Pattern) (f : Str → Bool) : Prop := (hp.isStar = false ∧ hp.isWildcard = false) ∧ ∀ (pins : List (Addr × Obj)) (σ : L2.St) (H : Hp) (s : Shared) (y : Str) (t : Tok), Inv X pins σ H s →
  wpAny (model X.prog X.w) X.A (matchPattern hp X.env (.str y t)) (fun r s' => Inv X pins σ H s' ∧ r = if f y = true then some [] else none) X.xe s
section
variable {X : Cx}
theorem Caps.star : ∀ {ps : List Pattern} {ns : List Str} {is : List Nat}, Caps X ps ns is → ps.findIdx? (·.isStar) = none
  | _, _, _, .nil => rfl
  | _, _, _, .cons _ _ _ h => by
    rw [List.findIdx?_cons, if_neg (by intro z; cases z), Caps.star h]
    rfl
theorem Caps.len : ∀ {ps : List Pattern} {ns : List Str} {is : List Nat}, Caps X ps ns is → ps.length = is.length
  | _, _, _, .nil => rfl
  | _, _, _, .cons _ _ _ h => by
    rw [List.length_cons, List.length_cons, Caps.len h]
theorem Caps.each {M : Model} {A : Around} {E : Value → Shared → Prop} {env : Env} : ∀ {ps : List Pattern} {ns : List Str} {is : List Nat} {us : List Value} {s : Shared} {Q : Option (List (Str × Value)) → Shared → Prop}, Caps X ps ns is → us.length = is.length → Q (some (ns.zip us)) s →
    wpAny M A (matchEach ps env us) Q E s
  | _, _, _, us, _, _, .nil, hl, q => by
    have e : us = [] := List.eq_nil_of_length_eq_zero hl
    subst e
    exact wpAny_matchEach_nil q
  | _, _, _, [], _, _, .cons _ _ _ _, hl, _ => by cases hl
  | _, _, _, u :: us, _, _, .cons _ _ _ h, hl, q => by
    refine wpAny_matchEach_cons (wpAny_matchPattern_Capture ?_)
    exact Caps.each h (Nat.succ.inj hl) q
theorem Caps.bind (hN : X.N.Nodup) {pins : List (Addr × Obj)} {E : Value → Shared → Prop} {H : Hp} {Q : L2.St → Hp → Prop} : ∀ {ps : List Pattern} {ns : List Str} {is : List Nat} {us : List Value} {vs : List V} {s : Shared} {σ : L2.St}, Caps X ps ns is → Vals vs us → us.length = is.length → Inv X pins σ H s → Q (setMany σ is vs) H →
    wpAny (model X.prog X.w) X.A (assignInOrder ((ns.zip us).map fun (n, _) => bindName X.env n) ((ns.zip us).map (·.2))) (fun _ s' => ∃ σ' H', Inv X pins σ' H' s' ∧ Q σ' H') E s
  | _, _, _, us, vs, _, σ, .nil, rv, hl, I, q => by
    have e : us = [] := List.eq_nil_of_length_eq_zero hl
    subst e
    exact wpAny_assignInOrder_none ⟨σ, H, I, q⟩
  | _, _, _, [], _, _, _, .cons _ _ _ _, _, hl, _, _ => by cases hl
  | _, _, _, u :: us, v :: vs, _, _, .cons hi hx hf h, .cons r rv, hl, I, q => by
    refine wpAny_assignInOrder_more (wpAny_bindName (store_ok I hN hi hx r (fun s2 I2 => ?_) hf))
    exact Caps.bind hN h rv (Nat.succ.inj hl) I2 q
theorem hp_val {z : Str} {j : Nat} {pos pos' : Pos} : HeadP X (.MatchValue (.Constant (.str z) j pos) pos') (fun y => decide (y = z)) := by
  refine ⟨⟨rfl, rfl⟩, fun pins σ H s y t I => wpAny_matchPattern_Value ?_⟩
  refine thn (pe_str.run pins s σ H (fun x H' => x = .str z ∧ H' = H) I ⟨rfl, rfl⟩) fun u s1 ⟨x, H1, I1, r1, e1, e2⟩ => ?_
  subst e1 e2
  refine thn (op_eq pins s1 σ H1 (.str y) (.str z) (.str y t) u (fun b H' => b = .bl (decide (y = z)) ∧ H' = H1) I1 ⟨t, rfl⟩ r1 (p_eqS ⟨rfl, rfl⟩)) fun c s2 ⟨b, H2, I2, r2, e1, e2⟩ => ?_
  subst e1 e2
  cases r2
  refine wpAny_truthy_bool ?_
  by_cases h : y = z
  · simp [h]
    exact I2
  · simp [h]
    exact I2
theorem hp_or {p q : Pattern} {f g : Str → Bool} {pos : Pos} (hp : HeadP X p f) (hq : HeadP X q g) (hn : namesOfAll [p] = []) : HeadP X (.MatchOr [p, q] pos) (fun y => f y || g y) := by
  refine ⟨⟨rfl, rfl⟩, fun pins σ H s y t I => wpAny_matchPattern_Or ?_⟩
  refine wpAny_matchFirst_cons (thn (hp.2 pins σ H s y t I) fun r s1 ⟨I1, e1⟩ => ?_)
  by_cases h : f y = true
  · rw [if_pos h] at e1
    subst e1
    refine ⟨I1, ?_⟩
    rw [show ([p, q] : List Pattern).take 1 = [p] from rfl, hn]
    show _ = (if (f y || g y) = true then some [] else none)
    rw [h]
    rfl
  · rw [if_neg h] at e1
    subst e1
    have hf : f y = false := by simpa using h
    refine wpAny_matchFirst_cons (thn (hq.2 pins σ H s1 y t I1) fun r s2 ⟨I2, e2⟩ => ?_)
    by_cases h2 : g y = true
    · rw [if_pos h2] at e2
      subst e2
      refine ⟨I2, ?_⟩
      rw [show ([p, q] : List Pattern).take 1 = [p] from rfl, hn]
      show _ = (if (f y || g y) = true then some [] else none)
      rw [hf, h2]
      rfl
    · rw [if_neg h2] at e2
      subst e2
      refine wpAny_matchFirst_nil ⟨I2, ?_⟩
      have hg : g y = false := by simpa using h2
      show _ = (if (f y || g y) = true then some [] else none)
      rw [hf, hg]
      rfl
end
abbrev TM := V → TS
/-- the cases of a match -/
structure PMs (X : Cx) (cs : List MatchCase) (t : TM) : Prop where
  run : ∀ (first : Bool) (pins : List (Addr × Obj)) (s : Shared) (σ : L2.St) (H : Hp) (D : Ends) (x : V) (v : Value), Inv X pins σ H s → RelV x v → t x D σ H → wpAny (model X.prog X.w) X.A (matchCases cs X.env v first) (SP X pins D) X.xe s
def mNil : TM := fun _ D σ H => D.nx σ H
def mCase (f : Str → Bool) (is : List Nat) (tb : TS) (tr : TM) : TM := fun x D σ H => ∃ a y xs, x = .ref a ∧ H a = some (.tup (.str y :: xs)) ∧ (xs.length = is.length → f y = true → tb D (setMany σ is xs) H) ∧ (¬ (xs.length = is.length ∧ f y = true) → tr x D σ H)
def tMatch (te : TE) (tm : TM) : TS := fun D σ H => te σ H fun x H1 => tm x D σ H1
section
variable {X : Cx}
theorem pm_nil : PMs X [] mNil := ⟨fun _ pins s σ H D x v I r h => wpAny_matchCases_nil (show SP X pins D .next s from ⟨σ, H, I, h⟩)⟩
theorem pm_case {hp : Pattern} {ps : List Pattern} {ns : List Str} {is : List Nat} {pos : Pos} {body : List Stmt} {rest : List MatchCase} {f : Str → Bool} {tb : TS} {tr : TM} (hc : X.calm = true) (hN : X.N.Nodup) (hd : HeadP X hp f) (cp : Caps X ps ns is) (hb : PSs X body tb) (hr : PMs X rest tr) :
    PMs X (⟨.MatchSequence (hp :: ps) pos, none, body⟩ :: rest) (mCase f is tb tr) := by
  refine ⟨fun first pins s σ H D x v I r h => ?_⟩
  obtain ⟨a, y, xs, rfl, ha, h1, h2⟩ := h
  cases r
  obtain ⟨its, rv, ht, hz⟩ := I.tuple (.inl (.inl ha))
  have hfit : (its.toArray.size : Int) < 2 ^ 63 := by
    have : sizeLine < 2 ^ 63 := by decide
    have := rv.length
    simp only [List.size_toArray]
    omega
  have hsz : its.toArray.size = xs.length + 1 := by
    rw [List.size_toArray, ← rv.length]
    rfl
  have hst : (hp :: ps).findIdx? (·.isStar) = none := by
    rw [List.findIdx?_cons, hd.1.1, cp.star]
    rfl
  have hwild : ((hp :: ps).all fun p => p.isWildcard || p.isStar && p.names.isEmpty) = false := by
    rw [List.all_cons, hd.1.1, hd.1.2]
    rfl
  refine wpAny_matchCases_cons ?_
  by_cases hl : xs.length = is.length
  · refine matchSeq_tuple_hit ht hfit (by rw [hsz, List.length_cons, cp.len, hl]) ?_ hst hwild
    have I1 : Inv X pins σ H { s with toks := s.toks + 1 + 1 } := I.kept (h' := s.heap) (t' := s.toks + 1 + 1) fun b o e => e
    rw [show (hp :: ps).length = its.toArray.size by rw [hsz, List.length_cons, cp.len, hl]]
    refine unpackItems_tuple (I.ok.hd hc) ht fun h' hx => ?_
    have I2 : Inv X pins σ H { s with heap := h', toks := s.toks + 1 + 1 } := I1.kept (t' := s.toks + 1 + 1) fun b o e => hx b o (Nat.ne_of_lt (Heap.lt_size e)) e
    cases rv with
    | @cons _ u _ us ru rv =>
      obtain ⟨t, rfl⟩ := ru
      refine wpAny_matchEach_cons (p := hp) ?_ hd.1.1
      refine thn (hd.2 pins σ H _ y t I2) fun r s3 ⟨I3, e3⟩ => ?_
      have hul : us.length = is.length := by rw [← rv.length, hl]
      by_cases hf : f y = true
      · rw [if_pos hf] at e3
        subst e3
        refine Caps.each cp hul ?_
        have key := Caps.bind (E := X.xe) (Q := fun σ' H' => tb D σ' H') hN cp rv hul I3 (h1 hl hf)
        refine thn key fun _ s4 ⟨σ4, H4, I4, q4⟩ => ?_
        exact hb.run pins s4 σ4 H4 D I4 q4
      · rw [if_neg hf] at e3
        subst e3
        exact hr.run false pins s3 σ H D (.ref a) (.ref a) I3 rfl (h2 fun z => hf z.2)
  · refine matchSeq_tuple_miss ht hfit (by rw [hsz, List.length_cons, cp.len]; omega) ?_ hst hwild
    have I1 : Inv X pins σ H { s with toks := s.toks + 1 + 1 } := I.kept (h' := s.heap) (t' := s.toks + 1 + 1) fun b o e => e
    exact hr.run false pins _ σ H D (.ref a) (.ref a) I1 rfl (h2 fun z => hl z.1)
theorem ps_match {e : Expr} {te : TE} {cs : List MatchCase} {tm : TM} {pos : Pos} (he : PE X e te) (hm : PMs X cs tm) : PS X (.Match e cs pos) (tMatch te tm) := by
  refine ⟨fun pins s σ H D I h => wpAny_Match ?_⟩
  exact thn (he.run pins s σ H _ I h) fun v s1 ⟨x, H1, I1, r1, q1⟩ => hm.run true pins s1 σ H1 D x v I1 r1 q1
end
section
variable {f : Str → Bool} {is : List Nat} {tb : TS} {tr tm : TM} {te : TE} {a : Addr} {y : Str} {xs : List V} {D : Ends} {σ : L2.St} {H : Hp} {x : V}
theorem z_match (h : te σ H fun x H1 => tm x D σ H1) : tMatch te tm D σ H := h
theorem z_caseT (ha : H a = some (.tup (.str y :: xs))) (hl : xs.length = is.length) (hf : f y = true) (q : tb D (setMany σ is xs) H) : mCase f is tb tr (.ref a) D σ H := ⟨a, y, xs, rfl, ha, fun _ _ => q, fun z => absurd ⟨hl, hf⟩ z⟩
theorem z_caseL (ha : H a = some (.tup (.str y :: xs))) (hl : xs.length ≠ is.length) (q : tr (.ref a) D σ H) : mCase f is tb tr (.ref a) D σ H := ⟨a, y, xs, rfl, ha, fun z _ => absurd z hl, fun _ => q⟩
theorem z_caseF (ha : H a = some (.tup (.str y :: xs))) (hf : f y = false) (q : tr (.ref a) D σ H) : mCase f is tb tr (.ref a) D σ H := ⟨a, y, xs, rfl, ha, fun _ z => by (rw [hf] at z; cases z), fun _ => q⟩
theorem z_mnil (q : D.nx σ H) : mNil x D σ H := q
end
end Kx

/- part K5 -/
/-! # K5: moves -/
namespace Kx
open PySem PySem.Spec PyProof.Rows L2
theorem modes_len {n : Int} {ms : List Int} (h : ModesOk n ms) (hn : n ≤ 6) : ms.length ≤ 6 := by
  obtain ⟨_, h2, h3⟩ := h
  have key := nat_nodup_len (ms.map Int.toNat) (List.range 6) ?_ ?_
  · rw [List.length_map, List.length_range] at key
    exact key
  · show List.Pairwise _ _
    rw [List.pairwise_map]
    refine List.Pairwise.imp_of_mem (fun {a b} ha hb hlt => ?_) h2
    have := h3 a ha
    have := h3 b hb
    omega
  · intro x hx
    obtain ⟨m, hm, rfl⟩ := List.mem_map.mp hx
    have := h3 m hm
    rw [List.mem_range]
    omega
theorem pairs_len {n : Int} {ps : List (Int × Int)} (h : PairsOk n ps) (hn : n ≤ 6) : ps.length ≤ 36 := by
  obtain ⟨_, h2, h3⟩ := h
  have key := nat_nodup_len (ps.map fun q => (q.1 * 6 + q.2).toNat) (List.range 36) ?_ ?_
  · rw [List.length_map, List.length_range] at key
    exact key
  · show List.Pairwise _ _
    rw [List.pairwise_map]
    refine List.Pairwise.imp_of_mem (fun {a b} ha hb hlt => ?_) h2
    have := h3 a ha
    have := h3 b hb
    rcases hlt with h | ⟨h, h'⟩ <;> omega
  · intro x hx
    obtain ⟨m, hm, rfl⟩ := List.mem_map.mp hx
    have := h3 m hm
    rw [List.mem_range]
    omega
/-- a move laid in the heap, part by part -/
inductive MvAt (H : Hp) (a : Addr) : Mv → Prop
  | go {h t : Int} {ps : List (Int × Int)} {b : Addr} : H a = some (.tup [.str "go", .int h, .int t, .ref b]) → TD H (.ref b) (.tuple (ps.map ePair)) → MvAt H a (.go h t ps)
  | call {h t : Int} {n : Str} {ms : List Int} {c : Option Int} {b : Addr} : H a = some (.tup [.str "call", .int h, .int t, .str n, .ref b, vO c]) → H b = some (.tup (ms.map V.int)) → MvAt H a (.call h t n ms c)
  | leave {h : Int} {ms : List Int} {b : Addr} : H a = some (.tup [.str "leave", .int h, .ref b]) → H b = some (.tup (ms.map V.int)) → MvAt H a (.leave h ms)
  | fail {h : Int} {ms : List Int} {b : Addr} : H a = some (.tup [.str "fail", .int h, .ref b]) → H b = some (.tup (ms.map V.int)) → MvAt H a (.fail h ms)
theorem td_ints {H : Hp} {v : V} {ms : List Int} (h : TD H v (eModes ms)) : ∃ b, v = .ref b ∧ H b = some (.tup (ms.map V.int)) := by
  obtain ⟨b, xs, rfl, hb, ts⟩ := TD.tuple h
  rw [TDs.ints_inv ts] at hb
  exact ⟨b, rfl, hb⟩
theorem td_cau {H : Hp} {v : V} {c : Option Int} (h : TD H v (eCaught c)) : v = vO c := by
  cases c with
  | none =>
    cases h
    rfl
  | some c =>
    cases h
    rfl
theorem mv_at {H : Hp} {v : V} {m : Mv} (h : TD H v (eMv m)) : ∃ a, v = .ref a ∧ MvAt H a m := by
  cases m with
  | go hh t ps =>
    obtain ⟨a, xs, rfl, ha, ts⟩ := TD.tuple h
    cases ts with
    | cons t1 ts =>
      cases ts with
      | cons t2 ts =>
        cases ts with
        | cons t3 ts =>
          cases ts with
          | cons t4 ts =>
            cases ts
            obtain ⟨b, _, rfl, _, _⟩ := TD.tuple t4
            rw [TD.strI t1, TD.intI t2, TD.intI t3] at ha
            exact ⟨a, rfl, .go ha t4⟩
  | call hh t n ms c =>
    obtain ⟨a, xs, rfl, ha, ts⟩ := TD.tuple h
    cases ts with
    | cons t1 ts =>
      cases ts with
      | cons t2 ts =>
        cases ts with
        | cons t3 ts =>
          cases ts with
          | cons t4 ts =>
            cases ts with
            | cons t5 ts =>
              cases ts with
              | cons t6 ts =>
                cases ts
                obtain ⟨b, rfl, hb⟩ := td_ints t5
                rw [TD.strI t1, TD.intI t2, TD.intI t3, TD.strI t4, td_cau t6] at ha
                exact ⟨a, rfl, .call ha hb⟩
  | leave hh ms =>
    obtain ⟨a, xs, rfl, ha, ts⟩ := TD.tuple h
    cases ts with
    | cons t1 ts =>
      cases ts with
      | cons t2 ts =>
        cases ts with
        | cons t3 ts =>
          cases ts
          obtain ⟨b, rfl, hb⟩ := td_ints t3
          rw [TD.strI t1, TD.intI t2] at ha
          exact ⟨a, rfl, .leave ha hb⟩
  | fail hh ms =>
    obtain ⟨a, xs, rfl, ha, ts⟩ := TD.tuple h
    cases ts with
    | cons t1 ts =>
      cases ts with
      | cons t2 ts =>
        cases ts with
        | cons t3 ts =>
          cases ts
          obtain ⟨b, rfl, hb⟩ := td_ints t3
          rw [TD.strI t1, TD.intI t2] at ha
          exact ⟨a, rfl, .fail ha hb⟩
local macro_rules
  | `(tactic| row_cond hp) => `(tactic| first
    | assumption
    | exact upd_same
    | (refine Kx.Same.get (by assumption) ?_; row_cond hp)
    | (refine Kx.SB.get (by assumption) (by assumption) ?_ rfl; row_cond hp)
    | (refine Kx.SB.getL (by assumption) (by assumption) ?_; row_cond hp))
local macro_rules
  | `(tactic| row_cond zs) => `(tactic| first
    | ((with_reducible refine Kx.z_var (v := ?zval) ?zv ?zq); (case zv => rfl))
    | with_reducible refine Kx.z_c ?_
    | with_reducible refine Kx.z_cons ?_
    | with_reducible refine Kx.z_nil ?_
    | with_reducible refine Kx.z_op ?_
    | with_reducible refine Kx.z_cB ?_
    | with_reducible refine Kx.z_call ?_
    | with_reducible refine Kx.z_fld ?_
    | with_reducible refine Kx.z_tup ?_
    | with_reducible refine Kx.z_lst ?_
    | with_reducible refine Kx.z_test ?_
    | with_reducible refine Kx.z_tB ?_
    | with_reducible refine Kx.p_bl ?_
    | with_reducible refine Kx.z_iteT ?_
    | with_reducible refine Kx.z_iteF ?_
    | with_reducible refine Kx.z_seq ?_
    | with_reducible refine Kx.z_ret ?_
    | with_reducible refine Kx.z_set ?_
    | with_reducible refine Kx.z_drop ?_
    | with_reducible refine Kx.z_if ?_
    | with_reducible refine Kx.z_next ?_
    | with_reducible refine Kx.z_and ?_
    | with_reducible refine Kx.z_or ?_
    | with_reducible refine Kx.z_not ?_
    | with_reducible refine Kx.z_andV ?_
    | with_reducible refine Kx.z_orV ?_
    | with_reducible refine Kx.z_notV ?_
    | with_reducible refine Kx.z_ifE ?_
    | with_reducible refine Kx.z_chain ?_
    | with_reducible refine Kx.z_dget ?_
    | with_reducible refine Kx.z_un ?_
    | with_reducible refine Kx.z_asg ?_
    | with_reducible refine Kx.z_retN ?_
    | with_reducible refine Kx.z_iteNT ?_
    | with_reducible refine Kx.z_iteNF ?_
    | with_reducible refine Kx.p_add ?_
    | with_reducible refine Kx.p_sub ?_
    | with_reducible refine Kx.p_lt ?_
    | with_reducible refine Kx.p_le ?_
    | with_reducible refine Kx.p_gt ?_
    | with_reducible refine Kx.p_ge ?_
    | with_reducible refine Kx.p_neg ?_
    | with_reducible refine Kx.p_eqI ?_
    | with_reducible refine Kx.p_eqS ?_
    | with_reducible refine Kx.p_neI ?_
    | with_reducible refine Kx.p_eqNN ?_
    | with_reducible refine Kx.p_isN ?_
    | with_reducible refine Kx.p_isNi ?_
    | with_reducible refine Kx.p_isNr ?_
    | with_reducible refine Kx.p_notN ?_
    | with_reducible refine Kx.p_notNi ?_
    | with_reducible refine Kx.p_notNr ?_
    | with_reducible refine Kx.p_intI ?_
    | with_reducible refine Kx.p_intB ?_
    | with_reducible refine Kx.p_abs ?_
    | with_reducible refine Kx.p_mx2 ?_
    | with_reducible refine Kx.p_mn2 ?_
    | ((with_reducible refine Kx.p_ixT (xs := ?zxs) (v := ?zval) ?zh ?ze ?zq); (case zh => row_cond hp); (case ze => rfl))
    | ((with_reducible refine Kx.p_ixL (xs := ?zxs) (v := ?zval) ?zh ?ze ?zq); (case zh => row_cond hp); (case ze => rfl))
    | ((with_reducible refine Kx.p_lenT (xs := ?zxs) ?zh ?zq); (case zh => row_cond hp))
    | ((with_reducible refine Kx.p_lenL (xs := ?zxs) ?zh ?zq); (case zh => row_cond hp))
    | ((with_reducible refine Kx.p_xT (xs := ?zxs) (v := ?zval) ?zh ?ze ?zq); (case zh => row_cond hp); (case ze => rfl))
    | ((with_reducible refine Kx.p_xL (xs := ?zxs) (v := ?zval) ?zh ?ze ?zq); (case zh => row_cond hp); (case ze => rfl))
    | with_reducible refine Kx.p_qI ?_
    | with_reducible refine Kx.p_qS ?_
    | with_reducible refine Kx.p_qNI ?_
    | with_reducible refine Kx.p_ltI ?_
    | with_reducible refine Kx.q_int_int ?_
    | with_reducible refine Kx.q_int_bool ?_
    | with_reducible refine Kx.q_int_str ?_
    | with_reducible refine Kx.q_int_tuple ?_
    | with_reducible refine Kx.q_bool_int ?_
    | with_reducible refine Kx.q_bool_bool ?_
    | with_reducible refine Kx.q_bool_str ?_
    | with_reducible refine Kx.q_bool_tuple ?_
    | with_reducible refine Kx.q_str_int ?_
    | with_reducible refine Kx.q_str_bool ?_
    | with_reducible refine Kx.q_str_str ?_
    | with_reducible refine Kx.q_str_tuple ?_
    | with_reducible refine Kx.q_NoneType_int ?_
    | with_reducible refine Kx.q_NoneType_bool ?_
    | with_reducible refine Kx.q_NoneType_str ?_
    | with_reducible refine Kx.q_NoneType_tuple ?_
    | ((with_reducible refine Kx.q_tuple_int (xs := ?zxs) ?zh ?zq); (case zh => row_cond hp))
    | ((with_reducible refine Kx.q_tuple_bool (xs := ?zxs) ?zh ?zq); (case zh => row_cond hp))
    | ((with_reducible refine Kx.q_tuple_str (xs := ?zxs) ?zh ?zq); (case zh => row_cond hp))
    | ((with_reducible refine Kx.q_tuple_tuple (xs := ?zxs) ?zh ?zq); (case zh => row_cond hp))
    | ((with_reducible refine Kx.q_list_int (xs := ?zxs) ?zh ?zq); (case zh => row_cond hp))
    | ((with_reducible refine Kx.q_list_bool (xs := ?zxs) ?zh ?zq); (case zh => row_cond hp))
    | ((with_reducible refine Kx.q_list_str (xs := ?zxs) ?zh ?zq); (case zh => row_cond hp))
    | ((with_reducible refine Kx.q_list_tuple (xs := ?zxs) ?zh ?zq); (case zh => row_cond hp))
    | ((with_reducible refine Kx.q_dict_int (kvs := ?zxs) ?zh ?zq); (case zh => row_cond hp))
    | ((with_reducible refine Kx.q_dict_bool (kvs := ?zxs) ?zh ?zq); (case zh => row_cond hp))
    | ((with_reducible refine Kx.q_dict_str (kvs := ?zxs) ?zh ?zq); (case zh => row_cond hp))
    | ((with_reducible refine Kx.q_dict_tuple (kvs := ?zxs) ?zh ?zq); (case zh => row_cond hp))
    | with_reducible refine Kx.z_gn ?_
    | ((with_reducible refine Kx.z_gt2 (x := ?zx) (y := ?zy) ?zh ?zq); (case zh => row_cond hp))
    | ((with_reducible refine Kx.z_gt3 (x := ?zx) (y := ?zy) (z := ?zz) ?zh ?zq); (case zh => row_cond hp))
    | with_reducible refine Kx.z_lcT ?_
    | with_reducible refine Kx.z_lcL ?_
    | with_reducible refine Kx.z_lcS ?_
    | with_reducible refine Kx.z_lcR ?_
    | with_reducible refine Kx.z_lcZ ?_
    | with_reducible refine Kx.z_yes ?_
    | ((with_reducible refine Kx.z_wip ?zh ?zq); (case zh => rfl))
    | ((with_reducible refine Kx.z_LK ?zh ?zq); (case zh => rfl))
    | with_reducible refine Kx.z_lc2T ?_
    | with_reducible refine Kx.z_lc2L ?_
    | with_reducible refine Kx.z_inT ?_
    | with_reducible refine Kx.z_inL ?_
    | ((with_reducible refine Kx.z_LK2 ?zh ?zq); (case zh => rfl))
    | with_reducible refine Kx.z_sl ?_
    | with_reducible refine Kx.z_nop ?_
    | with_reducible refine Kx.z_part ?_
    | with_reducible refine Kx.z_exi ?_
    | with_reducible refine Kx.p_isNb ?_
    | with_reducible refine Kx.p_isNs ?_
    | with_reducible refine Kx.z_match ?_
    | ((with_reducible refine Kx.z_caseT (y := ?zy) (xs := ?zxs) ?zh ?zl ?zf ?zq); (case zh => row_cond hp); (case zl => rfl); (case zf => rfl))
    | ((with_reducible refine Kx.z_caseL (y := ?zy) (xs := ?zxs) ?zh ?zl ?zq); (case zh => row_cond hp); (case zl => (intro z; cases z)))
    | ((with_reducible refine Kx.z_caseF (y := ?zy) (xs := ?zxs) ?zh ?zf ?zq); (case zh => row_cond hp); (case zf => rfl))
    | with_reducible refine Kx.z_mnil ?_
    | with_reducible refine Kx.z_lcE ?_
    | with_reducible refine Kx.z_forT ?_
    | with_reducible refine Kx.z_forL ?_
    | with_reducible refine Kx.z_forR ?_
    | with_reducible refine Kx.z_forC ?_
    | ((with_reducible refine Kx.p_fP (dx := ?zd) (fs := ?zfs) (v := ?zv) (by assumption) ?zh ?zl ?zf ?zq); (case zh => row_cond hp); (case zl => assumption); (case zf => decide +kernel))
    | ((with_reducible refine Kx.p_fG (dx := ?zd) (fs := ?zfs) (v := ?zv) (by assumption) ?zh ?zl ?zf ?zq); (case zh => row_cond hp); (case zl => assumption); (case zf => decide +kernel))
    | ((with_reducible refine Kx.p_fR (dx := ?zd) (fs := ?zfs) (v := ?zv) (by assumption) ?zh ?zl ?zf ?zq); (case zh => row_cond hp); (case zl => assumption); (case zf => decide +kernel))
    | ((with_reducible refine Kx.p_dgetS (kvs := ?zk) (v := ?zv) ?zh ?ze ?zq); (case zh => row_cond hp); (case ze => assumption))
    | with_reducible refine Kx.z_star ?_
    | ((with_reducible refine Kx.p_star (xs := ?zxs) ?zh ?zq); (case zh => row_cond hp))
    | with_reducible refine Kx.z_bm ?_
    | with_reducible refine Kx.p_ip ?_
    | with_reducible refine Kx.z_lss ?_
    | with_reducible refine Kx.z_dcT ?_
    | with_reducible refine Kx.z_sf ?_
    | with_reducible refine Kx.z_dnew ?_
    | with_reducible refine Kx.z_mk ?_
    | with_reducible refine Kx.z_callS ?_
    | with_reducible refine Kx.z_gsub ?_
    | ((with_reducible refine Kx.p_setL (xs := ?zxs) (k := ?zk) ?zh ?ze ?zq); (case zh => row_cond hp); (case ze => rfl))
    | ((with_reducible refine Kx.p_modP ?zh ?zq); (case zh => first | assumption | decide +kernel))
    | ((with_reducible refine Kx.p_mulR ?zh ?zq); (case zh => first | assumption | decide +kernel))
    | ((with_reducible refine Kx.p_mulL ?zh ?zq); (case zh => first | assumption | decide +kernel))
    | ((with_reducible refine Kx.p_powS ?zh ?zq); (case zh => first | assumption | decide +kernel))
    | ((with_reducible refine Kx.p_powW ?zh ?zq); (case zh => first | assumption | decide +kernel))
    | ((with_reducible refine Kx.p_fdvS ?zh ?zq); (case zh => first | assumption | decide +kernel))
    | with_reducible refine Kx.z_par ?_
    | with_reducible refine Kx.p_par ?_
    | with_reducible refine Kx.z_par3 ?_
    | with_reducible refine Kx.p_par3 ?_
    | ((with_reducible refine Kx.z_gl3 (x := ?zx) (y := ?zy) (z := ?zz) ?zh ?zq); (case zh => row_cond hp))
    | ((with_reducible refine Kx.z_gtG2 (x := ?zx) (y := ?zy) ?zh ?zq); (case zh => row_cond hp))
    | with_reducible refine Kx.z_cm ?_
    | with_reducible refine Kx.p_cm ?_
    | with_reducible refine Kx.z_prs ?_
    | with_reducible refine Kx.z_prn ?_
    | dsimp only)
local macro_rules
  | `(tactic| row_cond zz) => `(tactic| repeat (row_cond zs))

section
variable {P : Program} {w : World} {K : PySem.W.Frag} {mg : Str → Option Value} {base : Heap}
def spIsMove : Sp := fun vs H Q _ => ∃ a m n tot nm, vs = [.ref a, .int n] ∧ MvAt H a m ∧ MvOk tot n nm m ∧ tot ≤ 6 ∧ n ≤ 8 ∧ (∀ x ∈ nm, x ∈ okNames) ∧ ∀ H', Same H H' → Q (.bl true) H'
theorem sc_is_move : FnScope ["value", "points", "here", "there", "pairs", "name", "modes", "caught"] ["value", "points"] (defScope (top 28)) := ⟨rfl, rfl, rfl, by decide +kernel, rfl, by decide +kernel, by decide +kernel⟩
theorem c_is_move (T : Txt K mg) : Cal P w K mg base 4 "is_move" spIsMove := by
  refine cal_of T 10 rfl sc_is_move (fun _ _ _ _ _ _ us hl => match us, hl with | [_, _], _ => rfl) (fun vs H Q E h => ?_) (fun f cdv A outer s H vs Q E hr h => ?_)
  · obtain ⟨a, m, n, tot, nm, rfl, _⟩ := h
    rfl
  · obtain ⟨a, m, n, tot, nm, rfl, ha, ok, htot, hn, hnm, hq⟩ := h
    have hn2 : n ≤ 10 ^ 40 := Int.le_trans hn (by decide)
    refine ⟨_, (pss_cons (ps_if (pt_not (pt_val (pe_callB c_isB rfl (T.b "isinstance") boot_isinstance (pa_cons (pv 0) (pa_cons (pe_bltn rfl (T.b "tuple") boot_tuple (v := .ty "tuple") rfl) pa_nil))))) (pss_one (ps_ret pe_bl)) pss_nil)
      (pss_cons (ps_match (pv 0) (pm_case rfl sc_is_move.nd hp_val (.cons (i := 2) rfl (.inl rfl) (.inr rfl) (.cons (i := 3) rfl (.inl rfl) (.inr rfl) (.cons (i := 4) rfl (.inl rfl) (.inr rfl) .nil))) (pss_one (ps_ret (pe_and (C8.pe_c (c_is_below T) hr (by decide) rfl (pa_cons (pv 2) (pa_cons (pv 1) pa_nil))) (pe_and (C8.pe_c (c_is_below T) hr (by decide) rfl (pa_cons (pv 3) (pa_cons (pv 1) pa_nil))) (pe_one (C8.pe_c (c_are_pairs T) hr (by decide) rfl (pa_cons (pv 4) pa_nil)))))))
      (pm_case rfl sc_is_move.nd hp_val (.cons (i := 2) rfl (.inl rfl) (.inr rfl) (.cons (i := 3) rfl (.inl rfl) (.inr rfl) (.cons (i := 5) rfl (.inl rfl) (.inr rfl) (.cons (i := 6) rfl (.inl rfl) (.inr rfl) (.cons (i := 7) rfl (.inl rfl) (.inr rfl) .nil))))) (pss_cons (ps_if (PW.pt (pw_or (pt_not (pt_val (C8.pe_c (c_is_below T) hr (by decide) rfl (pa_cons (pv 2) (pa_cons (pv 1) pa_nil))))) (pw_or (pt_not (pt_val (C8.pe_c (c_is_below T) hr (by decide) rfl (pa_cons (pv 3) (pa_cons (pv 1) pa_nil))))) (pw_or1 (pt_not (pt_val (C8.pe_c (c_is_name T) hr (by decide) rfl (pa_cons (pv 5) pa_nil)))))))) (pss_one (ps_ret pe_bl)) pss_nil)
      (pss_one (ps_ret (pe_and (C8.pe_c (c_is_mode_set T) hr (by decide) rfl (pa_cons (pv 6) (pa_cons (C8.pe_gc rfl T.mm) pa_nil))) (pe_one (C8.pe_c (c_is_caught T) hr (by decide) rfl (pa_cons (pv 7) (pa_cons (pv 1) pa_nil))))))))
      (pm_case rfl sc_is_move.nd (hp_or hp_val hp_val rfl) (.cons (i := 2) rfl (.inl rfl) (.inr rfl) (.cons (i := 6) rfl (.inl rfl) (.inr rfl) .nil)) (pss_one (ps_ret (pe_and (C8.pe_c (c_is_below T) hr (by decide) rfl (pa_cons (pv 2) (pa_cons (pv 1) pa_nil))) (pe_one (C8.pe_c (c_is_mode_set T) hr (by decide) rfl (pa_cons (pv 6) (pa_cons (C8.pe_gc rfl T.mm) pa_nil)))))))
      pm_nil))))
      (pss_one (ps_ret pe_bl)))), ?_⟩
    cases ha with
    | go h1 h2 =>
      obtain ⟨o1, o2, o3⟩ := ok
      row_cond zz
      refine b_in hn2 o1 ?_
      row_cond zz
      refine b_in hn2 o2 ?_
      row_cond zz
      exact ⟨_, _, _, rfl, htot, h2, Nat.le_trans (pairs_len o3 htot) (by decide), o3, hq⟩
    | call h1 h2 =>
      obtain ⟨o1, o2, o3, o4, o5⟩ := ok
      row_cond zz
      refine b_in hn2 o1 ?_
      row_cond zz
      refine b_in hn2 o2 ?_
      row_cond zz
      refine ⟨_, rfl, hnm _ o3, fun H1 s1 => ?_⟩
      row_cond zz
      refine ⟨_, _, _, rfl, (by decide), Kx.Same.get s1 h2, Nat.le_trans (modes_len o4 htot) (by decide), ⟨o4.1, o4.2.1, fun m hm => ⟨(o4.2.2 m hm).1, by have := (o4.2.2 m hm).2; omega⟩⟩, fun H2 s2 => ?_⟩
      row_cond zz
      exact ⟨_, _, rfl, hn2, o5, hq _ (s1.trans s2)⟩
    | leave h1 h2 =>
      obtain ⟨o1, o4⟩ := ok
      row_cond zz
      refine b_in hn2 o1 ?_
      row_cond zz
      exact ⟨_, _, _, rfl, (by decide), h2, Nat.le_trans (modes_len o4 htot) (by decide), ⟨o4.1, o4.2.1, fun m hm => ⟨(o4.2.2 m hm).1, by have := (o4.2.2 m hm).2; omega⟩⟩, hq⟩
    | fail h1 h2 =>
      obtain ⟨o1, o4⟩ := ok
      row_cond zz
      refine b_in hn2 o1 ?_
      row_cond zz
      exact ⟨_, _, _, rfl, (by decide), h2, Nat.le_trans (modes_len o4 htot) (by decide), ⟨o4.1, o4.2.1, fun m hm => ⟨(o4.2.2 m hm).1, by have := (o4.2.2 m hm).2; omega⟩⟩, hq⟩
end
end Kx

/- part K6 -/
/-! # K6: enumerate(a tuple); loops; the steps that read instances and dicts -/
namespace Kx
open PySem PySem.Spec PyProof.Rows L2
theorem meets_enumerate_newT (l : Addr) (items : Array Value) (n : Nat) (dct : Option Addr) (sl : Array (Option Value)) :
    Meets (Builtin.«enumerate.__new__» ⟨[.type "enumerate", .ref l], []⟩) (fun _ R s => s.heap.get? l = some { cls := .type "tuple", dict := dct, data := .seq items n, slots := sl } ∧
      R (.ok (.ret (.ref (s.heap.push { cls := .type "tuple_iterator", data := .fields #[.ref l, .int 0 0] }).objs.size)))
        { s with heap := (s.heap.push { cls := .type "tuple_iterator", data := .fields #[.ref l, .int 0 0] }).push { cls := .type "enumerate", data := .fields #[.none, .bool false, .ref s.heap.objs.size, rawInt 0, .none, .none] } }) :=
  .of_wp fun prog w A R s h => by
    obtain ⟨hp, g, d, tk, os⟩ := s; obtain ⟨hl, h⟩ := h
    have hsub := PySem.sub_enumerate
    have hL : Heap.IsTuple (Shared.heap ⟨hp, g, d, tk, os⟩) l items := ⟨_, hl, rfl, n, rfl⟩
    wp_walk using AutoSeq1.wpAny_loadPart' hl
    refine wpAny_stack_any fun st => wpAny_pure ?_
    split
    · rename_i c _ _ _ _ _
      cases (c == Value.type "enumerate")
      · wp_walk using AutoSeq1.wpAny_loadPart' hl, wpAny_pyIter_tuple hL
        exact ⟨_, rfl, h⟩
      · wp_walk using AutoSeq1.wpAny_loadPart' hl, wpAny_pyIter_tuple hL
        exact ⟨_, rfl, h⟩
    · wp_walk using AutoSeq1.wpAny_loadPart' hl, wpAny_pyIter_tuple hL
      exact ⟨_, rfl, h⟩
section
variable {prog : Program} {w : World} {A : Around} {E : Value → Shared → Prop} {s : Shared}
theorem call_enumerate_tuple {l : Addr} {items : Array Value} {Q : Value → Shared → Prop} (hL : s.heap.IsTuple l items)
    (h : ∀ h', IsEnum h' (s.heap.objs.size + 1) s.heap.objs.size 0 .none → h'.IsTupleIter s.heap.objs.size l 0 → h'.objs.size = s.heap.objs.size + 2 →
      (∀ b o, s.heap.get? b = some o → h'.get? b = some o) → Q (.ref (s.heap.objs.size + 1)) { s with heap := h' }) :
    wpAny (model prog w) A (call (.type "enumerate") [.ref l]) Q E s := by
  obtain ⟨⟨c, dct, dt, sl⟩, hl, hc, n, hd⟩ := hL
  replace hc : c = .type "tuple" := hc
  replace hd : dt = .seq items n := hd
  subst hc hd
  refine callType_new PySem.F.called_enumerate (by decide) (PySem.F.typeCall_enumerate_1 _) (PySem.F.newCall_enumerate_1 _) (fun obj => PySem.F.args_object_init_2 obj _) PySem.F.entry_enumerate_new
    (meets_enumerate_newT l items n dct sl) ⟨hl, ?_⟩
  have hz : (s.heap.push { cls := .type "tuple_iterator", data := .fields #[.ref l, .int 0 0] }).objs.size = s.heap.objs.size + 1 := Heap.size_push ..
  show _ ∧ _
  rw [hz]
  have he : IsEnum ((s.heap.push { cls := .type "tuple_iterator", data := .fields #[.ref l, .int 0 0] }).push
      { cls := .type "enumerate", data := .fields #[.none, .bool false, .ref s.heap.objs.size, rawInt 0, .none, .none] }) (s.heap.objs.size + 1) s.heap.objs.size 0 .none := by
    have := Heap.get?_push_size (s.heap.push { cls := .type "tuple_iterator", data := .fields #[.ref l, .int 0 0] })
      (o := { cls := .type "enumerate", data := .fields #[.none, .bool false, .ref s.heap.objs.size, rawInt 0, .none, .none] }) rfl
    rw [hz] at this; exact this
  refine ⟨⟨_, he, rfl⟩, h _ he ⟨_, Heap.get?_push_of_some _ (Heap.get?_push_size _ rfl), rfl, rfl⟩ (by rw [Heap.size_push, hz]) fun b o x => Heap.get?_push_of_some _ (Heap.get?_push_of_some _ x)⟩
end
theorem pyNext_enumT_end {prog : Program} {w : World} {A : Around} {E : Value → Shared → Prop} {s : Shared} {e it l : Addr} {i : Nat} {items : Array Value} {old : Value} {Q : Option Value → Shared → Prop} (hh : A.handled = none)
    (he : IsEnum s.heap e it i old) (hit : s.heap.IsTupleIter it l i) (hl : s.heap.IsTuple l items) (hx : items[i]? = none)
    (hQ : ∀ h', Heap.ExtBut it s.heap h' → Q none { s with heap := h' }) : wpAny (model prog w) A (pyNext (.ref e)) Q E s := by
  have hT : s.TypeIs (.ref e) "enumerate" := ⟨_, he, rfl⟩
  unfold pyNext
  refine wpAny_bind (wpAny_attempt (wpAny_callSpecial?_slot (name := Str.ofString "__next__") hT PySem.F.slot_enumerate_next
    (wpAny_call_entry PySem.F.slot_enumerate_next hT PySem.F.entry_enumerate_next ?_ (PySem.F.args_enumerate_next_1 _))))
  show wpAny _ _ (field (.ref e) 2 >>= _) _ _ _
  refine wpAny_bind (wpAny_field he rfl (x := .ref it) rfl ?_)
  refine wpAny_bind (wpAny_nextOf_tuple_end hh hit hl hx fun h' x he' hx' => ?_)
  obtain ⟨o, ho, hc⟩ := hx'
  refine wpAny_bind (wpAny_isInstance (T := "StopIteration") (b := true) ⟨o, ho, hc⟩ PySem.isSubtype_stop ?_)
  exact wpAny_pure (hQ _ he')
/-- the tuple at a, each item in a new pair -/
def IteT (K : PySem.W.Frag) (a : Addr) : It :=
  ⟨fun i H => ∃ (xs : List V) (x : V), SqT K H a xs ∧ xs[i]? = some x, fun i H v H' => ∃ T x, v = .ref T ∧ H T = none ∧ H' = upd H T (.tup [.int (i : Nat), x]) ∧ ∀ xs, SqT K H a xs → xs[i]? = some x, fun i H => ∃ xs : List V, SqT K H a xs ∧ xs.length ≤ i⟩
theorem turn_enumT {P : Program} {w : World} {K : PySem.W.Frag} {elts : List Expr} {kk : Nat} {tpos : Pos} (a e it : Addr) :
    Turn P w K (.Tuple elts kk tpos) (IteT K a) [e, it] e (fun i h => (∃ old, IsEnum h e it ((i : Nat) : Int) old) ∧ h.IsTupleIter it a i ∧ e ≠ it ∧ a ≠ it ∧ e ≠ a) where
  mem := by simp
  obj := fun i h st b hb => by
    obtain ⟨⟨old, he⟩, ⟨o, ho, hc, hd⟩, _⟩ := st
    have e' : b = e ∨ b = it := by simpa using hb
    rcases e' with z | z
    · rw [z]; exact ⟨_, he, fun v q => nomatch q⟩
    · rw [z]; exact ⟨o, ho, fun v q => by rw [hd] at q; cases q⟩
  keep := fun i h h' st k => let ⟨⟨old, he⟩, hi, hne⟩ := st; ⟨⟨old, k e (by simp) _ he⟩, hi.at fun o q => k it (by simp) o q, hne⟩
  item := by
    intro X hP hw hK hc i pins s σ H E I hf st hg
    subst hP hw hK
    obtain ⟨⟨old, he⟩, hit, hne, hai, hea⟩ := st
    obtain ⟨xs, x, hq, hx⟩ := hg
    obtain ⟨its, rv, p, hz⟩ := I.tuple hq
    obtain ⟨u, hu, ru⟩ := rv.get hx
    have hel : e < s.heap.objs.size := Heap.lt_size he
    have hil : it < s.heap.objs.size := by obtain ⟨_, q, _⟩ := hit; exact Heap.lt_size q
    have hil2 : i < its.toArray.size := by
      have := (List.getElem?_eq_some_iff.mp hu).1
      simpa using this
    refine PySem.wpAny_pyNext_enum_itemD (Draws.tuple (A := X.A.in1) (I.ok.hd hc) it a hai its.toArray) he ⟨hit, p⟩ hil2 hne (by simp [hne, hea]) fun y h' tk hy ho hst hT hsz hk => ?_
    have ey : y = u := by
      have : its.toArray[i]? = some u := by simpa using hu
      rw [this] at hy
      exact (Option.some.inj hy).symm
    subst ey
    refine ⟨_, rfl, wpAny_letOwnedTupleGo_enum (s := { s with heap := h', toks := tk + 1 }) ho fun h'' he' sb => ?_⟩
    have hT2 : h''.get? s.heap.objs.size = some { cls := .type "tuple", data := .seq #[.int i tk, y] } := (sb.2 _ (Nat.ne_of_gt hel)).trans hT
    have new : ObjOk X.prog X.w (upd H s.heap.objs.size (.tup [.int (i : Nat), x])) h'' s.heap.objs.size (.tup [.int (i : Nat), x]) :=
      ⟨by show 2 ≤ sizeLine; decide, [.int i tk, y], .cons ⟨_, rfl⟩ (.cons ru .nil), ⟨_, hT2, rfl, _, rfl⟩⟩
    have I1 : Inv X pins σ (upd H s.heap.objs.size (.tup [.int (i : Nat), x])) { s with heap := h'', toks := tk + 1 } :=
      I.turnedNew (ch := [e, it]) (fun b ob hb q => (sb.2 b (fun z => hb (by simp [z]))).trans (hk b ob (fun z => hb (by simp [z])) (fun z => hb (by simp [z])) q)) hf (Nat.le_refl _) new
    refine ⟨.ref s.heap.objs.size, _, I1, rfl, ⟨_, x, rfl, I.hok.fresh (Nat.le_refl _), rfl, fun ys hy => by rw [I.tuple_inj hy hq]; exact hx⟩, ⟨⟨y, ?_⟩, hst.1.at fun o q => (sb.2 it (Ne.symm hne)).trans q, hne, hai, hea⟩, fun b hb => ?_⟩
    · have e1 : ((i + 1 : Nat) : Int) = (i : Int) + 1 := by omega
      rw [e1]; exact he'
    · have hb' : b < s.heap.objs.size := by
        have e' : b = e ∨ b = it := by simpa using hb
        rcases e' with z | z
        · rw [z]; exact hel
        · rw [z]; exact hil
      rw [upd_ne (Nat.ne_of_lt hb')]
      exact (hf b hb).1
  done := by
    intro X hP hw hK hc i pins s σ H E I hf st hg
    subst hP hw hK
    obtain ⟨⟨old, he⟩, hit, hne, hai, hea⟩ := st
    obtain ⟨xs, hq, hx⟩ := hg
    obtain ⟨its, rv, p, hz⟩ := I.tuple hq
    obtain ⟨f0, f1, f2, f3, f4, f5⟩ := hf it (by simp)
    have hl := rv.length
    exact pyNext_enumT_end (I.ok.hd hc) he hit p (by simp; omega) fun h' eb => ⟨rfl, I.turned (t' := s.toks) (fun b o hb q => eb b o hb q) f0 f1 f3 f4 f5⟩
  self := fun A i s Q E st h => let ⟨⟨_, he⟩, _⟩ := st; wpAny_pyIter_enum he h
def iEnumT (K : PySem.W.Frag) (ta : TA) : TI := fun σ H R => ta σ H fun vs H1 => ∃ a xs, vs = [.ref a] ∧ SqT K H1 a xs ∧ R (IteT K a) H1
theorem pi_enumT {X : Cx} {e : Expr} {ta : TA} {p pos tpos : Pos} {elts : List Expr} {kk : Nat} (hg : Gl X "enumerate") (hm : X.mg "enumerate" = none) (ha : PA X [e] ta) (hs : starEach [e] X.env = [(false, eval e X.env)] := by rfl) :
    PI X (.Tuple elts kk tpos) (.Call (.Name "enumerate" p) [e] [] pos) (iEnumT X.K ta) := by
  refine ⟨fun pins s σ H R I h => ?_⟩
  refine Call_ (ld_blt I hg hm boot_enumerate (PyProof.Rows.callWith_type1 (thn (ha.run pos pins s σ H _ I h) fun us s1 ⟨vs, H1, I1, r1, q1⟩ => ?_) hs rfl))
  obtain ⟨a, xs, ex, hq, q⟩ := q1
  subst ex
  cases r1 with
  | cons r rr =>
    cases rr
    cases r
    obtain ⟨its, rv, p', hz⟩ := I1.tuple hq
    have hal : a < s1.heap.objs.size := by
      obtain ⟨o, ho, _⟩ := p'
      exact Heap.lt_size ho
    refine call_enumerate_tuple p' fun h' he hit hsz hk => wpAny_pyIter_enum he ?_
    have I2 : Inv X pins σ H1 { s1 with heap := h' } := I1.kept (t' := s1.toks) hk
    refine ⟨s1.heap.objs.size + 1, [s1.heap.objs.size + 1, s1.heap.objs.size], _, _, H1, rfl, I2, turn_enumT a (s1.heap.objs.size + 1) s1.heap.objs.size, ⟨⟨.none, he⟩, hit, Nat.succ_ne_self _, Nat.ne_of_lt hal, Nat.ne_of_gt (Nat.lt_succ_of_lt hal)⟩, fun b hb => ?_, q⟩
    have e' : b = s1.heap.objs.size + 1 ∨ b = s1.heap.objs.size := by simpa using hb
    have hle : s1.heap.objs.size ≤ b := by
      rcases e' with z | z
      · rw [z]; exact Nat.le_add_right _ _
      · rw [z]; exact Nat.le_refl _
    obtain ⟨g0, g1, g2, g3, g4, g5⟩ := I1.fpOk hle (I1.hok.fresh hle)
    exact ⟨g0, g1, g2, g3, g4, g5⟩
theorem k_enum {X : Cx} {K : PySem.W.Frag} {e : Expr} {ta : TA} {p pos tpos : Pos} {elts : List Expr} {kk : Nat} (h : X.K = K) (hg : Gl X "enumerate") (hm : X.mg "enumerate" = none) (ha : PA X [e] ta) (hs : starEach [e] X.env = [(false, eval e X.env)] := by rfl) :
    PI X (.Tuple elts kk tpos) (.Call (.Name "enumerate" p) [e] [] pos) (iEnumT K ta) := h ▸ pi_enumT hg hm ha hs
/-! ### comprehensions over enumerate -/
def pLcE (K : PySem.W.Frag) (g : TG) (tt : TT) (te : TE) (vs : List Nat) (σ : L2.St) (Q : VK) : List V → Hp → Prop := fun vs' H1 => ∃ a xs, vs' = [.ref a] ∧ SqT K H1 a xs ∧ pLc (IteT K a) g tt te vs σ H1 Q
section
variable {Rel : Hp → Hp → Prop} {H : Hp} {a : Addr} {R : Nat → List V → Hp → Prop} {K : PySem.W.Frag} {xs : List V} {g : TG} {tt : TT} {te : TE} {vs : List Nat} {σ : L2.St} {Q : VK} {tb : TS} {D : Ends}
theorem z_lcE {ta : TA} (h : ta σ H (pLcE K g tt te vs σ Q)) : tLc (iEnumT K ta) g tt te vs σ H Q := h
theorem p_lcE (Rel : Hp → Hp → Prop) (R : Nat → List V → Hp → Prop) (hR : ∀ i acc H H', NK H H' → R i acc H → R i acc H') (ok : ∀ D, H D = none → Rl Rel H D) (hRel : ∀ H1 T o, Rel H H1 → H1 T = none → Rel H1 (upd H1 T o)) (ha : H a = some (.tup xs)) (hn : xs.length ≤ 100000) (h0 : R 0 [] H)
    (hs : ∀ (i : Nat) x T acc H1 H', xs[i]? = some x → i < xs.length → Rel H H1 → R i acc H1 → Rel H1 H' → H' T = some (.tup [.int (i : Nat), x]) → LTurn Rel R σ vs g tt te i (.ref T) acc H1 H')
    (hd : ∀ D H' ys, H D = none → Rel H H' → H' D = some (.lst ys) → R xs.length ys H' → Q (.ref D) H') : pLcE K g tt te vs σ Q [.ref a] H := by
  refine ⟨a, xs, rfl, .inl (.inl ha), fun D hD => ?_⟩
  refine lc_J (n := xs.length) (ok D hD) hD (fun H => SqT K H a xs) (fun H' r => .inl (.inl (((ok D hD).nk _ _ (ok D hD).rf r) _ _ rfl ha))) (fun i H c hi => ⟨xs, xs[i], c, by simp [hi]⟩) (fun H c => ⟨xs, c, Nat.le_refl _⟩) hn hR h0 (fun i x acc H1 H' hi r e hl q c y => ?_) (fun H' ys r e q => hd D H' ys hD r e q)
  obtain ⟨T, x', rfl, hT, rfl, f1⟩ := y
  exact hs i x' T acc H1 _ (f1 xs c) hi r q (hRel _ _ _ r hT) upd_same D _ (fun y H4 r4 q4 => l_put (ok D hD) hR (Nat.le_trans (Nat.le_of_lt hi) hn) r e hl r4 q4) (fun H4 r4 q4 => l_skip (ok D hD) r e hl r4 q4)
/-! ### loops -/
def pFor (J : It) (g : TG) (tb : TS) (D : Ends) (σ : L2.St) (H : Hp) : Prop := ∃ W : Nat → Nat → L2.St → Hp → Prop, (∃ m, W 0 m σ H) ∧ ∀ i m σ H, W i m σ H →
  (J.stop i H ∧ D.nx σ H) ∨ (J.go i H ∧ ∃ N : L2.St → Hp → Prop, (∀ σ' H', N σ' H' → ∃ m', m' < m ∧ W (i + 1) m' σ' H') ∧ ∀ x H', J.yld i H x H' → g x σ H' fun σ2 H2 => tb { D with nx := N, ct := N, bk := D.nx } σ2 H2)
def pForT (K : PySem.W.Frag) (g : TG) (tb : TS) (D : Ends) (σ : L2.St) : VK := fun x H1 => ∃ a, x = .ref a ∧ (∃ xs, SqT K H1 a xs) ∧ pFor (Itt K a) g tb D σ H1
def pForL (K : PySem.W.Frag) (g : TG) (tb : TS) (D : Ends) (σ : L2.St) : VK := fun x H1 => ∃ a, x = .ref a ∧ (∃ xs, SqL K H1 a xs) ∧ pFor (Itl K a) g tb D σ H1
def pForR (g : TG) (tb : TS) (D : Ends) (σ : L2.St) : List V → Hp → Prop := fun vs H1 => ∃ j : Int, vs = [.int j] ∧ -(2 ^ 62) ≤ j ∧ j < 2 ^ 62 ∧ pFor (Itr 0 j.toNat) g tb D σ H1
def pForC (g : TG) (tb : TS) (D : Ends) (σ : L2.St) : List V → Hp → Prop := fun vs H1 => ∃ (i j c : Int) (n : Nat), vs = [.int i, .int j, .int c] ∧ RgC i j c n ∧ pFor (Itc i c n) g tb D σ H1
theorem z_forT {tl : TE} (h : tl σ H (pForT K g tb D σ)) : tFor (iTup K tl) g tb D σ H := h
theorem z_forL {tl : TE} (h : tl σ H (pForL K g tb D σ)) : tFor (iList K tl) g tb D σ H := h
theorem z_forR {ta : TA} (h : ta σ H (pForR g tb D σ)) : tFor (iRng1 ta) g tb D σ H := h
theorem z_forC {ta : TA} (h : ta σ H (pForC g tb D σ)) : tFor (iRng3 ta) g tb D σ H := h
theorem p_forT (Pv : Nat → L2.St → Hp → Prop) (ha : H a = some (.tup xs)) (h0 : Pv 0 σ H) (hl : ∀ i σ H', Pv i σ H' → H' a = some (.tup xs))
    (hs : ∀ i x σ H, xs[i]? = some x → i < xs.length → Pv i σ H → g x σ H fun σ2 H2 => tb { D with nx := Pv (i + 1), ct := Pv (i + 1), bk := D.nx } σ2 H2) (hd : ∀ σ H, Pv xs.length σ H → D.nx σ H) : pForT K g tb D σ (.ref a) H :=
  ⟨a, rfl, ⟨xs, .inl (.inl ha)⟩, for_tup Pv h0 (fun i σ H _ p => .inl (.inl (hl i σ H p))) (fun i x σ H hx p => hs i x σ H hx (List.getElem?_eq_some_iff.mp hx).1 p) hd⟩
theorem p_forL (Pv : Nat → L2.St → Hp → Prop) (ha : H a = some (.lst xs)) (h0 : Pv 0 σ H) (hl : ∀ i σ H', Pv i σ H' → H' a = some (.lst xs))
    (hs : ∀ i x σ H, xs[i]? = some x → i < xs.length → Pv i σ H → g x σ H fun σ2 H2 => tb { D with nx := Pv (i + 1), ct := Pv (i + 1), bk := D.nx } σ2 H2) (hd : ∀ σ H, Pv xs.length σ H → D.nx σ H) : pForL K g tb D σ (.ref a) H :=
  ⟨a, rfl, ⟨xs, .inl (.inl ha)⟩, for_list Pv h0 (fun i σ H _ p => .inl (.inl (hl i σ H p))) (fun i x σ H hx p => hs i x σ H hx (List.getElem?_eq_some_iff.mp hx).1 p) hd⟩
theorem p_forR {j : Int} (Pv : Nat → L2.St → Hp → Prop) (h1 : 0 ≤ j) (h2 : j ≤ 100000) (h0 : Pv 0 σ H)
    (hs : ∀ (i : Nat) σ H, i < j.toNat → Pv i σ H → g (.int (0 + (i : Nat))) σ H fun σ2 H2 => tb { D with nx := Pv (i + 1), ct := Pv (i + 1), bk := D.nx } σ2 H2) (hd : ∀ σ H, Pv j.toNat σ H → D.nx σ H) : pForR g tb D σ [.int j] H :=
  ⟨j, rfl, by omega, by omega, for_range Pv h0 hs hd⟩
theorem p_forC {i j : Int} (Pv : Nat → L2.St → Hp → Prop) (h1 : -10 ≤ i) (h2 : i ≤ 100000) (h3 : -10 ≤ j) (h4 : j ≤ 100000) (h0 : Pv 0 σ H)
    (hs : ∀ (k : Nat) σ H, k < (i - j).toNat → Pv k σ H → g (.int (i + (k : Nat) * (-1))) σ H fun σ2 H2 => tb { D with nx := Pv (k + 1), ct := Pv (k + 1), bk := D.nx } σ2 H2) (hd : ∀ σ H, Pv (i - j).toNat σ H → D.nx σ H) : pForC g tb D σ [.int i, .int j, .int (-1)] H :=
  ⟨i, j, -1, (i - j).toNat, rfl, RgC.neg (by omega) (by omega) (by omega) (by omega), for_rangeC Pv h0 hs hd⟩
end
/-! ### fields -/
section
variable {K : PySem.W.Frag} {mg : Str → Option Value} {H : Hp} {Q : VK} {a dx : Addr} {fs : List (Str × V)} {f : Str} {v : V} {kvs : List (Key × V)} {s : Str}
theorem p_fP (T : Txt K mg) (ho : H a = some (.ins (aP K) dx fs)) (hl : fs.lookup f = some v) (hf : f ∈ (["own_name", "own_points", "own_moves"] : List Str)) (q : Q v H) : pFld K f Q (.ref a) H := p_fld ho T.cP.cl (T.cP.na f hf) hl q
theorem p_fG (T : Txt K mg) (ho : H a = some (.ins (aG K) dx fs)) (hl : fs.lookup f = some v) (hf : f ∈ (["own_modes", "own_starts", "own_procedures", "own_table", "own_main", "own_kept"] : List Str)) (q : Q v H) : pFld K f Q (.ref a) H := p_fld ho T.cG.cl (T.cG.na f hf) hl q
theorem p_fR (T : Txt K mg) (ho : H a = some (.ins (aR K) dx fs)) (hl : fs.lookup f = some v) (hf : f ∈ (["own_program", "own_bound", "own_start", "own_choices", "own_situations", "own_refused"] : List Str)) (q : Q v H) : pFld K f Q (.ref a) H := p_fld ho T.cR.cl (T.cR.na f hf) hl q
end
end Kx

/- part K7 -/
/-! # K7: the program's runs -/
namespace Kx
open PySem PySem.Spec PyProof.Rows L2
abbrev lk (fs : List (Str × V)) (f : Str) : Option V := fs.lookup f
/-- a program's object, as far as its runs read it -/
def GAt (K : PySem.W.Frag) (H : Hp) (g : Addr) (p : Prg) : Prop := ∃ dx fs tb kvs, H g = some (.ins (aG K) dx fs) ∧ lk fs "own_table" = some (.ref tb) ∧ H tb = some (.dK kvs) ∧ lk fs "own_main" = some (.str p.main) ∧ (∃ st, lk fs "own_starts" = some st ∧ TD H st (eModes p.starts)) ∧
  ∀ n pts l, p.procs.lookup n = some (pts, l) → ∃ a da fa v, valV kvs (.inr n) = some (.ref a) ∧ H a = some (.ins (aP K) da fa) ∧ lk fa "own_moves" = some v ∧ TD H v (eMvs l)
theorem TD.nk {H H' : Hp} {v : V} {d : PyData} (s : NK H H') (h : TD H v d) : TD H' v d := TD.mono (NK.tk s) _ _ h
theorem TDs.nk {H H' : Hp} {v : List V} {d : List PyData} (s : NK H H') (h : TDs H v d) : TDs H' v d := TDs.mono (NK.tk s) _ _ h
theorem GAt.nk {K : PySem.W.Frag} {H H' : Hp} {g : Addr} {p : Prg} (s : NK H H') (h : GAt K H g p) : GAt K H' g p := by
  obtain ⟨dx, fs, tb, kvs, h1, h2, h3, h4, ⟨st, h5, h6⟩, h7⟩ := h
  refine ⟨dx, fs, tb, kvs, s _ _ rfl h1, h2, s _ _ rfl h3, h4, ⟨st, h5, h6.nk s⟩, fun n pts l e => ?_⟩
  obtain ⟨a, da, fa, v, q1, q2, q3, q4⟩ := h7 n pts l e
  exact ⟨a, da, fa, v, q1, s _ _ rfl q2, q3, q4.nk s⟩
theorem GAt.sm {K : PySem.W.Frag} {H H' : Hp} {g : Addr} {p : Prg} (s : Same H H') (h : GAt K H g p) : GAt K H' g p := h.nk (Kx.Same.nk s)
theorem site_at {H : Hp} {v : V} {s : Site} (h : TD H v (eSite s)) : ∃ b, v = .ref b ∧ H b = some (.tup [.str s.1, .int (s.2 : Int)]) := by
  obtain ⟨b, zs, rfl, hb, ts⟩ := TD.tuple h
  cases ts with
  | cons t1 ts =>
    cases ts with
    | cons t2 ts =>
      cases ts
      cases t1
      cases t2
      exact ⟨b, rfl, hb⟩
theorem td_site {H : Hp} {b : Addr} {n : Str} {i : Nat} (h : H b = some (.tup [.str n, .int (i : Int)])) : TD H (.ref b) (eSite (n, i)) := .tup h (.cons (.str n) (.cons (.int _) .nil))
theorem sites_at {H : Hp} {xs : List V} {ss : List Site} {i : Nat} {s : Site} (h : TDs H xs (ss.map eSite)) (e : ss[i]? = some s) : ∃ b, xs[i]? = some (.ref b) ∧ H b = some (.tup [.str s.1, .int (s.2 : Int)]) := by
  obtain ⟨v, hv, td⟩ := h.get' (i := i) (d := eSite s) (by rw [List.getElem?_map, e]; rfl)
  obtain ⟨b, rfl, hb⟩ := site_at td
  exact ⟨b, hv, hb⟩
theorem spot_at {H : Hp} {v : V} {n : Str} {q : Int} (h : TD H v (eSpot (.pt n q))) : ∃ b, v = .ref b ∧ H b = some (.tup [.str n, .int q]) := by
  obtain ⟨b, zs, rfl, hb, ts⟩ := TD.tuple h
  cases ts with
  | cons t1 ts =>
    cases ts with
    | cons t2 ts =>
      cases ts
      cases t1
      cases t2
      exact ⟨b, rfl, hb⟩
theorem td_spot {H : Hp} {b : Addr} {n : Str} {q : Int} (h : H b = some (.tup [.str n, .int q])) : TD H (.ref b) (eSpot (.pt n q)) := .tup h (.cons (.str n) (.cons (.int _) .nil))
theorem sit_at {H : Hp} {v : V} {st : Sit} (h : TD H v (eSit st)) : ∃ b s w, v = .ref b ∧ H b = some (.tup [.int st.mode, .ref s, w]) ∧ TD H (.ref s) (eSites st.sites) ∧ TD H w (eSpot st.spot) := by
  obtain ⟨b, zs, rfl, hb, ts⟩ := TD.tuple h
  cases ts with
  | cons t1 ts =>
    cases ts with
    | cons t2 ts =>
      cases ts with
      | cons t3 ts =>
        cases ts
        cases t1
        obtain ⟨s, _, rfl, _, _⟩ := TD.tuple t2
        exact ⟨b, s, _, rfl, hb, t2, t3⟩
theorem td_sit {H : Hp} {b s : Addr} {w : V} {st : Sit} (h : H b = some (.tup [.int st.mode, .ref s, w])) (h1 : TD H (.ref s) (eSites st.sites)) (h2 : TD H w (eSpot st.spot)) : TD H (.ref b) (eSit st) := .tup h (.cons (.int _) (.cons h1 (.cons h2 .nil)))
theorem cut_to (xs : List V) (k : Nat) : cutV xs none (some (k : Int)) = xs.take k := by
  unfold cutV
  rw [HT.sIx_none, HT.sIx_nat, List.drop_zero, Nat.sub_zero]
  by_cases h : k ≤ xs.length
  · rw [Nat.min_eq_left h]
  · rw [Nat.min_eq_right (by omega), List.take_of_length_le (Nat.le_refl _), List.take_of_length_le (by omega)]
theorem sIx_last (n : Nat) : HT.sIx n n (some (-1)) = n - 1 := by
  show (if (-1 : Int) < 0 then ((-1 : Int) + (n : Int)).toNat else min (-1 : Int).toNat n) = n - 1
  rw [if_pos (by decide)]
  omega
theorem cut_last (xs : List V) : cutV xs none (some (-1)) = xs.take (xs.length - 1) := by
  unfold cutV
  rw [HT.sIx_none, sIx_last, List.drop_zero, Nat.sub_zero]
theorem atI_lastN {xs : List V} {v : V} (h : xs[xs.length - 1]? = some v) (hl : 0 < xs.length) : atI xs (-1) = some v := by
  unfold atI
  have e : ixN xs.length (-1) = some (xs.length - 1) := by
    unfold ixN
    rw [if_neg (by decide), if_pos (by omega)]
    congr 1
    omega
  rw [e]
  exact h
local macro_rules
  | `(tactic| row_cond hp) => `(tactic| first
    | assumption
    | exact upd_same
    | (refine Kx.Same.get (by assumption) ?_; row_cond hp)
    | (refine Kx.SB.get (by assumption) (by assumption) ?_ rfl; row_cond hp)
    | (refine Kx.SB.getL (by assumption) (by assumption) ?_; row_cond hp))
local macro_rules
  | `(tactic| row_cond zs) => `(tactic| first
    | ((with_reducible refine Kx.z_var (v := ?zval) ?zv ?zq); (case zv => rfl))
    | with_reducible refine Kx.z_c ?_
    | with_reducible refine Kx.z_cons ?_
    | with_reducible refine Kx.z_nil ?_
    | with_reducible refine Kx.z_op ?_
    | with_reducible refine Kx.z_cB ?_
    | with_reducible refine Kx.z_call ?_
    | with_reducible refine Kx.z_fld ?_
    | with_reducible refine Kx.z_tup ?_
    | with_reducible refine Kx.z_lst ?_
    | with_reducible refine Kx.z_test ?_
    | with_reducible refine Kx.z_tB ?_
    | with_reducible refine Kx.p_bl ?_
    | with_reducible refine Kx.z_iteT ?_
    | with_reducible refine Kx.z_iteF ?_
    | with_reducible refine Kx.z_seq ?_
    | with_reducible refine Kx.z_ret ?_
    | with_reducible refine Kx.z_set ?_
    | with_reducible refine Kx.z_drop ?_
    | with_reducible refine Kx.z_if ?_
    | with_reducible refine Kx.z_next ?_
    | with_reducible refine Kx.z_and ?_
    | with_reducible refine Kx.z_or ?_
    | with_reducible refine Kx.z_not ?_
    | with_reducible refine Kx.z_andV ?_
    | with_reducible refine Kx.z_orV ?_
    | with_reducible refine Kx.z_notV ?_
    | with_reducible refine Kx.z_ifE ?_
    | with_reducible refine Kx.z_chain ?_
    | with_reducible refine Kx.z_dget ?_
    | with_reducible refine Kx.z_un ?_
    | with_reducible refine Kx.z_asg ?_
    | with_reducible refine Kx.z_retN ?_
    | with_reducible refine Kx.z_iteNT ?_
    | with_reducible refine Kx.z_iteNF ?_
    | with_reducible refine Kx.p_add ?_
    | with_reducible refine Kx.p_sub ?_
    | with_reducible refine Kx.p_lt ?_
    | with_reducible refine Kx.p_le ?_
    | with_reducible refine Kx.p_gt ?_
    | with_reducible refine Kx.p_ge ?_
    | with_reducible refine Kx.p_neg ?_
    | with_reducible refine Kx.p_eqI ?_
    | with_reducible refine Kx.p_eqS ?_
    | with_reducible refine Kx.p_neI ?_
    | with_reducible refine Kx.p_eqNN ?_
    | with_reducible refine Kx.p_isN ?_
    | with_reducible refine Kx.p_isNi ?_
    | with_reducible refine Kx.p_isNr ?_
    | with_reducible refine Kx.p_notN ?_
    | with_reducible refine Kx.p_notNi ?_
    | with_reducible refine Kx.p_notNr ?_
    | with_reducible refine Kx.p_intI ?_
    | with_reducible refine Kx.p_intB ?_
    | with_reducible refine Kx.p_abs ?_
    | with_reducible refine Kx.p_mx2 ?_
    | with_reducible refine Kx.p_mn2 ?_
    | ((with_reducible refine Kx.p_ixT (xs := ?zxs) (v := ?zval) ?zh ?ze ?zq); (case zh => row_cond hp); (case ze => rfl))
    | ((with_reducible refine Kx.p_ixL (xs := ?zxs) (v := ?zval) ?zh ?ze ?zq); (case zh => row_cond hp); (case ze => rfl))
    | ((with_reducible refine Kx.p_lenT (xs := ?zxs) ?zh ?zq); (case zh => row_cond hp))
    | ((with_reducible refine Kx.p_lenL (xs := ?zxs) ?zh ?zq); (case zh => row_cond hp))
    | ((with_reducible refine Kx.p_xT (xs := ?zxs) (v := ?zval) ?zh ?ze ?zq); (case zh => row_cond hp); (case ze => rfl))
    | ((with_reducible refine Kx.p_xL (xs := ?zxs) (v := ?zval) ?zh ?ze ?zq); (case zh => row_cond hp); (case ze => rfl))
    | with_reducible refine Kx.p_qI ?_
    | with_reducible refine Kx.p_qS ?_
    | with_reducible refine Kx.p_qNI ?_
    | with_reducible refine Kx.p_ltI ?_
    | with_reducible refine Kx.q_int_int ?_
    | with_reducible refine Kx.q_int_bool ?_
    | with_reducible refine Kx.q_int_str ?_
    | with_reducible refine Kx.q_int_tuple ?_
    | with_reducible refine Kx.q_bool_int ?_
    | with_reducible refine Kx.q_bool_bool ?_
    | with_reducible refine Kx.q_bool_str ?_
    | with_reducible refine Kx.q_bool_tuple ?_
    | with_reducible refine Kx.q_str_int ?_
    | with_reducible refine Kx.q_str_bool ?_
    | with_reducible refine Kx.q_str_str ?_
    | with_reducible refine Kx.q_str_tuple ?_
    | with_reducible refine Kx.q_NoneType_int ?_
    | with_reducible refine Kx.q_NoneType_bool ?_
    | with_reducible refine Kx.q_NoneType_str ?_
    | with_reducible refine Kx.q_NoneType_tuple ?_
    | ((with_reducible refine Kx.q_tuple_int (xs := ?zxs) ?zh ?zq); (case zh => row_cond hp))
    | ((with_reducible refine Kx.q_tuple_bool (xs := ?zxs) ?zh ?zq); (case zh => row_cond hp))
    | ((with_reducible refine Kx.q_tuple_str (xs := ?zxs) ?zh ?zq); (case zh => row_cond hp))
    | ((with_reducible refine Kx.q_tuple_tuple (xs := ?zxs) ?zh ?zq); (case zh => row_cond hp))
    | ((with_reducible refine Kx.q_list_int (xs := ?zxs) ?zh ?zq); (case zh => row_cond hp))
    | ((with_reducible refine Kx.q_list_bool (xs := ?zxs) ?zh ?zq); (case zh => row_cond hp))
    | ((with_reducible refine Kx.q_list_str (xs := ?zxs) ?zh ?zq); (case zh => row_cond hp))
    | ((with_reducible refine Kx.q_list_tuple (xs := ?zxs) ?zh ?zq); (case zh => row_cond hp))
    | ((with_reducible refine Kx.q_dict_int (kvs := ?zxs) ?zh ?zq); (case zh => row_cond hp))
    | ((with_reducible refine Kx.q_dict_bool (kvs := ?zxs) ?zh ?zq); (case zh => row_cond hp))
    | ((with_reducible refine Kx.q_dict_str (kvs := ?zxs) ?zh ?zq); (case zh => row_cond hp))
    | ((with_reducible refine Kx.q_dict_tuple (kvs := ?zxs) ?zh ?zq); (case zh => row_cond hp))
    | with_reducible refine Kx.z_gn ?_
    | ((with_reducible refine Kx.z_gt2 (x := ?zx) (y := ?zy) ?zh ?zq); (case zh => row_cond hp))
    | ((with_reducible refine Kx.z_gt3 (x := ?zx) (y := ?zy) (z := ?zz) ?zh ?zq); (case zh => row_cond hp))
    | with_reducible refine Kx.z_lcT ?_
    | with_reducible refine Kx.z_lcL ?_
    | with_reducible refine Kx.z_lcS ?_
    | with_reducible refine Kx.z_lcR ?_
    | with_reducible refine Kx.z_lcZ ?_
    | with_reducible refine Kx.z_yes ?_
    | ((with_reducible refine Kx.z_wip ?zh ?zq); (case zh => rfl))
    | ((with_reducible refine Kx.z_LK ?zh ?zq); (case zh => rfl))
    | with_reducible refine Kx.z_lc2T ?_
    | with_reducible refine Kx.z_lc2L ?_
    | with_reducible refine Kx.z_inT ?_
    | with_reducible refine Kx.z_inL ?_
    | ((with_reducible refine Kx.z_LK2 ?zh ?zq); (case zh => rfl))
    | with_reducible refine Kx.z_sl ?_
    | with_reducible refine Kx.z_nop ?_
    | with_reducible refine Kx.z_part ?_
    | with_reducible refine Kx.z_exi ?_
    | with_reducible refine Kx.p_isNb ?_
    | with_reducible refine Kx.p_isNs ?_
    | with_reducible refine Kx.z_match ?_
    | ((with_reducible refine Kx.z_caseT (y := ?zy) (xs := ?zxs) ?zh ?zl ?zf ?zq); (case zh => row_cond hp); (case zl => rfl); (case zf => rfl))
    | ((with_reducible refine Kx.z_caseL (y := ?zy) (xs := ?zxs) ?zh ?zl ?zq); (case zh => row_cond hp); (case zl => (intro z; cases z)))
    | ((with_reducible refine Kx.z_caseF (y := ?zy) (xs := ?zxs) ?zh ?zf ?zq); (case zh => row_cond hp); (case zf => rfl))
    | with_reducible refine Kx.z_mnil ?_
    | with_reducible refine Kx.z_lcE ?_
    | with_reducible refine Kx.z_forT ?_
    | with_reducible refine Kx.z_forL ?_
    | with_reducible refine Kx.z_forR ?_
    | with_reducible refine Kx.z_forC ?_
    | ((with_reducible refine Kx.p_fP (dx := ?zd) (fs := ?zfs) (v := ?zv) (by assumption) ?zh ?zl ?zf ?zq); (case zh => row_cond hp); (case zl => assumption); (case zf => decide +kernel))
    | ((with_reducible refine Kx.p_fG (dx := ?zd) (fs := ?zfs) (v := ?zv) (by assumption) ?zh ?zl ?zf ?zq); (case zh => row_cond hp); (case zl => assumption); (case zf => decide +kernel))
    | ((with_reducible refine Kx.p_fR (dx := ?zd) (fs := ?zfs) (v := ?zv) (by assumption) ?zh ?zl ?zf ?zq); (case zh => row_cond hp); (case zl => assumption); (case zf => decide +kernel))
    | ((with_reducible refine Kx.p_dgetS (kvs := ?zk) (v := ?zv) ?zh ?ze ?zq); (case zh => row_cond hp); (case ze => assumption))
    | with_reducible refine Kx.z_star ?_
    | ((with_reducible refine Kx.p_star (xs := ?zxs) ?zh ?zq); (case zh => row_cond hp))
    | with_reducible refine Kx.z_bm ?_
    | with_reducible refine Kx.p_ip ?_
    | with_reducible refine Kx.z_lss ?_
    | with_reducible refine Kx.z_dcT ?_
    | with_reducible refine Kx.z_sf ?_
    | with_reducible refine Kx.z_dnew ?_
    | with_reducible refine Kx.z_mk ?_
    | with_reducible refine Kx.z_callS ?_
    | with_reducible refine Kx.z_gsub ?_
    | ((with_reducible refine Kx.p_setL (xs := ?zxs) (k := ?zk) ?zh ?ze ?zq); (case zh => row_cond hp); (case ze => rfl))
    | ((with_reducible refine Kx.p_modP ?zh ?zq); (case zh => first | assumption | decide +kernel))
    | ((with_reducible refine Kx.p_mulR ?zh ?zq); (case zh => first | assumption | decide +kernel))
    | ((with_reducible refine Kx.p_mulL ?zh ?zq); (case zh => first | assumption | decide +kernel))
    | ((with_reducible refine Kx.p_powS ?zh ?zq); (case zh => first | assumption | decide +kernel))
    | ((with_reducible refine Kx.p_powW ?zh ?zq); (case zh => first | assumption | decide +kernel))
    | ((with_reducible refine Kx.p_fdvS ?zh ?zq); (case zh => first | assumption | decide +kernel))
    | with_reducible refine Kx.z_par ?_
    | with_reducible refine Kx.p_par ?_
    | with_reducible refine Kx.z_par3 ?_
    | with_reducible refine Kx.p_par3 ?_
    | ((with_reducible refine Kx.z_gl3 (x := ?zx) (y := ?zy) (z := ?zz) ?zh ?zq); (case zh => row_cond hp))
    | ((with_reducible refine Kx.z_gtG2 (x := ?zx) (y := ?zy) ?zh ?zq); (case zh => row_cond hp))
    | with_reducible refine Kx.z_cm ?_
    | with_reducible refine Kx.p_cm ?_
    | with_reducible refine Kx.z_prs ?_
    | with_reducible refine Kx.z_prn ?_
    | dsimp only)
local macro_rules
  | `(tactic| row_cond zz) => `(tactic| repeat (row_cond zs))

section
variable {P : Program} {w : World} {K : PySem.W.Frag} {mg : Str → Option Value} {base : Heap}
/-! ### modes_in -/
/-- a bounded list of ints in 0 .. n - 1 -/
def insB (n : Int) (f : Nat → Nat) : Nat → List V → Hp → Prop := fun i acc _ => acc.length ≤ f i ∧ ∀ x ∈ acc, ∃ k, x = .int k ∧ In0 n k
def spModesIn : Sp := fun vs H Q _ => ∃ a m tot n nm, vs = [.ref a] ∧ MvAt H a m ∧ MvOk tot n nm m ∧ tot ≤ 6 ∧ ∀ H' D ys, Same H H' → H D = none → H' D = some (.lst ys) → ys.length ≤ 100 → (∀ x ∈ ys, ∃ k, x = .int k ∧ In0 tot k) → Q (.ref D) H'
theorem modes_in0 {n : Int} {ms : List Int} (h : ModesOk n ms) : ∀ x ∈ ms.map V.int, ∃ k, x = .int k ∧ In0 n k := fun x hx => by
  obtain ⟨m, hm, rfl⟩ := List.mem_map.mp hx
  exact ⟨m, rfl, h.2.2 m hm⟩
theorem sc_modes_in : FnScope ["move", "here", "there", "pairs", "name", "modes", "caught", "pair", "mode"] ["move"] (defScope (top 29)) := ⟨rfl, rfl, rfl, by decide +kernel, rfl, by decide +kernel, by decide +kernel⟩
theorem c_modes_in (T : Txt K mg) : Cal P w K mg base 1 "modes_in" spModesIn := by
  refine cal_of T 11 rfl sc_modes_in (fun _ _ _ _ _ _ us hl => match us, hl with | [_], _ => rfl) (fun vs H Q E h => ?_) (fun f cdv A outer s H vs Q E hr h => ?_)
  · obtain ⟨a, m, tot, n, nm, rfl, _⟩ := h
    rfl
  · obtain ⟨a, m, tot, n, nm, rfl, ha, ok, htot, hq⟩ := h
    refine ⟨_, (pss_cons (ps_match (pv 0) (pm_case rfl sc_modes_in.nd hp_val (.cons (i := 1) rfl (.inl rfl) (.inr rfl) (.cons (i := 2) rfl (.inl rfl) (.inr rfl) (.cons (i := 3) rfl (.inl rfl) (.inr rfl) .nil))) (pss_one (ps_ret (pe_lc2 rfl sc_modes_in.nd (k_tup (K := K) rfl (pv 3)) (blkOk_by (own := [(("pair" : Str), 7), (("mode" : Str), 8)]) (by kernel_rfl)) (vs1 := [8]) (by decide) (fun _ _ _ _ _ => (pg_name (i := 7) sc_modes_in.nd rfl (.inl rfl) (.inr rfl))) (fun _ _ _ _ _ => pts_nil) (fun _ _ _ _ _ => (k_tup (K := K) rfl (pv 7))) (fun _ _ _ _ _ => (pg_name (i := 8) sc_modes_in.nd rfl (.inl rfl) (.inr rfl))) (fun _ _ _ _ _ => pts_nil) (fun _ _ _ _ _ => (pv 8)))))
      (pm_case rfl sc_modes_in.nd hp_val (.cons (i := 1) rfl (.inl rfl) (.inr rfl) (.cons (i := 2) rfl (.inl rfl) (.inr rfl) (.cons (i := 4) rfl (.inl rfl) (.inr rfl) (.cons (i := 5) rfl (.inl rfl) (.inr rfl) (.cons (i := 6) rfl (.inl rfl) (.inr rfl) .nil))))) (pss_one (ps_ret (pe_callTy (k_clst (K := K) rfl) rfl (T.b "list") boot_list (pa_cons (pv 5) pa_nil))))
      pm_nil)))
      (pss_one (ps_ret (pe_callTy (k_clst (K := K) rfl) rfl (T.b "list") boot_list (pa_cons (k_ix (K := K) rfl (pv 0) pe_int (fun _ _ => rfl)) pa_nil))))), ?_⟩
    cases ha with
    | @go hh t ps b h1 h2 =>
      obtain ⟨o1, o2, o3⟩ := ok
      obtain ⟨xs, hb, ts⟩ := TD.tupR h2
      have hxl : xs.length = ps.length := by rw [ts.length, List.length_map]
      have hpl := pairs_len o3 htot
      row_cond zz
      refine p_lc2T Same (insB tot fun i => 2 * i) (fun _ _ _ _ _ h => h) okS hb ⟨Nat.zero_le _, fun x hx => by cases hx⟩ (fun D i x acc H3 hD hx hi r3 e3 q3 Nx nx => ?_) (fun D H3 ys hD r3 e3 q3 => ?_)
      · obtain ⟨p, b2, hp, rfl, hb2⟩ := pair_at (TDs.sm r3 ts) hx
        have hp3 := o3.2.2 p (List.mem_of_getElem? hp)
        row_cond zz
        refine p_inT (R := fun j acc H => (acc.length ≤ 2 * i + j ∧ j ≤ 2) ∧ ∀ x ∈ acc, ∃ k, x = .int k ∧ In0 tot k) (rl_same hD) r3 e3 (fun j acc H h => ?_) hb2 (fun _ _ _ _ _ h => h) ⟨⟨q3.1, Nat.zero_le _⟩, q3.2⟩ (fun j x acc2 H4 hx hj r4 nk q4 => ?_) (fun H4 i4 => nx H4 ⟨i4.rel, ?_⟩)
        · have h1 := h.1.1
          have h2 := h.1.2
          omega
        · intro Nx1 put skip
          have hx : x = .int p.1 ∨ x = .int p.2 := by
            have := List.mem_of_getElem? hx
            simpa using this
          row_cond zz
          refine put _ _ (Same.refl _) ⟨⟨?_, hj⟩, fun y hy => ?_⟩
          · rw [List.length_append]
            exact Nat.add_le_add_right q4.1.1 1
          · rcases List.mem_append.mp hy with h | h
            · exact q4.2 y h
            · rw [List.mem_singleton.mp h]
              rcases hx with e | e
              · exact ⟨_, e, hp3.1⟩
              · exact ⟨_, e, hp3.2⟩
        · obtain ⟨acc, e, h⟩ := i4.at_
          exact ⟨acc, e, Nat.le_trans h.1.1 (by show 2 * i + 2 ≤ 2 * (i + 1); omega), h.2⟩
      · have h1 : ys.length ≤ 2 * xs.length := q3.1
        exact hq _ _ _ r3 hD e3 (by omega) q3.2
    | call h1 h2 =>
      obtain ⟨o1, o2, o3, o4, o5⟩ := ok
      row_cond zz
      refine p_lstT h2 fun l H1 hl s1 e1 => hq _ _ _ s1 hl e1 ?_ (modes_in0 o4)
      rw [List.length_map]
      exact Nat.le_trans (modes_len o4 htot) (by decide)
    | leave h1 h2 =>
      obtain ⟨o1, o4⟩ := ok
      row_cond zz
      refine p_lstT h2 fun l H1 hl s1 e1 => hq _ _ _ s1 hl e1 ?_ (modes_in0 o4)
      rw [List.length_map]
      exact Nat.le_trans (modes_len o4 htot) (by decide)
    | fail h1 h2 =>
      obtain ⟨o1, o4⟩ := ok
      row_cond zz
      refine p_lstT h2 fun l H1 hl s1 e1 => hq _ _ _ s1 hl e1 ?_ (modes_in0 o4)
      rw [List.length_map]
      exact Nat.le_trans (modes_len o4 htot) (by decide)
/-! ### require_limit, require_program: what is allowed -/
def spReqLim : Sp := fun vs H Q _ => ∃ x t, vs = [x] ∧ TyN H x t ∧ isLim x = true ∧ Q .non H
theorem sc_require_limit : FnScope ["limit"] ["limit"] (defScope (top 20)) := ⟨rfl, rfl, rfl, by decide +kernel, rfl, by decide +kernel, by decide +kernel⟩
theorem c_require_limit (T : Txt K mg) : Cal P w K mg base 4 "require_limit" spReqLim := by
  refine cal_of T 6 rfl sc_require_limit (fun _ _ _ _ _ _ us hl => match us, hl with | [_], _ => rfl) (fun vs H Q E h => ?_) (fun f cdv A outer s H vs Q E hr h => ?_)
  · obtain ⟨a, t, rfl, _⟩ := h
    rfl
  · obtain ⟨x, t, rfl, ht, hx, hq⟩ := h
    refine ⟨_, (pss_one (ps_if (pt_not (pt_val (C8.pe_c (c_is_limit T) hr (by decide) rfl (pa_cons (pv 0) pa_nil)))) (pss_one ps_never) pss_nil)), ?_⟩
    row_cond zz
    refine ⟨_, _, rfl, ht, ?_⟩
    rw [hx]
    row_cond zz
    exact hq
def spReqPrg (K : PySem.W.Frag) : Sp := fun vs H Q _ => ∃ g dx fs, vs = [.ref g] ∧ H g = some (.ins (aG K) dx fs) ∧ Q .non H
theorem sc_require_program : FnScope ["value"] ["value"] (defScope (top 35)) := ⟨rfl, rfl, rfl, by decide +kernel, rfl, by decide +kernel, by decide +kernel⟩
theorem c_require_program (T : Txt K mg) : Cal P w K mg base 1 "require_program" (spReqPrg K) := by
  refine cal_of T 13 rfl sc_require_program (fun _ _ _ _ _ _ us hl => match us, hl with | [_], _ => rfl) (fun vs H Q E h => ?_) (fun f cdv A outer s H vs Q E hr h => ?_)
  · obtain ⟨g, dx, fs, rfl, _⟩ := h
    rfl
  · obtain ⟨g, dx, fs, rfl, hg, hq⟩ := h
    refine ⟨_, (pss_one (ps_if (pt_not (pt_val (pe_callB (k_isC (K := K) rfl) rfl (T.b "isinstance") boot_isinstance (pa_cons (pv 0) (pa_cons (C8.pe_gc rfl (v := .ref (aG K)) ⟨_, T.cG.g, rfl⟩) pa_nil))))) (pss_one ps_never) pss_nil)), ?_⟩
    row_cond zz
    refine p_isC hg T.cG.ins ?_
    row_cond zz
    exact hq
/-! ### move_at -/
def spMoveAt (K : PySem.W.Frag) : Sp := fun vs H Q _ => ∃ g p b n i m, vs = [.ref g, .ref b] ∧ GAt K H g p ∧ H b = some (.tup [.str n, .int (i : Nat)]) ∧ n ∈ p.names ∧ (p.mvs n)[i]? = some m ∧ ∀ a, MvAt H a m → Q (.ref a) H
theorem GAt.moves {K : PySem.W.Frag} {H : Hp} {g : Addr} {p : Prg} {n : Str} (h : GAt K H g p) (hn : n ∈ p.names) : ∃ dx fs tb kvs a da fa v xs, H g = some (.ins (aG K) dx fs) ∧ lk fs "own_table" = some (.ref tb) ∧ H tb = some (.dK kvs) ∧ valV kvs (.inr n) = some (.ref a) ∧ H a = some (.ins (aP K) da fa) ∧ lk fa "own_moves" = some (.ref v) ∧ H v = some (.tup xs) ∧ TDs H xs ((p.mvs n).map eMv) := by
  obtain ⟨dx, fs, tb, kvs, h1, h2, h3, h4, _, h7⟩ := h
  obtain ⟨pts, l, e, _⟩ := lookup_name hn
  obtain ⟨a, da, fa, v, q1, q2, q3, q4⟩ := h7 n pts l e
  obtain ⟨v, xs, rfl, hv, ts⟩ := TD.tuple q4
  rw [mvs_of e]
  exact ⟨dx, fs, tb, kvs, a, da, fa, v, xs, h1, h2, h3, q1, q2, q3, hv, ts⟩
theorem mvs_at {H : Hp} {xs : List V} {l : List Mv} {i : Nat} {m : Mv} (ts : TDs H xs (l.map eMv)) (e : l[i]? = some m) : ∃ a, xs[i]? = some (.ref a) ∧ MvAt H a m := by
  obtain ⟨v, hv, td⟩ := ts.get' (i := i) (d := eMv m) (by rw [List.getElem?_map, e]; rfl)
  obtain ⟨a, rfl, ha⟩ := mv_at td
  exact ⟨a, hv, ha⟩
theorem sc_move_at : FnScope ["program", "site"] ["program", "site"] (defScope (top 39)) := ⟨rfl, rfl, rfl, by decide +kernel, rfl, by decide +kernel, by decide +kernel⟩
theorem c_move_at (T : Txt K mg) : Cal P w K mg base 1 "move_at" (spMoveAt K) := by
  refine cal_of T 14 rfl sc_move_at (fun _ _ _ _ _ _ us hl => match us, hl with | [_, _], _ => rfl) (fun vs H Q E h => ?_) (fun f cdv A outer s H vs Q E hr h => ?_)
  · obtain ⟨g, p, b, n, i, m, rfl, _⟩ := h
    rfl
  · obtain ⟨g, p, b, n, i, m, rfl, hg, hb, hn, hm, hq⟩ := h
    obtain ⟨dx, fs, tb, kvs, a, da, fa, v, xs, h1, h2, h3, h4, h5, h6, h7, ts⟩ := hg.moves hn
    obtain ⟨c, hc, hm⟩ := mvs_at ts hm
    refine ⟨_, (pss_one (ps_ret (k_ix (K := K) rfl (k_fld (K := K) rfl (pe_dget (u1 hr) (k_fld (K := K) rfl (pv 0) rfl) (k_ix (K := K) rfl (pv 1) pe_int (fun _ _ => rfl)) (fun _ _ => rfl)) rfl) (k_ix (K := K) rfl (pv 1) pe_int (fun _ _ => rfl)) (fun _ _ => rfl)))), ?_⟩
    row_cond zz
    refine p_xT h7 (atI_nat hc) ?_
    exact hq c hm
end
end Kx

/- part K8 -/
/-! # K8: fallen, left_by, options_by, steps_in, went -/
namespace Kx
open PySem PySem.Spec PyProof.Rows L2
theorem z_ite2' (c : Bool) {A : Prop} (h1 : c = true → A) (h2 : c = false → A) : A := by
  cases c with
  | true => exact h1 rfl
  | false => exact h2 rfl
def overN : Option Int → Nat → Bool
  | none, _ => false
  | some k, n => decide (k ≤ (n : Int))
def pStar (K : PySem.W.Frag) (t : TA) (σ : L2.St) (Q : List V → Hp → Prop) : VK := fun x H1 => ∃ p xs, x = V.ref p ∧ (SqT K H1 p xs ∨ SqL K H1 p xs) ∧ t σ H1 fun ys H2 => Q (xs ++ ys) H2
theorem z_star {K : PySem.W.Frag} {te : TE} {t : TA} {σ : L2.St} {H : Hp} {Q : List V → Hp → Prop} (h : te σ H (pStar K t σ Q)) : StX.tStar K te t σ H Q := h
theorem p_star {K : PySem.W.Frag} {t : TA} {σ : L2.St} {H : Hp} {Q : List V → Hp → Prop} {p : Addr} {xs : List V} (h : H p = some (.tup xs)) (q : t σ H fun ys H2 => Q (xs ++ ys) H2) : pStar K t σ Q (.ref p) H := ⟨p, xs, rfl, .inl (.inl (.inl h)), q⟩
theorem mv_getD {p : Prg} {s : Site} {m : Mv} (h : (p.mvs s.1)[s.2]? = some m) : p.mv s = m := mv_of h
theorem getD_of {α : Type} {l : List α} {i : Nat} {d x : α} (h : l[i]? = some x) : l.getD i d = x := by
  rw [List.getD_eq_getElem?_getD, h]
  rfl
local macro_rules
  | `(tactic| row_cond hp) => `(tactic| first
    | assumption
    | exact upd_same
    | (refine Kx.Same.get (by assumption) ?_; row_cond hp)
    | (refine Kx.SB.get (by assumption) (by assumption) ?_ rfl; row_cond hp)
    | (refine Kx.SB.getL (by assumption) (by assumption) ?_; row_cond hp))
local macro_rules
  | `(tactic| row_cond zs) => `(tactic| first
    | ((with_reducible refine Kx.z_var (v := ?zval) ?zv ?zq); (case zv => rfl))
    | with_reducible refine Kx.z_c ?_
    | with_reducible refine Kx.z_cons ?_
    | with_reducible refine Kx.z_nil ?_
    | with_reducible refine Kx.z_op ?_
    | with_reducible refine Kx.z_cB ?_
    | with_reducible refine Kx.z_call ?_
    | with_reducible refine Kx.z_fld ?_
    | with_reducible refine Kx.z_tup ?_
    | with_reducible refine Kx.z_lst ?_
    | with_reducible refine Kx.z_test ?_
    | with_reducible refine Kx.z_tB ?_
    | with_reducible refine Kx.p_bl ?_
    | with_reducible refine Kx.z_iteT ?_
    | with_reducible refine Kx.z_iteF ?_
    | with_reducible refine Kx.z_seq ?_
    | with_reducible refine Kx.z_ret ?_
    | with_reducible refine Kx.z_set ?_
    | with_reducible refine Kx.z_drop ?_
    | with_reducible refine Kx.z_if ?_
    | with_reducible refine Kx.z_next ?_
    | with_reducible refine Kx.z_and ?_
    | with_reducible refine Kx.z_or ?_
    | with_reducible refine Kx.z_not ?_
    | with_reducible refine Kx.z_andV ?_
    | with_reducible refine Kx.z_orV ?_
    | with_reducible refine Kx.z_notV ?_
    | with_reducible refine Kx.z_ifE ?_
    | with_reducible refine Kx.z_chain ?_
    | with_reducible refine Kx.z_dget ?_
    | with_reducible refine Kx.z_un ?_
    | with_reducible refine Kx.z_asg ?_
    | with_reducible refine Kx.z_retN ?_
    | with_reducible refine Kx.z_iteNT ?_
    | with_reducible refine Kx.z_iteNF ?_
    | with_reducible refine Kx.p_add ?_
    | with_reducible refine Kx.p_sub ?_
    | with_reducible refine Kx.p_lt ?_
    | with_reducible refine Kx.p_le ?_
    | with_reducible refine Kx.p_gt ?_
    | with_reducible refine Kx.p_ge ?_
    | with_reducible refine Kx.p_neg ?_
    | with_reducible refine Kx.p_eqI ?_
    | with_reducible refine Kx.p_eqS ?_
    | with_reducible refine Kx.p_neI ?_
    | with_reducible refine Kx.p_eqNN ?_
    | with_reducible refine Kx.p_isN ?_
    | with_reducible refine Kx.p_isNi ?_
    | with_reducible refine Kx.p_isNr ?_
    | with_reducible refine Kx.p_notN ?_
    | with_reducible refine Kx.p_notNi ?_
    | with_reducible refine Kx.p_notNr ?_
    | with_reducible refine Kx.p_intI ?_
    | with_reducible refine Kx.p_intB ?_
    | with_reducible refine Kx.p_abs ?_
    | with_reducible refine Kx.p_mx2 ?_
    | with_reducible refine Kx.p_mn2 ?_
    | ((with_reducible refine Kx.p_ixT (xs := ?zxs) (v := ?zval) ?zh ?ze ?zq); (case zh => row_cond hp); (case ze => rfl))
    | ((with_reducible refine Kx.p_ixL (xs := ?zxs) (v := ?zval) ?zh ?ze ?zq); (case zh => row_cond hp); (case ze => rfl))
    | ((with_reducible refine Kx.p_lenT (xs := ?zxs) ?zh ?zq); (case zh => row_cond hp))
    | ((with_reducible refine Kx.p_lenL (xs := ?zxs) ?zh ?zq); (case zh => row_cond hp))
    | ((with_reducible refine Kx.p_xT (xs := ?zxs) (v := ?zval) ?zh ?ze ?zq); (case zh => row_cond hp); (case ze => rfl))
    | ((with_reducible refine Kx.p_xL (xs := ?zxs) (v := ?zval) ?zh ?ze ?zq); (case zh => row_cond hp); (case ze => rfl))
    | with_reducible refine Kx.p_qI ?_
    | with_reducible refine Kx.p_qS ?_
    | with_reducible refine Kx.p_qNI ?_
    | with_reducible refine Kx.p_ltI ?_
    | with_reducible refine Kx.q_int_int ?_
    | with_reducible refine Kx.q_int_bool ?_
    | with_reducible refine Kx.q_int_str ?_
    | with_reducible refine Kx.q_int_tuple ?_
    | with_reducible refine Kx.q_bool_int ?_
    | with_reducible refine Kx.q_bool_bool ?_
    | with_reducible refine Kx.q_bool_str ?_
    | with_reducible refine Kx.q_bool_tuple ?_
    | with_reducible refine Kx.q_str_int ?_
    | with_reducible refine Kx.q_str_bool ?_
    | with_reducible refine Kx.q_str_str ?_
    | with_reducible refine Kx.q_str_tuple ?_
    | with_reducible refine Kx.q_NoneType_int ?_
    | with_reducible refine Kx.q_NoneType_bool ?_
    | with_reducible refine Kx.q_NoneType_str ?_
    | with_reducible refine Kx.q_NoneType_tuple ?_
    | ((with_reducible refine Kx.q_tuple_int (xs := ?zxs) ?zh ?zq); (case zh => row_cond hp))
    | ((with_reducible refine Kx.q_tuple_bool (xs := ?zxs) ?zh ?zq); (case zh => row_cond hp))
    | ((with_reducible refine Kx.q_tuple_str (xs := ?zxs) ?zh ?zq); (case zh => row_cond hp))
    | ((with_reducible refine Kx.q_tuple_tuple (xs := ?zxs) ?zh ?zq); (case zh => row_cond hp))
    | ((with_reducible refine Kx.q_list_int (xs := ?zxs) ?zh ?zq); (case zh => row_cond hp))
    | ((with_reducible refine Kx.q_list_bool (xs := ?zxs) ?zh ?zq); (case zh => row_cond hp))
    | ((with_reducible refine Kx.q_list_str (xs := ?zxs) ?zh ?zq); (case zh => row_cond hp))
    | ((with_reducible refine Kx.q_list_tuple (xs := ?zxs) ?zh ?zq); (case zh => row_cond hp))
    | ((with_reducible refine Kx.q_dict_int (kvs := ?zxs) ?zh ?zq); (case zh => row_cond hp))
    | ((with_reducible refine Kx.q_dict_bool (kvs := ?zxs) ?zh ?zq); (case zh => row_cond hp))
    | ((with_reducible refine Kx.q_dict_str (kvs := ?zxs) ?zh ?zq); (case zh => row_cond hp))
    | ((with_reducible refine Kx.q_dict_tuple (kvs := ?zxs) ?zh ?zq); (case zh => row_cond hp))
    | with_reducible refine Kx.z_gn ?_
    | ((with_reducible refine Kx.z_gt2 (x := ?zx) (y := ?zy) ?zh ?zq); (case zh => row_cond hp))
    | ((with_reducible refine Kx.z_gt3 (x := ?zx) (y := ?zy) (z := ?zz) ?zh ?zq); (case zh => row_cond hp))
    | with_reducible refine Kx.z_lcT ?_
    | with_reducible refine Kx.z_lcL ?_
    | with_reducible refine Kx.z_lcS ?_
    | with_reducible refine Kx.z_lcR ?_
    | with_reducible refine Kx.z_lcZ ?_
    | with_reducible refine Kx.z_yes ?_
    | ((with_reducible refine Kx.z_wip ?zh ?zq); (case zh => rfl))
    | ((with_reducible refine Kx.z_LK ?zh ?zq); (case zh => rfl))
    | with_reducible refine Kx.z_lc2T ?_
    | with_reducible refine Kx.z_lc2L ?_
    | with_reducible refine Kx.z_inT ?_
    | with_reducible refine Kx.z_inL ?_
    | ((with_reducible refine Kx.z_LK2 ?zh ?zq); (case zh => rfl))
    | with_reducible refine Kx.z_sl ?_
    | with_reducible refine Kx.z_nop ?_
    | with_reducible refine Kx.z_part ?_
    | with_reducible refine Kx.z_exi ?_
    | with_reducible refine Kx.p_isNb ?_
    | with_reducible refine Kx.p_isNs ?_
    | with_reducible refine Kx.z_match ?_
    | ((with_reducible refine Kx.z_caseT (y := ?zy) (xs := ?zxs) ?zh ?zl ?zf ?zq); (case zh => row_cond hp); (case zl => rfl); (case zf => rfl))
    | ((with_reducible refine Kx.z_caseL (y := ?zy) (xs := ?zxs) ?zh ?zl ?zq); (case zh => row_cond hp); (case zl => (intro z; cases z)))
    | ((with_reducible refine Kx.z_caseF (y := ?zy) (xs := ?zxs) ?zh ?zf ?zq); (case zh => row_cond hp); (case zf => rfl))
    | with_reducible refine Kx.z_mnil ?_
    | with_reducible refine Kx.z_lcE ?_
    | with_reducible refine Kx.z_forT ?_
    | with_reducible refine Kx.z_forL ?_
    | with_reducible refine Kx.z_forR ?_
    | with_reducible refine Kx.z_forC ?_
    | ((with_reducible refine Kx.p_fP (dx := ?zd) (fs := ?zfs) (v := ?zv) (by assumption) ?zh ?zl ?zf ?zq); (case zh => row_cond hp); (case zl => assumption); (case zf => decide +kernel))
    | ((with_reducible refine Kx.p_fG (dx := ?zd) (fs := ?zfs) (v := ?zv) (by assumption) ?zh ?zl ?zf ?zq); (case zh => row_cond hp); (case zl => assumption); (case zf => decide +kernel))
    | ((with_reducible refine Kx.p_fR (dx := ?zd) (fs := ?zfs) (v := ?zv) (by assumption) ?zh ?zl ?zf ?zq); (case zh => row_cond hp); (case zl => assumption); (case zf => decide +kernel))
    | ((with_reducible refine Kx.p_dgetS (kvs := ?zk) (v := ?zv) ?zh ?ze ?zq); (case zh => row_cond hp); (case ze => assumption))
    | with_reducible refine Kx.z_star ?_
    | ((with_reducible refine Kx.p_star (xs := ?zxs) ?zh ?zq); (case zh => row_cond hp))
    | with_reducible refine Kx.z_bm ?_
    | with_reducible refine Kx.p_ip ?_
    | with_reducible refine Kx.z_lss ?_
    | with_reducible refine Kx.z_dcT ?_
    | with_reducible refine Kx.z_sf ?_
    | with_reducible refine Kx.z_dnew ?_
    | with_reducible refine Kx.z_mk ?_
    | with_reducible refine Kx.z_callS ?_
    | with_reducible refine Kx.z_gsub ?_
    | ((with_reducible refine Kx.p_setL (xs := ?zxs) (k := ?zk) ?zh ?ze ?zq); (case zh => row_cond hp); (case ze => rfl))
    | ((with_reducible refine Kx.p_modP ?zh ?zq); (case zh => first | assumption | decide +kernel))
    | ((with_reducible refine Kx.p_mulR ?zh ?zq); (case zh => first | assumption | decide +kernel))
    | ((with_reducible refine Kx.p_mulL ?zh ?zq); (case zh => first | assumption | decide +kernel))
    | ((with_reducible refine Kx.p_powS ?zh ?zq); (case zh => first | assumption | decide +kernel))
    | ((with_reducible refine Kx.p_powW ?zh ?zq); (case zh => first | assumption | decide +kernel))
    | ((with_reducible refine Kx.p_fdvS ?zh ?zq); (case zh => first | assumption | decide +kernel))
    | with_reducible refine Kx.z_par ?_
    | with_reducible refine Kx.p_par ?_
    | with_reducible refine Kx.z_par3 ?_
    | with_reducible refine Kx.p_par3 ?_
    | ((with_reducible refine Kx.z_gl3 (x := ?zx) (y := ?zy) (z := ?zz) ?zh ?zq); (case zh => row_cond hp))
    | ((with_reducible refine Kx.z_gtG2 (x := ?zx) (y := ?zy) ?zh ?zq); (case zh => row_cond hp))
    | with_reducible refine Kx.z_cm ?_
    | with_reducible refine Kx.p_cm ?_
    | with_reducible refine Kx.z_prs ?_
    | with_reducible refine Kx.z_prn ?_
    | dsimp only)
local macro_rules
  | `(tactic| row_cond zz) => `(tactic| repeat (row_cond zs))

section
variable {P : Program} {w : World} {K : PySem.W.Frag} {mg : Str → Option Value} {base : Heap}
/-! ### fallen -/
def spFallen (K : PySem.W.Frag) : Sp := fun vs H Q _ => ∃ g p m ss l, vs = [.ref g, .int m, .ref ss] ∧ GAt K H g p ∧ TD H (.ref ss) (eSites l) ∧ l.length ≤ 1000 ∧ (∀ s ∈ l, SiteOk p s) ∧ ∀ H' v, Same H H' → TD H' v (eSit (fallen p m l)) → Q v H'
theorem sc_fallen : FnScope ["program", "mode", "sites", "at", "caught"] ["program", "mode", "sites"] (defScope (top 44)) := ⟨rfl, rfl, rfl, by decide +kernel, rfl, by decide +kernel, by decide +kernel⟩
theorem c_fallen (T : Txt K mg) : Cal P w K mg base 2 "fallen" (spFallen K) := by
  refine cal_of T 15 rfl sc_fallen (fun _ _ _ _ _ _ us hl => match us, hl with | [_, _, _], _ => rfl) (fun vs H Q E h => ?_) (fun f cdv A outer s H vs Q E hr h => ?_)
  · obtain ⟨g, p, m, ss, l, rfl, _⟩ := h
    rfl
  · obtain ⟨g, p, m, ss, l, rfl, hg, hs, hl, hok, hq⟩ := h
    obtain ⟨xs, ha, ts⟩ := TD.tupR hs
    have hxl : xs.length = l.length := by rw [ts.length, List.length_map]
    refine ⟨_, (pss_cons (ps_for PassesOwn.never rfl (pi_range3 rfl (T.b "range") (pa_cons (pe_op o_sub (pe_callB (k_len (K := K) rfl) rfl (T.b "len") boot_len (pa_cons (pv 2) pa_nil)) pe_int) (pa_cons (pe_un o_neg pe_int) (pa_cons (pe_un o_neg pe_int) pa_nil)))) (pg_name (i := 3) sc_fallen.nd rfl (.inl rfl) (.inr rfl)) (pss_cons (ps_set (i := 4) sc_fallen.nd rfl (.inl rfl) (k_ix (K := K) rfl (C8.pe_c (c_move_at T) hr (by decide) rfl (pa_cons (pv 0) (pa_cons (k_ix (K := K) rfl (pv 2) (pv 3) (fun _ _ => rfl)) pa_nil))) pe_int (fun _ _ => rfl)))
      (pss_one (ps_if (pt_cmpR o_notN (pv 4) pe_non (nomark _)) (pss_one (ps_ret (pe_tup (pa_cons (pv 1) (pa_cons (pe_slice (k_slT (K := K) rfl) (pv 2) po_none (po_some (pv 3))) (pa_cons (pe_tup (pa_cons (k_ix (K := K) rfl (k_ix (K := K) rfl (pv 2) (pv 3) (fun _ _ => rfl)) pe_int (fun _ _ => rfl)) (pa_cons (pv 4) pa_nil))) pa_nil)))))) pss_nil))))
      (pss_one (ps_ret (pe_tup (pa_cons (pv 1) (pa_cons (pe_tup pa_nil) (pa_cons (C8.pe_gc rfl T.failed) pa_nil))))))), ?_⟩
    row_cond zz
    refine p_forC (fun i σ H' => ∃ a c, σ = [some (.ref g), some (.int m), some (.ref ss), a, c] ∧ Same H H' ∧ i ≤ l.length ∧ fallAt p m l (l.length - i) = fallen p m l) (by omega) (by omega) (by decide) (by decide) ⟨none, none, rfl, Same.refl _, Nat.zero_le _, rfl⟩ (fun i σ H1 hi hp => ?_) (fun σ H1 hp => ?_)
    · obtain ⟨a, c, rfl, s1, hi2, hf⟩ := hp
      have hk : i < l.length := by omega
      obtain ⟨k, hk2⟩ : ∃ k, l.length - i = k + 1 := ⟨l.length - i - 1, by omega⟩
      have hkl : k < l.length := by omega
      have e1 : ((xs.length : Nat) : Int) - 1 + (i : Nat) * (-1) = ((k : Nat) : Int) := by omega
      rw [e1]
      have hst : l[k]? = some l[k] := List.getElem?_eq_getElem hkl
      obtain ⟨hn, h0, t0, n0, ms0, c0, hmv⟩ := hok l[k] (List.getElem_mem hkl)
      obtain ⟨b, hb, hbt⟩ := sites_at ts hst
      have hbt1 := Kx.Same.get s1 hbt
      have hfa : fallAt p m l (k + 1) = fallen p m l := by rw [← hk2]; exact hf
      unfold fallAt at hfa
      rw [getD_of hst, mv_of hmv] at hfa
      row_cond zz
      refine p_xT (Kx.Same.get s1 ha) (atI_nat hb) ?_
      row_cond zz
      refine ⟨g, p, b, _, _, _, rfl, hg.sm s1, hbt1, hn, hmv, fun a1 hm1 => ?_⟩
      cases hm1 with
      | call hc1 hc2 =>
        row_cond zz
        cases c0 with
        | none =>
          dsimp only [vO]
          row_cond zz
          exact ⟨_, _, rfl, s1, by omega, by rw [show l.length - (i + 1) = k by omega]; exact hfa⟩
        | some c0 =>
          dsimp only [vO]
          row_cond zz
          refine p_slT (Kx.Same.get s1 ha) (fun z => ?_) fun q1 H2 hq1 s2 eq1 => ?_
          · have := z.2
            rw [HT.sIx_nat] at this
            omega
          rw [cut_to] at eq1
          row_cond zz
          refine p_xT (Kx.Same.get (s1.trans s2) ha) (atI_nat hb) ?_
          row_cond zz
          refine p_tup (Nat.le_of_ble_eq_true rfl) fun q2 H3 hq2 s3 eq2 => ?_
          row_cond zz
          refine p_tup (Nat.le_of_ble_eq_true rfl) fun q3 H4 hq3 s4 eq3 => ?_
          refine hq H4 _ (s1.trans (s2.trans (s3.trans s4))) ?_
          have hfa : (⟨m, l.take k, .pt l[k].1 c0⟩ : Sit) = fallen p m l := hfa
          rw [← hfa]
          refine td_sit eq3 (.tup (Kx.Same.get s4 (Kx.Same.get s3 eq1)) ?_) (td_spot (Kx.Same.get s4 eq2))
          show TDs H4 (xs.take k) ((l.take k).map eSite)
          rw [List.map_take]
          exact (TDs.sm (s1.trans (s2.trans (s3.trans s4))) ts).take k
    · obtain ⟨a, c, rfl, s1, hi2, hf⟩ := hp
      row_cond zz
      refine p_tup (Nat.le_of_ble_eq_true rfl) fun q2 H3 hq2 s3 eq2 => ?_
      row_cond zz
      refine p_tup (Nat.le_of_ble_eq_true rfl) fun q3 H4 hq3 s4 eq3 => ?_
      refine hq H4 _ (s1.trans (s3.trans s4)) ?_
      rw [← hf, show l.length - ((((xs.length : Nat) : Int) - 1) - (-1)).toNat = 0 by omega]
      exact td_sit (st := ⟨m, [], .failed⟩) eq3 (.tup (Kx.Same.get s4 eq2) .nil) (.str _)
/-! ### left_by -/
def spLeftBy (K : PySem.W.Frag) : Sp := fun vs H Q _ => ∃ g p m ss l, vs = [.ref g, .int m, .ref ss] ∧ PrgOk p ∧ GAt K H g p ∧ TD H (.ref ss) (eSites l) ∧ l.length ≤ 1000 ∧ (∀ s ∈ l, SiteOk p s) ∧ ∀ H' v, Same H H' → TD H' v (eSit (leftBy p m l)) → Q v H'
theorem sc_left_by : FnScope ["program", "mode", "sites"] ["program", "mode", "sites"] (defScope (top 45)) := ⟨rfl, rfl, rfl, by decide +kernel, rfl, by decide +kernel, by decide +kernel⟩
theorem c_left_by (T : Txt K mg) : Cal P w K mg base 2 "left_by" (spLeftBy K) := by
  refine cal_of T 16 rfl sc_left_by (fun _ _ _ _ _ _ us hl => match us, hl with | [_, _, _], _ => rfl) (fun vs H Q E h => ?_) (fun f cdv A outer s H vs Q E hr h => ?_)
  · obtain ⟨g, p, m, ss, l, rfl, _⟩ := h
    rfl
  · obtain ⟨g, p, m, ss, l, rfl, okp, hg, hs, hl, hok, hq⟩ := h
    obtain ⟨xs, ha, ts⟩ := TD.tupR hs
    have hxl : xs.length = l.length := by rw [ts.length, List.length_map]
    refine ⟨_, (pss_cons (ps_if (pt_cmpR (k_eqA (K := K) rfl hr.units) (pv 2) (pe_tup pa_nil) (nomark _)) (pss_one (ps_ret (pe_tup (pa_cons (pv 1) (pa_cons (pe_tup pa_nil) (pa_cons (C8.pe_gc rfl T.left) pa_nil)))))) pss_nil)
      (pss_one (ps_ret (pe_tup (pa_cons (pv 1) (pa_cons (pe_slice (k_slT (K := K) rfl) (pv 2) po_none (po_some (pe_un o_neg pe_int))) (pa_cons (pe_tup (pa_cons (k_ix (K := K) rfl (k_ix (K := K) rfl (pv 2) (pe_un o_neg pe_int) (fun _ _ => rfl)) pe_int (fun _ _ => rfl)) (pa_cons (k_ix (K := K) rfl (C8.pe_c (c_move_at T) hr (by decide) rfl (pa_cons (pv 0) (pa_cons (k_ix (K := K) rfl (pv 2) (pe_un o_neg pe_int) (fun _ _ => rfl)) pa_nil))) pe_int (fun _ _ => rfl)) pa_nil))) pa_nil))))))), ?_⟩
    row_cond zz
    refine p_tup (Nat.le_of_ble_eq_true rfl) fun q0 H1 hq0 s1 eq0 => ?_
    row_cond zz
    refine p_q0 (TD.sm s1 hs) (sh_ok (sh_sites okp hok) (by decide)) eq0 ?_
    cases hgl : l.getLast? with
    | none =>
      have e : l = [] := List.getLast?_eq_none_iff.mp hgl
      subst e
      rw [show (([] : List Site).map eSite).isEmpty = true from rfl]
      row_cond zz
      refine p_tup (Nat.le_of_ble_eq_true rfl) fun q2 H3 hq2 s3 eq2 => ?_
      row_cond zz
      refine p_tup (Nat.le_of_ble_eq_true rfl) fun q3 H4 hq3 s4 eq3 => ?_
      refine hq H4 _ (s1.trans (s3.trans s4)) ?_
      exact td_sit (st := ⟨m, [], .left⟩) eq3 (.tup (Kx.Same.get s4 eq2) .nil) (.str _)
    | some st =>
      have hne : l ≠ [] := fun e => by
        subst e
        cases hgl
      have hpos : 0 < l.length := List.length_pos_iff.mpr hne
      rw [show (l.map eSite).isEmpty = false by cases l with | nil => exact absurd rfl hne | cons => rfl]
      have hst : l[l.length - 1]? = some st := by
        rw [List.getLast?_eq_getElem?] at hgl
        exact hgl
      obtain ⟨hn, h0, t0, n0, ms0, c0, hmv⟩ := hok st (List.mem_of_getElem? hst)
      obtain ⟨b, hb, hbt⟩ := sites_at ts hst
      have hb2 : atI xs (-1) = some (.ref b) := atI_lastN (by rw [hxl]; exact hb) (by omega)
      row_cond zz
      refine p_slT (Kx.Same.get s1 ha) (fun z => ?_) fun q1 H2 hq1 s2 eq1 => ?_
      · have := z.2
        rw [sIx_last] at this
        omega
      rw [cut_last] at eq1
      have hbt2 := Kx.Same.get (s1.trans s2) hbt
      row_cond zz
      refine p_xT (Kx.Same.get (s1.trans s2) ha) hb2 ?_
      row_cond zz
      refine p_xT (Kx.Same.get (s1.trans s2) ha) hb2 ?_
      row_cond zz
      refine ⟨g, p, b, _, _, _, rfl, hg.sm (s1.trans s2), hbt2, hn, hmv, fun a1 hm1 => ?_⟩
      cases hm1 with
      | call hc1 hc2 =>
        row_cond zz
        refine p_tup (Nat.le_of_ble_eq_true rfl) fun q2 H3 hq2 s3 eq2 => ?_
        row_cond zz
        refine p_tup (Nat.le_of_ble_eq_true rfl) fun q3 H4 hq3 s4 eq3 => ?_
        refine hq H4 _ (s1.trans (s2.trans (s3.trans s4))) ?_
        unfold leftBy
        rw [hgl]
        refine td_sit (st := ⟨m, l.dropLast, .pt st.1 (p.mv st).there⟩) eq3 (.tup (Kx.Same.get s4 (Kx.Same.get s3 eq1)) ?_) (td_spot (Kx.Same.get s4 ?_))
        · rw [List.dropLast_eq_take, List.map_take, ← hxl]
          exact (TDs.sm (s1.trans (s2.trans (s3.trans s4))) ts).take _
        · rw [mv_of hmv]
          exact eq2
/-! ### is_refused -/
def spIsRef : Sp := fun vs H Q _ => ∃ lim ss xs, vs = [vO lim, .ref ss] ∧ H ss = some (.tup xs) ∧ Q (.bl (overN lim xs.length)) H
theorem sc_is_refused : FnScope ["limit", "sites"] ["limit", "sites"] (defScope (top 46)) := ⟨rfl, rfl, rfl, by decide +kernel, rfl, by decide +kernel, by decide +kernel⟩
theorem c_is_refused (T : Txt K mg) : Cal P w K mg base 1 "is_refused" spIsRef := by
  refine cal_of T 17 rfl sc_is_refused (fun _ _ _ _ _ _ us hl => match us, hl with | [_, _], _ => rfl) (fun vs H Q E h => ?_) (fun f cdv A outer s H vs Q E hr h => ?_)
  · obtain ⟨g, p, m, rfl, _⟩ := h
    rfl
  · obtain ⟨lim, ss, xs, rfl, hs, hq⟩ := h
    refine ⟨_, (pss_one (ps_ret (pe_and (pe_cmpR o_notN (pv 0) pe_non (nomark _)) (pe_one (pe_cmpR o_ge (pe_callB (k_len (K := K) rfl) rfl (T.b "len") boot_len (pa_cons (pv 1) pa_nil)) (pv 0) (nomark _)))))), ?_⟩
    cases lim with
    | none =>
      dsimp only [vO]
      row_cond zz
      exact hq
    | some k =>
      dsimp only [vO]
      row_cond zz
      exact hq
/-! ### options_by -/
/-- one option of a list: a situation -/
def spOpts (K : PySem.W.Frag) : Sp := fun vs H Q _ => ∃ g p lim sit st b n i, vs = [.ref g, vO lim, sit, .ref b] ∧ PrgOk p ∧ GAt K H g p ∧ TD H sit (eSit st) ∧ SitOk p st ∧ st.sites.length ≤ 900 ∧ (∃ q, st.spot = .pt n q) ∧ H b = some (.tup [.str n, .int (i : Nat)]) ∧ n ∈ p.names ∧ i < (p.mvs n).length ∧
  ∀ H' D ys, Same H H' → H D = none → H' D = some (.lst ys) → TDs H' ys ((byMove p lim st.mode st.sites (n, i)).map eSit) → Q (.ref D) H'
theorem over_eq (lim : Option Int) (ss : List Site) : over lim ss = overN lim ss.length := by
  cases lim <;> rfl
theorem sc_options_by : FnScope ["program", "limit", "situation", "site", "mode", "sites", "spot", "here", "there", "pairs", "name", "modes", "caught", "inner", "old", "new"] ["program", "limit", "situation", "site"] (defScope (top 47)) := ⟨rfl, rfl, rfl, by decide +kernel, rfl, by decide +kernel, by decide +kernel⟩
theorem c_options_by (T : Txt K mg) : Cal P w K mg base 3 "options_by" (spOpts K) := by
  refine cal_of T 18 rfl sc_options_by (fun _ _ _ _ _ _ us hl => match us, hl with | [_, _, _, _], _ => rfl) (fun vs H Q E h => ?_) (fun f cdv A outer s H vs Q E hr h => ?_)
  · obtain ⟨g, p, lim, sit, st, b, n, i, rfl, _⟩ := h
    rfl
  · obtain ⟨g, p, lim, sit, st, b, n, i, rfl, okp, hg, tsit, oks, hl9, ⟨q, hsp⟩, hb, hn, hi, hq⟩ := h
    obtain ⟨sa, ss, sw, rfl, hsa, tss, tsw⟩ := sit_at tsit
    rw [hsp] at tsw
    obtain ⟨sp, rfl, hspt⟩ := spot_at tsw
    obtain ⟨xs, ha, ts⟩ := TD.tupR tss
    have hxl : xs.length = st.sites.length := by rw [ts.length, List.length_map]
    have hmv := idx_mv hi
    refine ⟨_, (pss_cons (ps_asg (pv 2) (k_gt (K := K) (n := 3) rfl rfl (pgs_cons (pg_name (i := 4) sc_options_by.nd rfl (.inr rfl) (.inl rfl)) (pgs_cons (pg_name (i := 5) sc_options_by.nd rfl (.inr rfl) (.inl rfl)) (pgs_cons (pg_name (i := 6) sc_options_by.nd rfl (.inr rfl) (.inl rfl)) pgs_nil)))))
      (pss_cons (ps_match (C8.pe_c (c_move_at T) hr (by decide) rfl (pa_cons (pv 0) (pa_cons (pv 3) pa_nil))) (pm_case rfl sc_options_by.nd hp_val (.cons (i := 7) rfl (.inl rfl) (.inr rfl) (.cons (i := 8) rfl (.inr rfl) (.inl rfl) (.cons (i := 9) rfl (.inl rfl) (.inr rfl) .nil))) (pss_one (ps_ret (pe_lc rfl sc_options_by.nd (k_tup (K := K) rfl (pv 9)) (blkOk_by (own := [(("old" : Str), 14), (("new" : Str), 15)]) (by kernel_rfl)) (fun _ _ _ _ _ => (k_gt (K := K) (n := 2) rfl rfl (pgs_cons (pg_name (i := 14) sc_options_by.nd rfl (.inl rfl) (.inr rfl)) (pgs_cons (pg_name (i := 15) sc_options_by.nd rfl (.inl rfl) (.inr rfl)) pgs_nil)))) (fun _ _ _ _ _ => (pts_one (pt_cmpR (k_eqA (K := K) rfl hr.units) (pv 14) (pv 4) (nomark _)))) (fun _ _ _ _ _ => (pe_tup (pa_cons (pv 15) (pa_cons (pv 5) (pa_cons (pe_tup (pa_cons (k_ix (K := K) rfl (pv 6) pe_int (fun _ _ => rfl)) (pa_cons (pv 8) pa_nil))) pa_nil))))))))
      (pm_case rfl sc_options_by.nd hp_val (.cons (i := 7) rfl (.inl rfl) (.inr rfl) (.cons (i := 8) rfl (.inr rfl) (.inl rfl) (.cons (i := 10) rfl (.inl rfl) (.inr rfl) (.cons (i := 11) rfl (.inl rfl) (.inr rfl) (.cons (i := 12) rfl (.inl rfl) (.inr rfl) .nil))))) (pss_cons (ps_if (pt_cmpR (k_niA (K := K) rfl) (pv 4) (pv 11) (by with_unfolding_all rfl)) (pss_one (ps_ret (pe_lst pa_nil))) pss_nil)
      (pss_cons (ps_set (i := 13) sc_options_by.nd rfl (.inl rfl) (pe_tup (k_star (K := K) rfl (pv 5) (pa_cons (pv 3) pa_nil))))
      (pss_one (ps_ret (pe_lst (pa_cons (pe_ifExp (pt_val (C8.pe_c (c_is_refused T) hr (by decide) rfl (pa_cons (pv 1) (pa_cons (pv 5) pa_nil)))) (C8.pe_c (c_fallen T) hr (by decide) rfl (pa_cons (pv 0) (pa_cons (pv 4) (pa_cons (pv 13) pa_nil)))) (pe_tup (pa_cons (pv 4) (pa_cons (pv 13) (pa_cons (pe_tup (pa_cons (pv 10) (pa_cons pe_int pa_nil))) pa_nil))))) pa_nil))))))
      (pm_case rfl sc_options_by.nd hp_val (.cons (i := 7) rfl (.inl rfl) (.inr rfl) (.cons (i := 11) rfl (.inl rfl) (.inr rfl) .nil)) (pss_one (ps_ret (pe_ifExp (pt_cmpR (k_inA (K := K) rfl) (pv 4) (pv 11) (by with_unfolding_all rfl)) (pe_lst (pa_cons (C8.pe_c (c_left_by T) hr (by decide) rfl (pa_cons (pv 0) (pa_cons (pv 4) (pa_cons (pv 5) pa_nil)))) pa_nil)) (pe_lst pa_nil))))
      (pm_case rfl sc_options_by.nd hp_val (.cons (i := 7) rfl (.inl rfl) (.inr rfl) (.cons (i := 11) rfl (.inl rfl) (.inr rfl) .nil)) (pss_one (ps_ret (pe_ifExp (pt_cmpR (k_inA (K := K) rfl) (pv 4) (pv 11) (by with_unfolding_all rfl)) (pe_lst (pa_cons (C8.pe_c (c_fallen T) hr (by decide) rfl (pa_cons (pv 0) (pa_cons (pv 4) (pa_cons (pv 5) pa_nil)))) pa_nil)) (pe_lst pa_nil))))
      pm_nil)))))
      (pss_one (ps_ret (pe_lst pa_nil))))), ?_⟩
    row_cond zz
    refine ⟨g, p, b, n, i, _, rfl, hg, hb, hn, hmv, fun a hm => ?_⟩
    unfold byMove at hq
    generalize p.mv (n, i) = mv at hm hmv hq
    cases hm with
    | @go hh t ps b2 hm1 hm2 =>
      dsimp only at hq
      obtain ⟨zs, hz, tz⟩ := TD.tupR hm2
      have hpl : ps.length ≤ 100 := by
        obtain ⟨pts, hok2, _⟩ := mv_ok okp (s := (n, i)) hmv
        exact Nat.le_trans (pairs_len hok2.2.2 okp.tot.2) (by decide)
      have hzl : zs.length = ps.length := by rw [tz.length, List.length_map]
      row_cond zz
      refine p_lcT Same (fun i acc H => TDs H acc ((((ps.take i).filter fun q : Int × Int => decide (q.1 = st.mode)).map fun q : Int × Int => (⟨q.2, st.sites, .pt n t⟩ : Sit)).map eSit)) (fun i acc H H' nk h => h.nk nk) okS hz (by omega) .nil (fun i x acc H1 hx hi s1 tacc => ?_) (fun D H1 ys hD s1 e1 tacc => ?_)
      · intro D Nx put skip
        obtain ⟨pq, b3, hpq, rfl, hb3⟩ := pair_at (TDs.sm s1 tz) hx
        have htk : ps.take (i + 1) = ps.take i ++ [pq] := by
          rw [List.take_succ, hpq]
          rfl
        row_cond zz
        by_cases hmode : pq.1 = st.mode
        · refine z_iteD hmode ?_
          row_cond zz
          refine p_tup (Nat.le_of_ble_eq_true rfl) fun q2 H3 hq2 s3 eq2 => ?_
          row_cond zz
          refine p_tup (Nat.le_of_ble_eq_true rfl) fun q3 H4 hq3 s4 eq3 => ?_
          refine put _ _ (s3.trans s4) ?_
          show TDs _ _ _
          rw [htk, List.filter_append, List.map_append, List.map_append]
          refine (tacc.sm (s3.trans s4)).append ?_
          rw [show ([pq].filter fun q : Int × Int => decide (q.1 = st.mode)) = [pq] by rw [List.filter_cons_of_pos (by exact decide_eq_true hmode)]; rfl]
          exact .cons (td_sit (st := ⟨pq.2, st.sites, .pt n t⟩) eq3 (TD.sm (s1.trans (s3.trans s4)) tss) (td_spot (Kx.Same.get s4 eq2))) .nil
        · refine z_iteDF hmode ?_
          refine skip _ (Same.refl _) ?_
          show TDs _ _ _
          rw [htk, List.filter_append, show ([pq].filter fun q : Int × Int => decide (q.1 = st.mode)) = [] by rw [List.filter_cons_of_neg (by simpa using hmode)]; rfl, List.append_nil]
          exact tacc
      · refine hq _ _ _ s1 hD e1 ?_
        have tacc : TDs _ _ _ := tacc
        rw [List.take_of_length_le (by omega)] at tacc
        exact tacc
    | @call hh t nn ms cc b2 hm1 hm2 =>
      dsimp only at hq
      row_cond zz
      refine p_niT hm2 rfl (flat_ints ms) ?_
      rw [inV_ints]
      refine z_ite2' (ms.contains st.mode) (fun hin => ?_) fun hin => ?_
      · rw [if_pos hin] at hq
        rw [hin]
        row_cond zz
        refine p_tup (by rw [List.length_append, hxl]; exact Nat.le_trans (Nat.add_le_add_right hl9 1) (by decide)) fun q1 H1 hq1 s1 eq1 => ?_
        have tin : TD H1 (.ref q1) (eSites (st.sites ++ [(n, i)])) := by
          refine .tup eq1 ?_
          rw [List.map_append]
          exact (ts.sm s1).append (.cons (td_site (Kx.Same.get s1 hb)) .nil)
        row_cond zz
        refine ⟨lim, ss, xs, rfl, Kx.Same.get s1 ha, ?_⟩
        row_cond zz
        rw [hxl, ← over_eq]
        unfold enter at hq
        refine z_ite2' (over lim st.sites) (fun hov => ?_) fun hov => ?_
        · rw [if_pos hov] at hq
          rw [hov]
          row_cond zz
          refine ⟨g, p, st.mode, q1, st.sites ++ [(n, i)], rfl, hg.sm s1, tin, by rw [List.length_append]; show _ + 1 ≤ _; omega, fun s hs => ?_, fun H2 v s2 tv => ?_⟩
          · rcases List.mem_append.mp hs with h | h
            · exact oks.sites s h
            · rw [List.mem_singleton.mp h]
              exact ⟨hn, _, _, _, _, _, hmv⟩
          · row_cond zz
            refine p_lst (Nat.le_of_ble_eq_true rfl) fun q2 H3 hq2 s3 eq2 => ?_
            exact hq _ _ _ (s1.trans (s2.trans s3)) (Same.free (s1.trans s2) hq2) eq2 (.cons (tv.sm s3) .nil)
        · rw [if_neg (by rw [hov]; exact Bool.false_ne_true)] at hq
          rw [hov]
          row_cond zz
          refine p_tup (Nat.le_of_ble_eq_true rfl) fun q2 H2 hq2 s2 eq2 => ?_
          row_cond zz
          refine p_tup (Nat.le_of_ble_eq_true rfl) fun q3 H3 hq3 s3 eq3 => ?_
          row_cond zz
          refine p_lst (Nat.le_of_ble_eq_true rfl) fun q4 H4 hq4 s4 eq4 => ?_
          exact hq _ _ _ (s1.trans (s2.trans (s3.trans s4))) (Same.free (s1.trans (s2.trans s3)) hq4) eq4 (.cons (TD.sm s4 (td_sit (st := ⟨st.mode, st.sites ++ [(n, i)], .pt nn 0⟩) eq3 (tin.sm (s2.trans s3)) (td_spot (Kx.Same.get s3 eq2)))) .nil)
      · rw [if_neg (by rw [hin]; exact Bool.false_ne_true)] at hq
        rw [hin]
        row_cond zz
        refine p_lst (Nat.le_of_ble_eq_true rfl) fun q4 H4 hq4 s4 eq4 => ?_
        exact hq _ _ _ s4 hq4 eq4 .nil
    | @leave hh ms b2 hm1 hm2 =>
      dsimp only at hq
      row_cond zz
      refine p_mT hm2 rfl (flat_ints ms) ?_
      rw [inV_ints]
      refine z_ite2' (ms.contains st.mode) (fun hin => ?_) fun hin => ?_
      · rw [if_pos hin] at hq
        rw [hin]
        row_cond zz
        refine ⟨g, p, st.mode, ss, st.sites, rfl, okp, hg, tss, by omega, oks.sites, fun H2 v s2 tv => ?_⟩
        row_cond zz
        refine p_lst (Nat.le_of_ble_eq_true rfl) fun q2 H3 hq2 s3 eq2 => ?_
        exact hq _ _ _ (s2.trans s3) (Same.free s2 hq2) eq2 (.cons (tv.sm s3) .nil)
      · rw [if_neg (by rw [hin]; exact Bool.false_ne_true)] at hq
        rw [hin]
        row_cond zz
        refine p_lst (Nat.le_of_ble_eq_true rfl) fun q4 H4 hq4 s4 eq4 => ?_
        exact hq _ _ _ s4 hq4 eq4 .nil
    | @fail hh ms b2 hm1 hm2 =>
      dsimp only at hq
      row_cond zz
      refine p_mT hm2 rfl (flat_ints ms) ?_
      rw [inV_ints]
      refine z_ite2' (ms.contains st.mode) (fun hin => ?_) fun hin => ?_
      · rw [if_pos hin] at hq
        rw [hin]
        row_cond zz
        refine ⟨g, p, st.mode, ss, st.sites, rfl, hg, tss, by omega, oks.sites, fun H2 v s2 tv => ?_⟩
        row_cond zz
        refine p_lst (Nat.le_of_ble_eq_true rfl) fun q2 H3 hq2 s3 eq2 => ?_
        exact hq _ _ _ (s2.trans s3) (Same.free s2 hq2) eq2 (.cons (tv.sm s3) .nil)
      · rw [if_neg (by rw [hin]; exact Bool.false_ne_true)] at hq
        rw [hin]
        row_cond zz
        refine p_lst (Nat.le_of_ble_eq_true rfl) fun q4 H4 hq4 s4 eq4 => ?_
        exact hq _ _ _ s4 hq4 eq4 .nil
end
end Kx

/- part K9 -/
/-! # K9: steps_in, went -/
namespace Kx
open PySem PySem.Spec PyProof.Rows L2
theorem byMove_len {p : Prg} (okp : PrgOk p) {lim : Option Int} {m : Int} {ss : List Site} {n : Str} {i : Nat} (hi : i < (p.mvs n).length) : (byMove p lim m ss (n, i)).length ≤ 50 := by
  have hmv := idx_mv hi
  unfold byMove
  generalize p.mv (n, i) = mv at hmv
  cases mv with
  | go hh t ps =>
    obtain ⟨pts, hok2, _⟩ := mv_ok okp (s := (n, i)) hmv
    have h1 := pairs_len hok2.2.2 okp.tot.2
    have h2 := List.length_filter_le (fun q : Int × Int => decide (q.1 = m)) ps
    dsimp only
    rw [List.length_map]
    omega
  | call hh t nn ms c =>
    dsimp only
    split
    · exact Nat.le_of_ble_eq_true rfl
    · exact Nat.zero_le _
  | leave hh ms =>
    dsimp only
    split
    · exact Nat.le_of_ble_eq_true rfl
    · exact Nat.zero_le _
  | fail hh ms =>
    dsimp only
    split
    · exact Nat.le_of_ble_eq_true rfl
    · exact Nat.zero_le _
theorem mvs_len {p : Prg} (okp : PrgOk p) (n : Str) : (p.mvs n).length ≤ 16 := by
  unfold Prg.mvs
  split
  · rename_i x l h
    have hm : ∃ r ∈ p.procs, r.2.2 = l := by
      clear okp
      revert h
      induction p.procs with
      | nil =>
        intro h
        cases h
      | cons r rs ih =>
        intro h
        obtain ⟨a, b⟩ := r
        rw [List.lookup_cons] at h
        split at h
        · cases h
          exact ⟨_, List.mem_cons_self, rfl⟩
        · obtain ⟨r, hr, e⟩ := ih h
          exact ⟨r, List.mem_cons_of_mem _ hr, e⟩
    obtain ⟨r, hr, rfl⟩ := hm
    exact (okp.prs r hr).len
  · exact Nat.zero_le _
theorem idxs_len {p : Prg} (okp : PrgOk p) (n : Str) (q : Int) : (idxs p n q).length ≤ 16 := by
  unfold idxs
  have := List.length_filter_le (fun i => decide ((p.mv (n, i)).here = q)) (List.range (p.mvs n).length)
  rw [List.length_range] at this
  exact Nat.le_trans this (mvs_len okp n)
/-- what stands first in a move -/
theorem mv_here {H : Hp} {a : Addr} {m : Mv} (h : MvAt H a m) : ∃ xs, H a = some (.tup xs) ∧ atI xs 1 = some (.int m.here) := by
  cases h with
  | go h1 _ => exact ⟨_, h1, rfl⟩
  | call h1 _ => exact ⟨_, h1, rfl⟩
  | leave h1 _ => exact ⟨_, h1, rfl⟩
  | fail h1 _ => exact ⟨_, h1, rfl⟩
/-- the word at a move's head -/
def mvTag : Mv → Str
  | .go _ _ _ => "go"
  | .call _ _ _ _ _ => "call"
  | .leave _ _ => "leave"
  | .fail _ _ => "fail"
theorem mv_tag {H : Hp} {a : Addr} {m : Mv} (h : MvAt H a m) : ∃ xs, H a = some (.tup xs) ∧ atI xs 0 = some (.str (mvTag m)) := by
  cases h with
  | go h1 _ => exact ⟨_, h1, rfl⟩
  | call h1 _ => exact ⟨_, h1, rfl⟩
  | leave h1 _ => exact ⟨_, h1, rfl⟩
  | fail h1 _ => exact ⟨_, h1, rfl⟩
theorem tag_call (m : Mv) : decide (mvTag m = "call") = m.isCall := by
  cases m with
  | go a b c => exact (show decide (("go" : Str) = "call") = false by decide +kernel)
  | call a b c d e => exact (show decide (("call" : Str) = "call") = true by decide +kernel)
  | leave a b => exact (show decide (("leave" : Str) = "call") = false by decide +kernel)
  | fail a b => exact (show decide (("fail" : Str) = "call") = false by decide +kernel)
theorem opt_at {H : Hp} {v : V} {o : Sit × Site} (h : TD H v (eOpt o)) : ∃ b a1 a2, v = .ref b ∧ H b = some (.tup [.ref a1, .ref a2]) ∧ TD H (.ref a1) (eSit o.1) ∧ H a2 = some (.tup [.str o.2.1, .int (o.2.2 : Nat)]) := by
  obtain ⟨b, zs, rfl, hb, ts⟩ := TD.tuple h
  cases ts with
  | cons t1 ts =>
    cases ts with
    | cons t2 ts =>
      cases ts
      obtain ⟨a1, _, _, rfl, _⟩ := sit_at t1
      obtain ⟨a2, rfl, h2⟩ := site_at t2
      exact ⟨b, a1, a2, rfl, hb, t1, h2⟩
theorem z_aug {i : Nat} {te : TE} {k : Int} {f : Int → Int → Int} {D : Ends} {σ : L2.St} {H : Hp} (h : σ[i]? = some (some (.int k))) (q : te σ H fun y H1 => ipI f (.int k) y H1 fun z H2 => D.nx (σ.set i (some z)) H2) : tAug i te (ipI f) D σ H := ⟨_, h, q⟩
theorem p_ip {f : Int → Int → Int} {i j : Int} {H : Hp} {Q : VK} (q : Q (.int (f i j)) H) : ipI f (.int i) (.int j) H Q := ⟨i, j, rfl, rfl, q⟩
theorem z_bm {K : PySem.W.Frag} {T : String} {r : V → List V → Hp → VK → Prop} {to : TE} {t : TA} {σ : L2.St} {H : Hp} {Q : VK} (h : to σ H fun x H1 => tyV K T x H1 ∧ t σ H1 fun xs H2 => r x xs H2 Q) : tBM K T r to t σ H Q := h
theorem MvAt.tk {H H' : Hp} {a : Addr} {m : Mv} (s : TK H H') (h : MvAt H a m) : MvAt H' a m := by
  cases h with
  | go h1 h2 => exact .go (s _ _ h1) (TD.mono s _ _ h2)
  | call h1 h2 => exact .call (s _ _ h1) (s _ _ h2)
  | leave h1 h2 => exact .leave (s _ _ h1) (s _ _ h2)
  | fail h1 h2 => exact .fail (s _ _ h1) (s _ _ h2)
local macro_rules
  | `(tactic| row_cond hp) => `(tactic| first
    | assumption
    | exact upd_same
    | (refine Kx.Same.get (by assumption) ?_; row_cond hp)
    | (refine Kx.SB.get (by assumption) (by assumption) ?_ rfl; row_cond hp)
    | (refine Kx.SB.getL (by assumption) (by assumption) ?_; row_cond hp))
local macro_rules
  | `(tactic| row_cond zs) => `(tactic| first
    | ((with_reducible refine Kx.z_var (v := ?zval) ?zv ?zq); (case zv => rfl))
    | with_reducible refine Kx.z_c ?_
    | with_reducible refine Kx.z_cons ?_
    | with_reducible refine Kx.z_nil ?_
    | with_reducible refine Kx.z_op ?_
    | with_reducible refine Kx.z_cB ?_
    | with_reducible refine Kx.z_call ?_
    | with_reducible refine Kx.z_fld ?_
    | with_reducible refine Kx.z_tup ?_
    | with_reducible refine Kx.z_lst ?_
    | with_reducible refine Kx.z_test ?_
    | with_reducible refine Kx.z_tB ?_
    | with_reducible refine Kx.p_bl ?_
    | with_reducible refine Kx.z_iteT ?_
    | with_reducible refine Kx.z_iteF ?_
    | with_reducible refine Kx.z_seq ?_
    | with_reducible refine Kx.z_ret ?_
    | with_reducible refine Kx.z_set ?_
    | with_reducible refine Kx.z_drop ?_
    | with_reducible refine Kx.z_if ?_
    | with_reducible refine Kx.z_next ?_
    | with_reducible refine Kx.z_and ?_
    | with_reducible refine Kx.z_or ?_
    | with_reducible refine Kx.z_not ?_
    | with_reducible refine Kx.z_andV ?_
    | with_reducible refine Kx.z_orV ?_
    | with_reducible refine Kx.z_notV ?_
    | with_reducible refine Kx.z_ifE ?_
    | with_reducible refine Kx.z_chain ?_
    | with_reducible refine Kx.z_dget ?_
    | with_reducible refine Kx.z_un ?_
    | with_reducible refine Kx.z_asg ?_
    | with_reducible refine Kx.z_retN ?_
    | with_reducible refine Kx.z_iteNT ?_
    | with_reducible refine Kx.z_iteNF ?_
    | with_reducible refine Kx.p_add ?_
    | with_reducible refine Kx.p_sub ?_
    | with_reducible refine Kx.p_lt ?_
    | with_reducible refine Kx.p_le ?_
    | with_reducible refine Kx.p_gt ?_
    | with_reducible refine Kx.p_ge ?_
    | with_reducible refine Kx.p_neg ?_
    | with_reducible refine Kx.p_eqI ?_
    | with_reducible refine Kx.p_eqS ?_
    | with_reducible refine Kx.p_neI ?_
    | with_reducible refine Kx.p_eqNN ?_
    | with_reducible refine Kx.p_isN ?_
    | with_reducible refine Kx.p_isNi ?_
    | with_reducible refine Kx.p_isNr ?_
    | with_reducible refine Kx.p_notN ?_
    | with_reducible refine Kx.p_notNi ?_
    | with_reducible refine Kx.p_notNr ?_
    | with_reducible refine Kx.p_intI ?_
    | with_reducible refine Kx.p_intB ?_
    | with_reducible refine Kx.p_abs ?_
    | with_reducible refine Kx.p_mx2 ?_
    | with_reducible refine Kx.p_mn2 ?_
    | ((with_reducible refine Kx.p_ixT (xs := ?zxs) (v := ?zval) ?zh ?ze ?zq); (case zh => row_cond hp); (case ze => rfl))
    | ((with_reducible refine Kx.p_ixL (xs := ?zxs) (v := ?zval) ?zh ?ze ?zq); (case zh => row_cond hp); (case ze => rfl))
    | ((with_reducible refine Kx.p_lenT (xs := ?zxs) ?zh ?zq); (case zh => row_cond hp))
    | ((with_reducible refine Kx.p_lenL (xs := ?zxs) ?zh ?zq); (case zh => row_cond hp))
    | ((with_reducible refine Kx.p_xT (xs := ?zxs) (v := ?zval) ?zh ?ze ?zq); (case zh => row_cond hp); (case ze => rfl))
    | ((with_reducible refine Kx.p_xL (xs := ?zxs) (v := ?zval) ?zh ?ze ?zq); (case zh => row_cond hp); (case ze => rfl))
    | with_reducible refine Kx.p_qI ?_
    | with_reducible refine Kx.p_qS ?_
    | with_reducible refine Kx.p_qNI ?_
    | with_reducible refine Kx.p_ltI ?_
    | with_reducible refine Kx.q_int_int ?_
    | with_reducible refine Kx.q_int_bool ?_
    | with_reducible refine Kx.q_int_str ?_
    | with_reducible refine Kx.q_int_tuple ?_
    | with_reducible refine Kx.q_bool_int ?_
    | with_reducible refine Kx.q_bool_bool ?_
    | with_reducible refine Kx.q_bool_str ?_
    | with_reducible refine Kx.q_bool_tuple ?_
    | with_reducible refine Kx.q_str_int ?_
    | with_reducible refine Kx.q_str_bool ?_
    | with_reducible refine Kx.q_str_str ?_
    | with_reducible refine Kx.q_str_tuple ?_
    | with_reducible refine Kx.q_NoneType_int ?_
    | with_reducible refine Kx.q_NoneType_bool ?_
    | with_reducible refine Kx.q_NoneType_str ?_
    | with_reducible refine Kx.q_NoneType_tuple ?_
    | ((with_reducible refine Kx.q_tuple_int (xs := ?zxs) ?zh ?zq); (case zh => row_cond hp))
    | ((with_reducible refine Kx.q_tuple_bool (xs := ?zxs) ?zh ?zq); (case zh => row_cond hp))
    | ((with_reducible refine Kx.q_tuple_str (xs := ?zxs) ?zh ?zq); (case zh => row_cond hp))
    | ((with_reducible refine Kx.q_tuple_tuple (xs := ?zxs) ?zh ?zq); (case zh => row_cond hp))
    | ((with_reducible refine Kx.q_list_int (xs := ?zxs) ?zh ?zq); (case zh => row_cond hp))
    | ((with_reducible refine Kx.q_list_bool (xs := ?zxs) ?zh ?zq); (case zh => row_cond hp))
    | ((with_reducible refine Kx.q_list_str (xs := ?zxs) ?zh ?zq); (case zh => row_cond hp))
    | ((with_reducible refine Kx.q_list_tuple (xs := ?zxs) ?zh ?zq); (case zh => row_cond hp))
    | ((with_reducible refine Kx.q_dict_int (kvs := ?zxs) ?zh ?zq); (case zh => row_cond hp))
    | ((with_reducible refine Kx.q_dict_bool (kvs := ?zxs) ?zh ?zq); (case zh => row_cond hp))
    | ((with_reducible refine Kx.q_dict_str (kvs := ?zxs) ?zh ?zq); (case zh => row_cond hp))
    | ((with_reducible refine Kx.q_dict_tuple (kvs := ?zxs) ?zh ?zq); (case zh => row_cond hp))
    | with_reducible refine Kx.z_gn ?_
    | ((with_reducible refine Kx.z_gt2 (x := ?zx) (y := ?zy) ?zh ?zq); (case zh => row_cond hp))
    | ((with_reducible refine Kx.z_gt3 (x := ?zx) (y := ?zy) (z := ?zz) ?zh ?zq); (case zh => row_cond hp))
    | with_reducible refine Kx.z_lcT ?_
    | with_reducible refine Kx.z_lcL ?_
    | with_reducible refine Kx.z_lcS ?_
    | with_reducible refine Kx.z_lcR ?_
    | with_reducible refine Kx.z_lcZ ?_
    | with_reducible refine Kx.z_yes ?_
    | ((with_reducible refine Kx.z_wip ?zh ?zq); (case zh => rfl))
    | ((with_reducible refine Kx.z_LK ?zh ?zq); (case zh => rfl))
    | with_reducible refine Kx.z_lc2T ?_
    | with_reducible refine Kx.z_lc2L ?_
    | with_reducible refine Kx.z_inT ?_
    | with_reducible refine Kx.z_inL ?_
    | ((with_reducible refine Kx.z_LK2 ?zh ?zq); (case zh => rfl))
    | with_reducible refine Kx.z_sl ?_
    | with_reducible refine Kx.z_nop ?_
    | with_reducible refine Kx.z_part ?_
    | with_reducible refine Kx.z_exi ?_
    | with_reducible refine Kx.p_isNb ?_
    | with_reducible refine Kx.p_isNs ?_
    | with_reducible refine Kx.z_match ?_
    | ((with_reducible refine Kx.z_caseT (y := ?zy) (xs := ?zxs) ?zh ?zl ?zf ?zq); (case zh => row_cond hp); (case zl => rfl); (case zf => rfl))
    | ((with_reducible refine Kx.z_caseL (y := ?zy) (xs := ?zxs) ?zh ?zl ?zq); (case zh => row_cond hp); (case zl => (intro z; cases z)))
    | ((with_reducible refine Kx.z_caseF (y := ?zy) (xs := ?zxs) ?zh ?zf ?zq); (case zh => row_cond hp); (case zf => rfl))
    | with_reducible refine Kx.z_mnil ?_
    | with_reducible refine Kx.z_lcE ?_
    | with_reducible refine Kx.z_forT ?_
    | with_reducible refine Kx.z_forL ?_
    | with_reducible refine Kx.z_forR ?_
    | with_reducible refine Kx.z_forC ?_
    | ((with_reducible refine Kx.p_fP (dx := ?zd) (fs := ?zfs) (v := ?zv) (by assumption) ?zh ?zl ?zf ?zq); (case zh => row_cond hp); (case zl => assumption); (case zf => decide +kernel))
    | ((with_reducible refine Kx.p_fG (dx := ?zd) (fs := ?zfs) (v := ?zv) (by assumption) ?zh ?zl ?zf ?zq); (case zh => row_cond hp); (case zl => assumption); (case zf => decide +kernel))
    | ((with_reducible refine Kx.p_fR (dx := ?zd) (fs := ?zfs) (v := ?zv) (by assumption) ?zh ?zl ?zf ?zq); (case zh => row_cond hp); (case zl => assumption); (case zf => decide +kernel))
    | ((with_reducible refine Kx.p_dgetS (kvs := ?zk) (v := ?zv) ?zh ?ze ?zq); (case zh => row_cond hp); (case ze => assumption))
    | with_reducible refine Kx.z_star ?_
    | ((with_reducible refine Kx.p_star (xs := ?zxs) ?zh ?zq); (case zh => row_cond hp))
    | with_reducible refine Kx.z_bm ?_
    | with_reducible refine Kx.p_ip ?_
    | with_reducible refine Kx.z_lss ?_
    | with_reducible refine Kx.z_dcT ?_
    | with_reducible refine Kx.z_sf ?_
    | with_reducible refine Kx.z_dnew ?_
    | with_reducible refine Kx.z_mk ?_
    | with_reducible refine Kx.z_callS ?_
    | with_reducible refine Kx.z_gsub ?_
    | ((with_reducible refine Kx.p_setL (xs := ?zxs) (k := ?zk) ?zh ?ze ?zq); (case zh => row_cond hp); (case ze => rfl))
    | ((with_reducible refine Kx.p_modP ?zh ?zq); (case zh => first | assumption | decide +kernel))
    | ((with_reducible refine Kx.p_mulR ?zh ?zq); (case zh => first | assumption | decide +kernel))
    | ((with_reducible refine Kx.p_mulL ?zh ?zq); (case zh => first | assumption | decide +kernel))
    | ((with_reducible refine Kx.p_powS ?zh ?zq); (case zh => first | assumption | decide +kernel))
    | ((with_reducible refine Kx.p_powW ?zh ?zq); (case zh => first | assumption | decide +kernel))
    | ((with_reducible refine Kx.p_fdvS ?zh ?zq); (case zh => first | assumption | decide +kernel))
    | with_reducible refine Kx.z_par ?_
    | with_reducible refine Kx.p_par ?_
    | with_reducible refine Kx.z_par3 ?_
    | with_reducible refine Kx.p_par3 ?_
    | ((with_reducible refine Kx.z_gl3 (x := ?zx) (y := ?zy) (z := ?zz) ?zh ?zq); (case zh => row_cond hp))
    | ((with_reducible refine Kx.z_gtG2 (x := ?zx) (y := ?zy) ?zh ?zq); (case zh => row_cond hp))
    | with_reducible refine Kx.z_cm ?_
    | with_reducible refine Kx.p_cm ?_
    | with_reducible refine Kx.z_prs ?_
    | with_reducible refine Kx.z_prn ?_
    | dsimp only)
local macro_rules
  | `(tactic| row_cond zz) => `(tactic| repeat (row_cond zs))

section
variable {P : Program} {w : World} {K : PySem.W.Frag} {mg : Str → Option Value} {base : Heap}
/-! ### steps_in -/
def spSteps (K : PySem.W.Frag) : Sp := fun vs H Q _ => ∃ g p lim sit st, vs = [.ref g, vO lim, sit] ∧ PrgOk p ∧ GAt K H g p ∧ TD H sit (eSit st) ∧ SitOk p st ∧ st.sites.length ≤ 900 ∧
  ∀ H' D ys, Same H H' → H D = none → H' D = some (.lst ys) → TDs H' ys ((opts p lim st).map eOpt) → Q (.ref D) H'
theorem sc_steps_in : FnScope ["program", "limit", "situation", "spot", "moves", "sites", "at", "move", "site", "later"] ["program", "limit", "situation"] (defScope (top 48)) := ⟨rfl, rfl, rfl, by decide +kernel, rfl, by decide +kernel, by decide +kernel⟩
theorem c_steps_in (T : Txt K mg) : Cal P w K mg base 4 "steps_in" (spSteps K) := by
  refine cal_of T 19 rfl sc_steps_in (fun _ _ _ _ _ _ us hl => match us, hl with | [_, _, _], _ => rfl) (fun vs H Q E h => ?_) (fun f cdv A outer s H vs Q E hr h => ?_)
  · obtain ⟨g, p, lim, sit, st, rfl, _⟩ := h
    rfl
  · obtain ⟨g, p, lim, sit, st, rfl, okp, hg, tsit, oks, hl9, hq⟩ := h
    obtain ⟨sa, ss, sw, rfl, hsa, tss, tsw⟩ := sit_at tsit
    refine ⟨_, (pss_cons (ps_set (i := 3) sc_steps_in.nd rfl (.inr rfl) (k_ix (K := K) rfl (pv 2) pe_int (fun _ _ => rfl)))
      (pss_cons (ps_if (pt_val (pe_callB c_isB rfl (T.b "isinstance") boot_isinstance (pa_cons (pv 3) (pa_cons (pe_bltn rfl (T.b "str") boot_str (v := .ty "str") rfl) pa_nil)))) (pss_one (ps_ret (pe_lst pa_nil))) pss_nil)
      (pss_cons (ps_set (i := 4) sc_steps_in.nd rfl (.inl rfl) (k_fld (K := K) rfl (pe_dget (u1 hr) (k_fld (K := K) rfl (pv 0) rfl) (k_ix (K := K) rfl (pv 3) pe_int (fun _ _ => rfl)) (fun _ _ => rfl)) rfl))
      (pss_cons (ps_setLc (i := 5) rfl sc_steps_in.nd rfl rfl (sw_true rfl rfl rfl rfl) (k_enum (K := K) rfl rfl (T.b "enumerate") (pa_cons (pv 4) pa_nil)) (blkOk_by (own := [(("at" : Str), 6), (("move" : Str), 7)]) (by kernel_rfl)) (fun _ _ _ _ _ => (k_gt (K := K) (n := 2) rfl rfl (pgs_cons (pg_name (i := 6) sc_steps_in.nd rfl (.inl rfl) (.inr rfl)) (pgs_cons (pg_name (i := 7) sc_steps_in.nd rfl (.inl rfl) (.inr rfl)) pgs_nil)))) (fun _ _ _ _ _ => (pts_one (pt_cmpR (k_eqA (K := K) rfl hr.units) (k_ix (K := K) rfl (pv 7) pe_int (fun _ _ => rfl)) (k_ix (K := K) rfl (pv 3) pe_int (fun _ _ => rfl)) (nomark _)))) (fun _ _ _ _ _ => (pe_tup (pa_cons (k_ix (K := K) rfl (pv 3) pe_int (fun _ _ => rfl)) (pa_cons (pv 6) pa_nil)))))
      (pss_one (ps_ret (pe_lc2 rfl sc_steps_in.nd (k_lst (K := K) rfl (pv 5)) (blkOk_by (own := [(("site" : Str), 8), (("later" : Str), 9)]) (by kernel_rfl)) (vs1 := [9]) (by decide) (fun _ _ _ _ _ => (pg_name (i := 8) sc_steps_in.nd rfl (.inl rfl) (.inr rfl))) (fun _ _ _ _ _ => pts_nil) (fun _ _ _ _ _ => (k_lst (K := K) rfl (C8.pe_c (c_options_by T) hr (by decide) rfl (pa_cons (pv 0) (pa_cons (pv 1) (pa_cons (pv 2) (pa_cons (pv 8) pa_nil))))))) (fun _ _ _ _ _ => (pg_name (i := 9) sc_steps_in.nd rfl (.inl rfl) (.inr rfl))) (fun _ _ _ _ _ => pts_nil) (fun _ _ _ _ _ => (pe_tup (pa_cons (pv 9) (pa_cons (pv 8) pa_nil))))))))))), ?_⟩
    unfold opts at hq
    cases hsp : st.spot with
    | left =>
      rw [hsp] at tsw hq
      cases tsw
      row_cond zz
      refine p_lst (Nat.le_of_ble_eq_true rfl) fun q1 H1 hq1 s1 eq1 => ?_
      exact hq _ _ _ s1 hq1 eq1 .nil
    | failed =>
      rw [hsp] at tsw hq
      cases tsw
      row_cond zz
      refine p_lst (Nat.le_of_ble_eq_true rfl) fun q1 H1 hq1 s1 eq1 => ?_
      exact hq _ _ _ s1 hq1 eq1 .nil
    | pt n q =>
      rw [hsp] at tsw hq
      dsimp only at hq
      obtain ⟨sp, rfl, hspt⟩ := spot_at tsw
      have hn := oks.spot n q hsp
      obtain ⟨dx, fs, tb, kvs, a, da, fa, v, xs, h1, h2, h3, h4, h5, h6, h7, ts⟩ := hg.moves hn
      have hxl : xs.length = (p.mvs n).length := by rw [ts.length, List.length_map]
      have hml := mvs_len okp n
      row_cond zz
      refine p_lcE Same (fun i acc H => TDs H acc (((List.range i).filter fun i => decide ((p.mv (n, i)).here = q)).map fun i => eSite (n, i))) (fun i acc H H' nk h => h.nk nk) okS relS h7 (by omega) .nil (fun i x T1 acc H1 H2 hx hi s1 tacc s2 eT => ?_) (fun D H1 ys hD s1 e1 tacc => ?_)
      · intro D Nx put skip
        obtain ⟨c, hc, hm⟩ := mvs_at ts (idx_mv (by omega : i < (p.mvs n).length))
        rw [hx] at hc
        cases hc
        obtain ⟨zs, hz, hat⟩ := mv_here hm
        have hz2 := Kx.Same.get (s1.trans s2) hz
        have hsp2 := Kx.Same.get (s1.trans s2) hspt
        row_cond zz
        refine p_xT hz2 hat ?_
        row_cond zz
        by_cases hq2 : (p.mv (n, i)).here = q
        · refine z_iteD hq2 ?_
          row_cond zz
          refine p_tup (Nat.le_of_ble_eq_true rfl) fun q3 H3 hq3 s3 eq3 => ?_
          refine put _ _ (s2.trans s3) ?_
          show TDs _ _ _
          rw [List.range_succ, List.filter_append, List.map_append, show ([i].filter fun i => decide ((p.mv (n, i)).here = q)) = [i] by rw [List.filter_cons_of_pos (by exact decide_eq_true hq2)]; rfl]
          exact (TDs.sm (s2.trans s3) tacc).append (.cons (td_site eq3) .nil)
        · refine z_iteDF hq2 ?_
          refine skip _ s2 ?_
          show TDs _ _ _
          rw [List.range_succ, List.filter_append, show ([i].filter fun i => decide ((p.mv (n, i)).here = q)) = [] by rw [List.filter_cons_of_neg (by simpa using hq2)]; rfl, List.append_nil]
          exact TDs.sm s2 tacc
      · have tacc : TDs H1 ys ((idxs p n q).map fun i => eSite (n, i)) := by
          have tacc : TDs _ _ _ := tacc
          rw [hxl] at tacc
          exact tacc
        have hyl : ys.length = (idxs p n q).length := by rw [tacc.length, List.length_map]
        have hil := idxs_len okp n q
        row_cond zz
        refine p_lc2L Same (fun i acc H => TDs H acc ((((idxs p n q).take i).flatMap fun i => (byMove p lim st.mode st.sites (n, i)).map fun l => (l, n, i)).map eOpt) ∧ acc.length ≤ 50 * i) (fun i acc H H' nk h => ⟨h.1.nk nk, h.2⟩) okS e1 (fun H' s => Kx.Same.get s e1) ⟨.nil, Nat.zero_le _⟩ (fun D2 i x acc H2 hD2 hx hi s2 e2 R2 Nx nx => ?_) (fun D2 H2 zs hD2 s2 e2 R2 => ?_)
        · obtain ⟨d, hd, td⟩ := tacc.get hx
          rw [List.getElem?_map] at hd
          obtain ⟨j, hj, rfl⟩ := Option.map_eq_some_iff.mp hd
          obtain ⟨b, rfl, hb⟩ := site_at (td.sm s2)
          have hjl := (idxs_mem (List.mem_of_getElem? hj)).1
          have htk : (idxs p n q).take (i + 1) = (idxs p n q).take i ++ [j] := by
            rw [List.take_succ, hj]
            rfl
          have hbl := byMove_len okp (lim := lim) (m := st.mode) (ss := st.sites) hjl
          row_cond zz
          refine ⟨g, p, lim, _, st, b, n, j, rfl, okp, hg.sm (s1.trans s2), TD.sm (s1.trans s2) tsit, oks, hl9, ⟨q, hsp⟩, hb, hn, hjl, fun H3 D3 ws s3 hD3 e3 tws => ?_⟩
          have hwl : ws.length = (byMove p lim st.mode st.sites (n, j)).length := by rw [tws.length, List.length_map]
          row_cond zz
          refine p_inL (R := fun k acc H => TDs H acc (((((idxs p n q).take i).flatMap fun i => (byMove p lim st.mode st.sites (n, i)).map fun l => (l, n, i)) ++ ((byMove p lim st.mode st.sites (n, j)).take k).map fun l => (l, n, j)).map eOpt) ∧ acc.length ≤ 50 * i + k ∧ k ≤ 50) (rl_same hD2) (s2.trans s3) (Kx.Same.get s3 e2) (fun k acc H h => ?_) e3 (fun z => ?_) (fun k acc H H' nk h => ⟨h.1.nk nk, h.2⟩) (fun H1 H' _ r e => Kx.Same.get r e) ⟨?_, ?_, Nat.zero_le _⟩ (fun k x acc2 H4 hx hk s4 nk R4 => ?_) (fun H4 i4 => nx H4 ⟨i4.rel, ?_⟩)
          · have := h.2
            omega
          · subst z
            rw [e2] at hD3
            cases hD3
          · rw [List.take_zero, List.map_nil, List.append_nil]
            exact R2.1.sm s3
          · exact R2.2
          · intro Nx1 put skip
            obtain ⟨d, hd, td⟩ := tws.get hx
            rw [List.getElem?_map] at hd
            obtain ⟨l, hl, rfl⟩ := Option.map_eq_some_iff.mp hd
            row_cond zz
            refine p_tup (Nat.le_of_ble_eq_true rfl) fun q5 H5 hq5 s5 eq5 => ?_
            refine put _ _ s5 ⟨?_, ?_, by omega⟩
            · rw [show ((byMove p lim st.mode st.sites (n, j)).take (k + 1)).map (fun l => (l, n, j)) = ((byMove p lim st.mode st.sites (n, j)).take k).map (fun l => (l, n, j)) ++ [(l, n, j)] by rw [List.take_succ, hl, List.map_append]; rfl, ← List.append_assoc, List.map_append]
              exact (TDs.sm s5 R4.1).append (.cons (.tup eq5 (.cons (TD.sm s5 (td.nk nk)) (.cons (td_site (Kx.Same.get s5 (nk _ _ rfl (Kx.Same.get s3 hb)))) .nil))) .nil)
            · rw [List.length_append]
              have := R4.2.1
              show _ + 1 ≤ _
              omega
          · obtain ⟨acc, e, h1, h2, h3⟩ := i4.at_
            refine ⟨acc, e, ?_, by omega⟩
            show TDs _ _ _
            rw [hwl, List.take_length] at h1
            rw [htk, List.flatMap_append]
            simp only [List.flatMap_cons, List.flatMap_nil, List.append_nil]
            exact h1
        · refine hq _ _ _ (s1.trans s2) (Same.free s1 hD2) e2 ?_
          have h := R2.1
          rw [hyl, List.take_length] at h
          exact h
/-! ### went -/
def spWent (K : PySem.W.Frag) : Sp := fun vs H Q _ => ∃ g p lim m ch cs, vs = [.ref g, vO lim, .int m, .ref ch] ∧ PrgOk p ∧ GAt K H g p ∧ H ch = some (.tup (cs.map V.int)) ∧ cs.length ≤ 800 ∧
  (wentF p lim m cs = none → ∀ H', Same H H' → Q .non H') ∧
  ∀ l k, wentF p lim m cs = some (l, k) → ∀ H' r si ys, Same H H' → H si = none → H' r = some (.tup [.ref si, .int (k : Nat)]) → H' si = some (.lst ys) → TDs H' ys (l.map eSit) → Q (.ref r) H'
theorem isBelow_len {c : Int} {n : Nat} (hn : n ≤ 100000) : isBelow (.int c) (n : Nat) = (decide (0 ≤ c) && decide (c < (n : Int))) := by
  show (decide (-(10 ^ 40) < c) && decide (c < 10 ^ 40) && (decide (0 ≤ c) && decide (c < (n : Int)))) = _
  by_cases h : 0 ≤ c ∧ c < (n : Int)
  · rw [decide_eq_true h.1, decide_eq_true h.2, decide_eq_true (by omega : -(10 ^ 40) < c), decide_eq_true (by omega : c < 10 ^ 40)]
    rfl
  · have : (decide (0 ≤ c) && decide (c < (n : Int))) = false := by
      rw [Bool.eq_false_iff]
      intro z
      rw [Bool.and_eq_true, decide_eq_true_eq, decide_eq_true_eq] at z
      exact h z
    rw [this, Bool.and_false]
theorem opts_len {p : Prg} (okp : PrgOk p) (lim : Option Int) (st : Sit) : (opts p lim st).length ≤ 800 := by
  unfold opts
  split
  · rename_i n q hsp
    have hil := idxs_len okp n q
    have key : ∀ l : List Nat, (∀ j ∈ l, j < (p.mvs n).length) → (l.flatMap fun i => (byMove p lim st.mode st.sites (n, i)).map fun l => (l, (n, i))).length ≤ 50 * l.length := by
      intro l
      induction l with
      | nil =>
        intro _
        exact Nat.zero_le _
      | cons j l ih =>
        intro h
        rw [List.flatMap_cons, List.length_append, List.length_map, List.length_cons]
        have h1 := byMove_len okp (lim := lim) (m := st.mode) (ss := st.sites) (h j List.mem_cons_self)
        have h2 := ih fun k hk => h k (List.mem_cons_of_mem _ hk)
        omega
    have := key (idxs p n q) fun j hj => (idxs_mem hj).1
    omega
  · exact Nat.zero_le _
theorem sc_went : FnScope ["program", "limit", "start", "choices", "situations", "refused", "index", "some", "later", "site"] ["program", "limit", "start", "choices"] (defScope (top 49)) := ⟨rfl, rfl, rfl, by decide +kernel, rfl, by decide +kernel, by decide +kernel⟩
theorem c_went (T : Txt K mg) : Cal P w K mg base 5 "went" (spWent K) := by
  refine cal_of T 20 rfl sc_went (fun _ _ _ _ _ _ us hl => match us, hl with | [_, _, _, _], _ => rfl) (fun vs H Q E h => ?_) (fun f cdv A outer s H vs Q E hr h => ?_)
  · obtain ⟨g, p, lim, m, ch, cs, rfl, _⟩ := h
    rfl
  · obtain ⟨g, p, lim, m, ch, cs, rfl, okp, hg, hch, hcl, qn, qs⟩ := h
    refine ⟨_, (pss_cons (ps_set (i := 4) sc_went.nd rfl (.inl rfl) (pe_lst (pa_cons (pe_tup (pa_cons (pv 2) (pa_cons (pe_tup pa_nil) (pa_cons (pe_tup (pa_cons (k_fld (K := K) rfl (pv 0) rfl) (pa_cons pe_int pa_nil))) pa_nil)))) pa_nil)))
      (pss_cons (ps_set (i := 5) sc_went.nd rfl (.inl rfl) pe_int)
      (pss_cons (ps_for PassesOwn.never rfl (k_tup (K := K) rfl (pv 3)) (pg_name (i := 6) sc_went.nd rfl (.inl rfl) (.inr rfl)) (pss_cons (ps_set (i := 7) sc_went.nd rfl (.inl rfl) (C8.pe_c (c_steps_in T) hr (by decide) rfl (pa_cons (pv 0) (pa_cons (pv 1) (pa_cons (k_ix (K := K) rfl (pv 4) (pe_un o_neg pe_int) (fun _ _ => rfl)) pa_nil)))))
      (pss_cons (ps_if (pt_not (pt_val (C8.pe_c (c_is_below T) hr (by decide) rfl (pa_cons (pv 6) (pa_cons (pe_callB (k_len (K := K) rfl) rfl (T.b "len") boot_len (pa_cons (pv 7) pa_nil)) pa_nil))))) (pss_one (ps_ret pe_non)) pss_nil)
      (pss_cons (ps_asg (k_ix (K := K) rfl (pv 7) (pv 6) (fun _ _ => rfl)) (k_gt (K := K) (n := 2) rfl rfl (pgs_cons (pg_name (i := 8) sc_went.nd rfl (.inl rfl) (.inr rfl)) (pgs_cons (pg_name (i := 9) sc_went.nd rfl (.inl rfl) (.inr rfl)) pgs_nil))))
      (pss_cons (ps_if (PW.pt (pw_and (pt_cmpR (k_eqA (K := K) rfl hr.units) (k_ix (K := K) rfl (C8.pe_c (c_move_at T) hr (by decide) rfl (pa_cons (pv 0) (pa_cons (pv 9) pa_nil))) pe_int (fun _ _ => rfl)) pe_str (nomark _)) (pw_and1 (pt_val (C8.pe_c (c_is_refused T) hr (by decide) rfl (pa_cons (pv 1) (pa_cons (k_ix (K := K) rfl (k_ix (K := K) rfl (pv 4) (pe_un o_neg pe_int) (fun _ _ => rfl)) pe_int (fun _ _ => rfl)) pa_nil))))))) (pss_one (ps_aug (i := 5) sc_went.nd rfl (.inl rfl) pe_int ip_add)) pss_nil)
      (pss_one (ps_expr (pe_bm PySem.F.plainAttrs_list PySem.F.slot_list_append PySem.F.type_list_append mt_append (pv 4) (pa_cons (pv 8) pa_nil)))))))))
      (pss_one (ps_ret (pe_tup (pa_cons (pv 4) (pa_cons (pv 5) pa_nil)))))))), ?_⟩
    obtain ⟨dx, fs, tb, kvs, h1, h2, h3, h4, _, _⟩ := id hg
    row_cond zz
    refine p_tup (Nat.le_of_ble_eq_true rfl) fun q1 H1 hq1 s1 eq1 => ?_
    row_cond zz
    refine p_tup (Nat.le_of_ble_eq_true rfl) fun q2 H2 hq2 s2 eq2 => ?_
    row_cond zz
    refine p_tup (Nat.le_of_ble_eq_true rfl) fun q3 H3 hq3 s3 eq3 => ?_
    row_cond zz
    refine p_lst (Nat.le_of_ble_eq_true rfl) fun si H4 hsi s4 esi => ?_
    have s04 := s1.trans (s2.trans (s3.trans s4))
    have hsi0 : H si = none := Same.free (s1.trans (s2.trans s3)) hsi
    row_cond zz
    refine p_forT (fun i σ H' => ∃ l k ys v6 v7 v8 v9, σ = [some (.ref g), some (vO lim), some (.int m), some (.ref ch), some (.ref si), some (.int (k : Nat)), v6, v7, v8, v9] ∧ wentF p lim m (cs.take i) = some (l, k) ∧ Same H H' ∧ H' si = some (.lst ys) ∧ TDs H' ys (l.map eSit)) (Kx.Same.get s04 hch)
      ⟨[st0 p m], 0, [.ref q3], none, none, none, none, rfl, rfl, s04, esi, .cons (td_sit (st := st0 p m) (Kx.Same.get s4 eq3) (.tup (Kx.Same.get (s2.trans (s3.trans s4)) eq1) .nil) (td_spot (Kx.Same.get (s3.trans s4) eq2))) .nil⟩ (fun i σ H' hp => ?_) (fun i x σ H5 hx hi hp => ?_) (fun σ H5 hp => ?_)
    · obtain ⟨l, k, ys, v6, v7, v8, v9, _, _, s5, _, _⟩ := hp
      exact Kx.Same.get s5 hch
    · obtain ⟨l, k, ys, v6, v7, v8, v9, rfl, hw, s5, e5, t5⟩ := hp
      obtain ⟨c, hc, rfl⟩ : ∃ c, cs[i]? = some c ∧ x = .int c := by
        rw [List.getElem?_map] at hx
        obtain ⟨c, hc, rfl⟩ := Option.map_eq_some_iff.mp hx
        exact ⟨c, hc, rfl⟩
      have hi : i < cs.length := (List.getElem?_eq_some_iff.mp hc).1
      have htk : cs.take (i + 1) = cs.take i ++ [c] := by
        rw [List.take_succ, hc]
        rfl
      have hll := went_length _ l k hw
      rw [List.length_take, Nat.min_eq_left (Nat.le_of_lt hi)] at hll
      have hyl : ys.length = l.length := by rw [t5.length, List.length_map]
      obtain ⟨st, hst⟩ : ∃ st, l[l.length - 1]? = some st := ⟨_, List.getElem?_eq_getElem (by omega)⟩
      have hlast : l.getLastD (st0 p m) = st := by
        rw [List.getLastD_eq_getLast?, List.getLast?_eq_getElem?, hst]
        rfl
      have hmem : st ∈ l := List.mem_of_getElem? hst
      have oks := went_ok okp _ l k hw st hmem
      have hsl := went_len2 _ l k hw st hmem
      rw [List.length_take] at hsl
      obtain ⟨v, hv, tv⟩ := t5.get' (i := l.length - 1) (d := eSit st) (by rw [List.getElem?_map, hst]; rfl)
      have hat : atI ys (-1) = some v := atI_lastN (by rw [hyl]; exact hv) (by omega)
      row_cond zz
      refine p_xL e5 hat ?_
      row_cond zz
      refine ⟨g, p, lim, v, st, rfl, okp, hg.sm s5, tv, oks, by omega, fun H6 D zs s6 hD e6 t6 => ?_⟩
      have hzl : zs.length = (opts p lim st).length := by rw [t6.length, List.length_map]
      have hol := opts_len okp lim st
      row_cond zz
      refine ⟨_, _, "int", rfl, .int c, ?_⟩
      rw [isBelow_len (by omega)]
      row_cond zz
      refine z_ite2' (decide (0 ≤ c) && decide (c < (zs.length : Int))) (fun hb => ?_) fun hb => ?_
      · rw [hb]
        rw [Bool.and_eq_true, decide_eq_true_eq, decide_eq_true_eq] at hb
        obtain ⟨o, ho⟩ : ∃ o, (opts p lim st)[c.toNat]? = some o := ⟨_, List.getElem?_eq_getElem (by omega)⟩
        obtain ⟨u, hu, tu⟩ := t6.get' (i := c.toNat) (d := eOpt o) (by rw [List.getElem?_map, ho]; rfl)
        have hatu : atI zs c = some u := by
          have h := atI_nat hu
          rw [show ((c.toNat : Nat) : Int) = c by omega] at h
          exact h
        obtain ⟨b, a1, a2, rfl, hb2, ta1, ha2⟩ := opt_at tu
        obtain ⟨oks2, hn, hil⟩ := opts_ok okp oks o (List.mem_of_getElem? ho)
        have hmv := idx_mv (n := o.2.1) hil
        have hg6 : GAt K H6 g p := hg.sm (s5.trans s6)
        have hw1 : ∀ k1, refu p lim st.sites o.2 = k1 → wentF p lim m (cs.take (i + 1)) = some (l ++ [o.1], k + k1) := fun k1 hk1 => by
          rw [htk]
          refine went_go hw ?_
          rw [hlast]
          unfold stepN
          rw [if_pos hb.1, ho]
          show some (o.1, refu p lim st.sites o.2) = _
          rw [hk1]
        have fin : ∀ k1 : Nat, refu p lim st.sites o.2 = k1 → ∃ l' k' ys' v6 v7 v8 v9, [some (V.ref g), some (vO lim), some (.int m), some (.ref ch), some (.ref si), some (.int ((k + k1 : Nat) : Int)), some (.int c), some (.ref D), some (.ref a1), some (.ref a2)] = [some (.ref g), some (vO lim), some (.int m), some (.ref ch), some (.ref si), some (.int (k' : Nat)), v6, v7, v8, v9] ∧ wentF p lim m (cs.take (i + 1)) = some (l', k') ∧ Same H (upd H6 si (.lst (ys ++ [.ref a1]))) ∧ upd H6 si (.lst (ys ++ [.ref a1])) si = some (.lst ys') ∧ TDs (upd H6 si (.lst (ys ++ [.ref a1]))) ys' (l'.map eSit) := fun k1 hk1 => by
          refine ⟨l ++ [o.1], k + k1, _, _, _, _, _, rfl, hw1 k1 hk1, fun b u e => ?_, upd_same, ?_⟩
          · rw [upd_ne (ne_of_none e hsi0)]
            exact (s5.trans s6) _ _ e
          · rw [List.map_append]
            exact TDs.nk (nk_upd (Kx.Same.get s6 e5)) ((t5.sm s6).append (.cons ta1 .nil))
        row_cond zz
        refine p_xL e6 hatu ?_
        row_cond zz
        refine ⟨g, p, a2, _, _, _, rfl, hg6, ha2, hn, hmv, fun a3 hm3 => ?_⟩
        obtain ⟨xs3, hx3, hat3⟩ := mv_tag hm3
        row_cond zz
        refine p_xT hx3 hat3 (p_qS ?_)
        rw [tag_call]
        row_cond zz
        have hsit := sit_at (tv.sm s6)
        obtain ⟨sa, ss, sw, rfl, hsa, tss, tsw⟩ := hsit
        obtain ⟨sxs, hss, tsx⟩ := TD.tupR tss
        have hsxl : sxs.length = st.sites.length := by rw [tsx.length, List.length_map]
        have tyl : tyV K "list" (.ref si) H6 := .inl ⟨rfl, _, .inl (.inl (Kx.Same.get s6 e5))⟩
        refine z_ite2' (p.mv o.2).isCall (fun hcall => ?_) fun hcall => ?_
        · rw [hcall]
          row_cond zz
          refine p_xL (Kx.Same.get s6 e5) hat ?_
          row_cond zz
          refine ⟨lim, ss, sxs, rfl, hss, ?_⟩
          rw [hsxl, ← over_eq]
          refine z_ite2' (over lim st.sites) (fun hov => ?_) fun hov => ?_
          · rw [hov]
            row_cond zz
            refine z_aug rfl ?_
            row_cond zz
            refine ⟨tyl, ?_⟩
            row_cond zz
            refine p_append (Kx.Same.get s6 e5) (by omega) ?_
            exact fin 1 (by unfold refu; rw [if_pos ⟨hcall, hov⟩])
          · rw [hov]
            row_cond zz
            refine ⟨tyl, ?_⟩
            row_cond zz
            refine p_append (Kx.Same.get s6 e5) (by omega) ?_
            exact fin 0 (by unfold refu; rw [if_neg (by rw [hov]; simp)])
        · rw [hcall]
          row_cond zz
          refine ⟨tyl, ?_⟩
          row_cond zz
          refine p_append (Kx.Same.get s6 e5) (by omega) ?_
          exact fin 0 (by unfold refu; rw [if_neg (by rw [hcall]; simp)])
      · rw [hb]
        row_cond zz
        refine qn ?_ _ (s5.trans s6)
        have hstop : stepN p lim st c = none := by
          unfold stepN
          by_cases h0 : 0 ≤ c
          · rw [if_pos h0, List.getElem?_eq_none]
            · rfl
            · rw [decide_eq_true h0, Bool.true_and, decide_eq_false_iff_not] at hb
              omega
          · rw [if_neg h0]
        have h1 := went_stop hw (c := c) (by rw [hlast]; exact hstop)
        rw [← htk] at h1
        have h2 := went_none (ds := cs.drop (i + 1)) h1
        rw [List.take_append_drop] at h2
        exact h2
    · obtain ⟨l, k, ys, v6, v7, v8, v9, rfl, hw, s5, e5, t5⟩ := hp
      rw [List.length_map, List.take_length] at hw
      row_cond zz
      refine p_tup (Nat.le_of_ble_eq_true rfl) fun q5 H6 hq5 s6 eq5 => ?_
      exact qs l k hw _ _ _ _ (s5.trans s6) hsi0 eq5 (Kx.Same.get s6 e5) (t5.sm s6)
end
end Kx

/- part KS -/
/-! # KS: len(set(a list of texts)) -/
namespace Kx
open PySem PySem.Spec PyProof.Rows
section
variable {prog : Program} {w : World} {A : Around} {R : Result → Shared → Prop} {I : Addr} {fp wr : List Addr} {G : Array GenState → Array GenState → Prop} {n : Nat} {P : Nat → Value → Prop} {St : Nat → Shared → Prop}
theorem loopStrN (W : WalksS prog w A.in1 I fp wr G n P St) (S : Addr) (hSf : S ∉ fp) (xs : List Str) (hsz : xs.length = n) (hnd : xs.Nodup) (hn1 : n ≤ 1000)
    (hval : ∀ i v, P i v → ∃ t, v = .str (xs.getD i Str.empty) t) :
    ∀ (k i : Nat) (s : Shared), n - i = k → i ≤ n → St i s →
      s.heap.SetOf (PySem.strKind prog w) S (fun k' => (xs.take i).any (· == k')) i →
      (∀ s', Moved (S :: wr) G s s' → s'.heap.SetOf (PySem.strKind prog w) S (fun k' => (xs.take n).any (· == k')) n → R (.ok (.ret .none)) s') →
      codeAny (model prog w) A (.builtin "set.update.loop" ⟨[.ref S, .ref I], []⟩) R s := by
  have hSw : S ∉ wr := fun h => hSf (W.sub _ h)
  have hsub : ∀ b ∈ wr, b ∈ S :: wr := fun b hb => List.mem_cons_of_mem _ hb
  intro k
  induction k with
  | zero =>
    intro i s hk hi hst hS hR
    have hin : i = n := by omega
    subst hin
    refine codeAny_builtin PyProof.Rows.F.entry_set_update_loop ?_
    rw [Around.under_plainId PyProof.Rows.F.plain_set_update_loop _]
    show wpAny _ A.in1 (pyNext (.ref I) >>= _) _ _ s
    refine wpAny_bind (W.done s _ _ hst fun s' hm => ?_)
    show wpAny _ A.in1 (ret Value.none) _ _ s'
    exact wpAny_pure (hR s' (hm.mono hsub) (by
      obtain ⟨o, es, ep, t, ho, rest⟩ := hS
      exact ⟨o, es, ep, t, hm.heap S _ hSw ho, rest⟩))
  | succ k ih =>
    intro i s hk hi hst hS hR
    have hlt : i < n := by omega
    refine codeAny_builtin PyProof.Rows.F.entry_set_update_loop ?_
    rw [Around.under_plainId PyProof.Rows.F.plain_set_update_loop _]
    show wpAny _ A.in1 (pyNext (.ref I) >>= _) _ _ s
    refine wpAny_bind (W.item i s _ _ hlt hst fun v s' hP hst' hm => ?_)
    obtain ⟨t, rfl⟩ := hval i v hP
    have hS' : s'.heap.SetOf (PySem.strKind prog w) S (fun k' => (xs.take i).any (· == k')) i := by
      obtain ⟨o, es, ep, tb, ho, rest⟩ := hS
      exact ⟨o, es, ep, tb, hm.heap S _ hSw ho, rest⟩
    show wpAny _ A.in1 (holding [Value.str (xs.getD i Str.empty) t] (setAdd S (.str (xs.getD i Str.empty) t)) >>= _) _ _ s'
    refine wpAny_bind (wpAny_holding ?_)
    unfold setAdd
    refine wpAny_holding ?_
    refine wpAny_bind ((PySem.strKind prog w).pyHash (k := xs.getD i Str.empty) (strKind_is _ _ _ _) ?_)
    refine wpAny_setAddHashed_of (knd := PySem.strKind prog w) (s := { s' with toks := s'.toks + 1 }) (strKind_is _ _ _ _) rfl hS' (by unfold scanBound; omega) fun h' hsb hS2 => ?_
    have hlt2 : i < xs.length := by omega
    have hgx : xs.getD i Str.empty = xs[i] := by
      rw [List.getD_eq_getElem?_getD, List.getElem?_eq_getElem hlt2]
      rfl
    have htk : xs.take (i + 1) = xs.take i ++ [xs[i]] := by
      rw [List.take_succ, List.getElem?_eq_getElem hlt2]
      rfl
    have hno : (xs.take i).any (· == xs[i]) = false := by
      rw [Bool.eq_false_iff]
      intro z
      obtain ⟨y, hy, ey⟩ := List.any_eq_true.mp z
      have ey : y = xs[i] := eq_of_beq ey
      rw [ey] at hy
      obtain ⟨j, hj⟩ := List.mem_iff_getElem?.mp hy
      rw [List.getElem?_take] at hj
      by_cases hji : j < i
      · rw [if_pos hji] at hj
        obtain ⟨hjl, ej⟩ := List.getElem?_eq_some_iff.mp hj
        exact absurd ej (List.pairwise_iff_getElem.mp hnd j i hjl hlt2 hji)
      · rw [if_neg hji] at hj
        cases hj
    have hSi : h'.SetOf (PySem.strKind prog w) S (fun k' => (xs.take (i + 1)).any (· == k')) (i + 1) := by
      refine PyProof.Rows.SetOf_congr hS2 (fun k' => ?_) ?_
      · rw [htk, List.any_append, hgx]
        show ((xs.take i).any (· == k') || decide (k' = xs[i])) = ((xs.take i).any (· == k') || (xs[i] == k' || false))
        congr 1
        rw [Bool.or_false, Bool.eq_iff_iff]
        simp
        exact eq_comm
      · rw [hgx, hno]
        rfl
    refine wpAny_pure ⟨plainId_quiet PyProof.Rows.F.plain_set_update_loop _, ih (i + 1) _ (by omega) hlt (W.frame _ s' _ _ hst' (Nat.le_succ _) fun b hb o e => ?_) hSi fun s'' hm'' hS'' => ?_⟩
    · rw [hsb.2 b (fun h : b = S => hSf (by rw [← h]; exact hb))]; exact e
    · refine hR s'' (Moved.trans W.gtrans ((hm.mono hsub).then_heap (Nat.le_succ _) fun b o hb e => ?_) hm'') hS''
      rw [hsb.2 b (fun h : b = S => hb (by rw [h]; exact List.mem_cons_self))]; exact e
end

section
variable {prog : Program} {w : World} {A : Around} {E : Value → Shared → Prop} {s : Shared}
set_option maxHeartbeats 3200000 in
theorem call_set_strs {l : Addr} {items : Array Value} {xs : List Str} {Q : Value → Shared → Prop}
    (hh : A.handled = none) (hl : s.heap.IsList l items) (hi : PyProof.Rows.StrsAre items.toList xs) (hnd : xs.Nodup) (hn1 : xs.length ≤ 1000)
    (h : ∀ (h' : Heap) (tk : Nat), h'.SetOf (PySem.strKind prog w) s.heap.objs.size (fun k' => (xs.take items.size).any (· == k')) items.size →
      (∀ b o, b < s.heap.objs.size → s.heap.get? b = some o → h'.get? b = some o) → Q (.ref s.heap.objs.size) { s with heap := h', toks := tk }) :
    wpAny (model prog w) A (call (.type "set") [.ref l]) Q E s := by
  obtain ⟨c, tl, hmro⟩ := PySem.F.called_set.mro
  have hmade := PySem.F.called_set.made
  have hsub := PySem.F.called_set.sub
  refine wpAny_call (codeAny_of_tree ?_)
  show wpAny _ _ (callAny (.type "set") _) _ _ _
  refine wpAny_pure ⟨Code.quiet_builtin _ (by decide +kernel), codeAny_builtin PySem.F.entry_type_call ?_⟩
  rw [Around.under_plain (weight_type_call_type "set" [.ref l] []) rfl]
  have h1 := PySem.F.called_set.notType
  have h2 := PySem.F.called_set.canCreate
  have hct := PySem.F.typeCall_set_1 (.ref l)
  repeat (any_goals (first | assumption | wp_step))

  refine codeAny_mono (code_set_new_1 (.ref l) (E := E) (Q₁ := fun obj s₁ => ∃ led : Bool, obj = .ref s.heap.objs.size ∧ s₁ = { s with heap := s.heap.push { cls := .type "set", dict := none, data := .set #[] 0 (.fresh 0 0 led) } }) fun led => ⟨led, rfl, rfl⟩) fun r s₁ hr => ?_
  cases r with
  | error e => exact hr
  | ok fl =>
    cases fl with
    | ret obj =>
      obtain ⟨led, rfl, rfl⟩ := hr
      have hS : (s.heap.push { cls := .type "set", dict := none, data := .set #[] 0 (.fresh 0 0 led) }).get? s.heap.objs.size = some { cls := .type "set", dict := none, data := .set #[] 0 (.fresh 0 0 led) } := Heap.get?_push_size _ rfl
      have hT : Shared.TypeIs { s with heap := s.heap.push { cls := .type "set", dict := none, data := .set #[] 0 (.fresh 0 0 led) } } (.ref s.heap.objs.size) "set" := ⟨_, hS, rfl⟩
      have hli := PySem.F.called_set.init.lookup
      have hbi := PySem.F.called_set.init.bind (.ref s.heap.objs.size)
      repeat (any_goals (first | assumption | wp_step))

      refine codeAny_mono (codeAny_call_builtin (R := wants (fun r s₂ => r = .none ∧ ∃ h' tk, s₂ = { s with heap := h', toks := tk } ∧
          h'.SetOf (PySem.strKind prog w) s.heap.objs.size (fun k' => (xs.take items.size).any (· == k')) items.size ∧
          (∀ b o, b < s.heap.objs.size → s.heap.get? b = some o → h'.get? b = some o)) E) PySem.F.called_set.init.plain PySem.F.entry_set_init (check_set_init_1 hT ?_)) fun r₂ s₂ hr₂ => ?_
      · obtain ⟨ol, hol, hcl, nl, hdl⟩ := hl
        obtain ⟨ocls, odict, odata, oslots⟩ := ol
        simp only at hcl hdl
        subst hcl; subst hdl
        have hol' : (s.heap.push { cls := .type "set", dict := none, data := .set #[] 0 (.fresh 0 0 led) }).get? l = some { cls := .type "list", dict := odict, data := .seq items nl, slots := oslots } := Heap.get?_push_of_some _ hol
        have hsls := PySem.F.sub_list_set
        have hslf := PySem.F.sub_list_frozenset
        have hne : (Value.type "list" == Value.type "dict") = false := by decide
        have hl1 : (s.heap.push { cls := .type "set", dict := none, data := .set #[] 0 (.fresh 0 0 led) }).IsList l items := ⟨_, hol', rfl, nl, rfl⟩
        unfold Builtin.«set.__init__» noKeywords Builtin.Frozenset.updateFrom
        generalize hPI : pyIter = PI
        wp_walk
        subst hPI

        refine wpAny_pyIter_list hl1 ?_
        refine wpAny_bind (wpAny_runValue ?_)
        have hlS : l < s.heap.objs.size := Heap.lt_size hol
        have hh3 : A.in1.in1.in1.handled = none := by simp [hh]
        have hneI : l ≠ (s.heap.push { cls := .type "set", dict := none, data := .set #[] 0 (.fresh 0 0 led) }).objs.size := by
          rw [Heap.size_push]; exact Nat.ne_of_lt (Nat.lt_succ_of_lt hlS)
        have hSf : s.heap.objs.size ∉ [(s.heap.push { cls := .type "set", dict := none, data := .set #[] 0 (.fresh 0 0 led) }).objs.size, l] := by
          rw [Heap.size_push]; simp only [List.mem_cons, List.mem_singleton, List.not_mem_nil, or_false, not_or]
          exact ⟨Nat.ne_of_lt (Nat.lt_succ_self _), Nat.ne_of_gt hlS⟩
        have hsz : xs.length = items.size := by rw [← StrsAre.len_eq hi, Array.length_toList]
        have hval : ∀ (i : Nat) (v : Value), items[i]? = some v → ∃ t, v = .str (xs.getD i Str.empty) t := fun i v hv => SS.strs_at hi i v (by rw [Array.getElem?_toList]; exact hv)
        refine loopStrN ((Walks.list hh3 _ l hneI items).toS) s.heap.objs.size
          hSf xs hsz hnd (by rw [← hsz]; exact hn1) hval (items.size - 0) 0 _ (by omega) (Nat.zero_le _)
          ⟨⟨_, Heap.get?_push_size _ rfl, rfl, rfl⟩, (hl1.push _)⟩ ?hS0 ?hR
        case hS0 =>
          have hget : ((s.heap.push { cls := .type "set", dict := none, data := .set #[] 0 (.fresh 0 0 led) }).push { cls := .type "list_iterator", data := .fields #[.ref l, .int 0 0] }).get? s.heap.objs.size
              = some { cls := .type "set", dict := none, data := .set #[] 0 (.fresh 0 0 led) } := Heap.get?_push_of_some _ hS
          exact PyProof.Rows.SetOf_congr ((PyProof.Rows.setObjOf_fresh (knd := PySem.strKind prog w) led).setOf hget (by unfold scanBound; omega)) (fun _ => rfl) rfl
        case hR =>
          intro s' hm hS'
          obtain ⟨h', g', d', tk', os'⟩ := s'
          have eg : g' = s.gens := hm.gens
          have ed : d' = s.drawn := hm.drawn
          have eo : os' = s.os := hm.os
          subst eg; subst ed; subst eo
          show wpAny _ _ _ _ _ _
          refine wpAny_pure ?_
          show wpAny _ _ (ret Value.none) _ _ _
          refine wpAny_pure ⟨rfl, h', tk', rfl, hS', fun b o hb e => ?_⟩
          have hb1 : b ≠ s.heap.objs.size := Nat.ne_of_lt hb
          have hb2 : b ≠ (s.heap.push { cls := .type "set", dict := none, data := .set #[] 0 (.fresh 0 0 led) }).objs.size := by
            rw [Heap.size_push]; exact Nat.ne_of_lt (Nat.lt_succ_of_lt hb)
          exact hm.heap b o (by simp only [List.mem_cons, List.mem_singleton, List.not_mem_nil, or_false, not_or]; exact ⟨hb1, hb2⟩) (Heap.get?_push_of_some _ (Heap.get?_push_of_some _ e))

      · cases r₂ with
        | error e => exact hr₂
        | ok fl₂ =>
          cases fl₂ with
          | ret r =>
            obtain ⟨rfl, h', tk, rfl, hS', hk'⟩ := hr₂
            repeat (any_goals (first | assumption | wp_step))
            exact h _ _ hS' hk'
          | _ => exact hr₂.elim
    | _ => exact hr.elim

end
end Kx
namespace Kx
open PySem PySem.Spec PyProof.Rows L2
def tLenSetS (K : PySem.W.Frag) (ta : TE) : TE := fun σ H Q => ta σ H fun x H1 => ∃ (l : Addr) (ns : List Str), x = .ref l ∧ H1 l = some (.lst (ns.map V.str)) ∧ ns.Nodup ∧ ns.length ≤ 900 ∧ Q (.int (ns.length : Nat)) H1
theorem pe_lenSetS {X : Cx} {a : Expr} {ta : TE} {p p2 q pos : Pos} (hg : Gl X "len") (hm : X.mg "len" = none) (hg2 : Gl X "set") (hm2 : X.mg "set" = none) (ha : PE X a ta) (hc : X.calm = true := by rfl)
    (na : starEach [a] X.env = (false, eval a X.env) :: starEach [] X.env := by rfl) : PE X (.Call (.Name "len" p) [.Call (.Name "set" p2) [a] [] q] [] pos) (tLenSetS X.K ta) := by
  refine ⟨fun pins s σ H Q I h => ?_⟩
  refine Call_ (ld_blt I hg hm boot_len ?_)
  refine PyProof.Rows.callWith_builtin1 (PyProof.Rows.args_cons ?_ rfl) rfl rfl
  refine Call_ (ld_blt I hg2 hm2 boot_set ?_)
  refine PyProof.Rows.callWith_type1 (PyProof.Rows.args_cons (thn (ha.run pins s σ H _ I h) fun v s1 ⟨x, H1, I1, r1, q1⟩ => PyProof.Rows.args_nil ?_) na) na rfl
  obtain ⟨l, ns, rfl, hq, hnd, hl, q1⟩ := q1
  cases r1
  obtain ⟨its, r, pl, hz⟩ := I1.list (.inl (.inl hq))
  have hlen : its.toArray.size = ns.length := by rw [List.size_toArray, ← r.length, List.length_map]
  refine call_set_strs (I1.ok.hd hc) pl.isList (by simpa using strsAre_of r) hnd (by omega) fun h' tk hS hk => ?_
  refine PyProof.Rows.args_nil ?_
  obtain ⟨o, es, ep, t, ho, hex, hd, _, _, _, hf, hn⟩ := hS
  have I2 : Inv X pins σ H1 { s1 with heap := h', toks := tk } := I1.kept fun b o e => hk b o (Heap.lt_size e) e
  exact call_len_set ho hex hd hf (by rw [hn] <;> omega) ⟨.int ns.length, H1, I2.tok _, ⟨_, by rw [hn, hlen]⟩, q1⟩
end Kx

/- part K10 -/
/-! # K10: procedures -/
namespace Kx
open PySem PySem.Spec PyProof.Rows L2
section
variable {X : Cx} {CX : CXT} {k i : Nat} {f C : Addr} {sp : Sp} {E : XK} {x : Str} {e : Expr} {es : List Expr} {te : TE} {t : TA} {p pos : Pos}
/-- cls(e, .., *y), cls a local name that holds a class -/
def tMakeV (i : Nat) (C : Addr) (sp : Sp) (E : XK) (t : TA) : TE := fun σ H Q => σ[i]? = some (some (.ref C)) ∧ StX.tMakeR C sp E t σ H Q
theorem pe_makeVS (M : Mk X.K C f) (F : FnR X.prog X.w X.K X.mg X.base CX k f sp) (hr : Room (k + 1) X.A) (hx : Passes CX X E) (hN : X.N[i]? = some x) (hv : Vis X.env.scope x) (ha : PA X (e :: es) t)
    (hd : (x == ("__debug__" : Str)) = false := by decide) (hcd : (x == ("__classdict__" : Str)) = false := by decide)
    (he : starEach (e :: es) X.env = (false, eval e X.env) :: starEach es X.env := by rfl) (hst : (backTo pos (starEach es X.env)).any (·.1) = true := by rfl) : PE X (.Call (.Name x p) (e :: es) [] pos) (tMakeV i C sp E t) := by
  refine ⟨fun pins s σ H Q I h => ?_⟩
  obtain ⟨hs, h⟩ := h
  refine wpAny_Call_Name_kw (thn ((pe_var (pos := p) (i := i) hN hv hd hcd).run pins s σ H (fun v H1 => v = .ref C ∧ H1 = H) I ⟨.ref C, hs, rfl, rfl⟩) fun u s1 ⟨v, H1, I1, r1, ev, eH⟩ => ?_)
  subst ev
  rw [eH] at I1
  cases r1
  refine PySem.W.callWith_S2 (h₀ := X.base) I.ok.mod.kin M.kp (thn (ha.run pos pins s1 σ H _ I1 h) fun us s2 ⟨vs, H2, I2, r, q⟩ => ⟨I2.kIn, ?_⟩) he hst
  exact StX.run_makeR M F hr hx I2 r q
/-- X(e, .., *y), X a class of the module -/
theorem pe_makeS (M : Mk X.K C f) (F : FnR X.prog X.w X.K X.mg X.base CX k f sp) (hr : Room (k + 1) X.A) (hg : Gl X x) (hm : X.mg x = some (.ref C)) (hx : Passes CX X E) (ha : PA X (e :: es) t) (hdb : (x == ("__debug__" : Str)) = false := by decide)
    (he : starEach (e :: es) X.env = (false, eval e X.env) :: starEach es X.env := by rfl) (hst : (backTo pos (starEach es X.env)).any (·.1) = true := by rfl) : PE X (.Call (.Name x p) (e :: es) [] pos) (StX.tMakeR C sp E t) := by
  refine ⟨fun pins s σ H Q I h => ?_⟩
  refine wpAny_Call_Name_kw (ld_glob I hg hm ?_ hdb)
  refine PySem.W.callWith_S2 (h₀ := X.base) I.ok.mod.kin M.kp (thn (ha.run pos pins s σ H _ I h) fun us s1 ⟨vs, H1, I1, r, q⟩ => ⟨I1.kIn, ?_⟩) he hst
  exact StX.run_makeR M F hr hx I1 r q
theorem k_sfld {K : PySem.W.Frag} {o value : Expr} {f : Str} {ta tv : TE} {pos' : Pos} (h : X.K = K) (ha : PE X o ta) (hv : PE X value tv) (hs : swapsWith value (some (.Attribute o f pos')) pos.line X.env = pure false) : PS X (.Assign [.Attribute o f pos'] value pos) (sFld K ta tv f) := h ▸ ps_fld ha hv hs
end
/-- all but the object at a is kept -/
def KB (a : Addr) (H H' : Hp) : Prop := ∀ b o, b ≠ a → H b = some o → H' b = some o
theorem KB.trans {a : Addr} {H H1 H2 : Hp} (s : KB a H H1) (t : KB a H1 H2) : KB a H H2 := fun b o n e => t b o n (s b o n e)
theorem KB.of_same {a : Addr} {H H' : Hp} (s : Same H H') : KB a H H' := fun b o _ e => s b o e
theorem KB.upd {a : Addr} {H : Hp} {o : HO} : KB a H (upd H a o) := fun b u n e => by
  rw [upd_ne n]
  exact e
theorem KB.same {a : Addr} {H0 H H' : Hp} (s0 : Same H0 H) (h : H0 a = none) (s : KB a H H') : Same H0 H' := fun b o e => s b o (ne_of_none e h) (s0 b o e)
theorem KB.tk {a : Addr} {H H' : Hp} {C dx : Addr} {fs : List (Str × V)} (h : H a = some (.ins C dx fs)) (s : KB a H H') : TK H H' := fun b xs e => s b _ (ne_of e h (by intro z; cases z)) e
theorem KB.get {a b : Addr} {o u : HO} {H H' : Hp} (s : KB a H H') (h : H a = some u) (e : H b = some o) (n : o ≠ u) : H' b = some o := s b _ (ne_of e h n) e
def pSF (K : PySem.W.Frag) (f : Str) (y : V) (D : Ends) (σ : L2.St) : VK := fun x H2 => ∃ a C dx fs, x = .ref a ∧ H2 a = some (.ins C dx fs) ∧ Cls K C ∧ NoAttr K C f ∧ fs.length < 1000 ∧ D.nx σ (upd H2 a (.ins C dx (putF f y fs)))
section
variable {K : PySem.W.Frag} {mg : Str → Option Value} {H : Hp} {Q : VK} {a dx : Addr} {fs : List (Str × V)} {f : Str} {y : V} {D : Ends} {σ : L2.St} {ta tv : TE}
theorem z_sf (h : tv σ H fun y H1 => ta σ H1 (pSF K f y D σ)) : sFld K ta tv f D σ H := h
theorem p_sfP (T : Txt K mg) (ho : H a = some (.ins (aP K) dx fs)) (hf : f ∈ (["own_name", "own_points", "own_moves"] : List Str)) (hl : fs.length < 1000) (q : ∀ H', KB a H H' → H' a = some (.ins (aP K) dx (putF f y fs)) → D.nx σ H') : pSF K f y D σ (.ref a) H :=
  ⟨a, _, dx, fs, rfl, ho, T.cP.cl, T.cP.na f hf, hl, q _ .upd upd_same⟩
theorem p_sfG (T : Txt K mg) (ho : H a = some (.ins (aG K) dx fs)) (hf : f ∈ (["own_modes", "own_starts", "own_procedures", "own_table", "own_main", "own_kept"] : List Str)) (hl : fs.length < 1000) (q : ∀ H', KB a H H' → H' a = some (.ins (aG K) dx (putF f y fs)) → D.nx σ H') : pSF K f y D σ (.ref a) H :=
  ⟨a, _, dx, fs, rfl, ho, T.cG.cl, T.cG.na f hf, hl, q _ .upd upd_same⟩
theorem p_sfR (T : Txt K mg) (ho : H a = some (.ins (aR K) dx fs)) (hf : f ∈ (["own_program", "own_bound", "own_start", "own_choices", "own_situations", "own_refused"] : List Str)) (hl : fs.length < 1000) (q : ∀ H', KB a H H' → H' a = some (.ins (aR K) dx (putF f y fs)) → D.nx σ H') : pSF K f y D σ (.ref a) H :=
  ⟨a, _, dx, fs, rfl, ho, T.cR.cl, T.cR.na f hf, hl, q _ .upd upd_same⟩
end
/-- a procedure's object -/
def ProcAt (K : PySem.W.Frag) (H : Hp) (a : Addr) (r : Str × Int × List Mv) : Prop := ∃ dx fs mv, H a = some (.ins (aP K) dx fs) ∧ lk fs "own_name" = some (.str r.1) ∧ lk fs "own_points" = some (.int r.2.1) ∧ lk fs "own_moves" = some (.ref mv) ∧ TD H (.ref mv) (eMvs r.2.2)
theorem ProcAt.nk {K : PySem.W.Frag} {H H' : Hp} {a : Addr} {r : Str × Int × List Mv} (s : NK H H') (h : ProcAt K H a r) : ProcAt K H' a r := by
  obtain ⟨dx, fs, mv, h1, h2, h3, h4, h5⟩ := h
  exact ⟨dx, fs, mv, s _ _ rfl h1, h2, h3, h4, h5.nk s⟩
theorem ProcAt.sm {K : PySem.W.Frag} {H H' : Hp} {a : Addr} {r : Str × Int × List Mv} (s : Same H H') (h : ProcAt K H a r) : ProcAt K H' a r := h.nk (Kx.Same.nk s)
def pMk (C : Addr) (sp : Sp) (E : XK) (Q : VK) : List V → Hp → Prop := fun vs H1 => ∀ x dx, H1 x = Option.none → H1 dx = Option.none → dx ≠ x → sp (V.ref x :: vs) (upd (upd H1 dx (.own x)) x (.ins C dx [])) (fun v H2 => v = .non ∧ Q (.ref x) H2) E
theorem z_mk {C : Addr} {sp : Sp} {E : XK} {t : TA} {σ : L2.St} {H : Hp} {Q : VK} (h : t σ H (pMk C sp E Q)) : StX.tMakeR C sp E t σ H Q := h
theorem p_mk {C : Addr} {sp : Sp} {E : XK} {vs : List V} {H : Hp} {Q : VK} (q : ∀ x dx H2, H x = none → Same H H2 → H2 x = some (.ins C dx []) → sp (V.ref x :: vs) H2 (fun v H3 => v = .non ∧ Q (.ref x) H3) E) : pMk C sp E Q vs H := fun x dx hx hd hne => by
  have hx2 : upd H dx (.own x) x = none := by
    rw [upd_ne hne.symm]
    exact hx
  exact q x dx _ hx (fun b u e => same_new hx2 b u (same_new hd b u e)) upd_same
def pLSS (Q : VK) : VK := fun x H1 => ∃ (l : Addr) (ns : List Str), x = .ref l ∧ H1 l = some (.lst (ns.map V.str)) ∧ ns.Nodup ∧ ns.length ≤ 900 ∧ Q (.int (ns.length : Nat)) H1
theorem z_lss {K : PySem.W.Frag} {ta : TE} {σ : L2.St} {H : Hp} {Q : VK} (h : ta σ H (pLSS Q)) : tLenSetS K ta σ H Q := h
theorem p_lss {l : Addr} {ns : List Str} {H : Hp} {Q : VK} (h : H l = some (.lst (ns.map V.str))) (n : ns.Nodup) (hl : ns.length ≤ 900) (q : Q (.int (ns.length : Nat)) H) : pLSS Q (.ref l) H := ⟨l, ns, rfl, h, n, hl, q⟩
theorem isInt_small {i : Int} (h1 : -100000 ≤ i) (h2 : i ≤ 100000) : isInt (.int i) = true := by
  show (decide (-(10 ^ 40) < i) && decide (i < 10 ^ 40)) = true
  rw [decide_eq_true (by omega : -(10 ^ 40) < i), decide_eq_true (by omega : i < 10 ^ 40)]
  rfl
local macro_rules
  | `(tactic| row_cond hp) => `(tactic| first
    | assumption
    | exact upd_same
    | (refine Kx.Same.get (by assumption) ?_; row_cond hp)
    | (refine Kx.SB.get (by assumption) (by assumption) ?_ rfl; row_cond hp)
    | (refine Kx.SB.getL (by assumption) (by assumption) ?_; row_cond hp))
local macro_rules
  | `(tactic| row_cond zs) => `(tactic| first
    | ((with_reducible refine Kx.z_var (v := ?zval) ?zv ?zq); (case zv => rfl))
    | with_reducible refine Kx.z_c ?_
    | with_reducible refine Kx.z_cons ?_
    | with_reducible refine Kx.z_nil ?_
    | with_reducible refine Kx.z_op ?_
    | with_reducible refine Kx.z_cB ?_
    | with_reducible refine Kx.z_call ?_
    | with_reducible refine Kx.z_fld ?_
    | with_reducible refine Kx.z_tup ?_
    | with_reducible refine Kx.z_lst ?_
    | with_reducible refine Kx.z_test ?_
    | with_reducible refine Kx.z_tB ?_
    | with_reducible refine Kx.p_bl ?_
    | with_reducible refine Kx.z_iteT ?_
    | with_reducible refine Kx.z_iteF ?_
    | with_reducible refine Kx.z_seq ?_
    | with_reducible refine Kx.z_ret ?_
    | with_reducible refine Kx.z_set ?_
    | with_reducible refine Kx.z_drop ?_
    | with_reducible refine Kx.z_if ?_
    | with_reducible refine Kx.z_next ?_
    | with_reducible refine Kx.z_and ?_
    | with_reducible refine Kx.z_or ?_
    | with_reducible refine Kx.z_not ?_
    | with_reducible refine Kx.z_andV ?_
    | with_reducible refine Kx.z_orV ?_
    | with_reducible refine Kx.z_notV ?_
    | with_reducible refine Kx.z_ifE ?_
    | with_reducible refine Kx.z_chain ?_
    | with_reducible refine Kx.z_dget ?_
    | with_reducible refine Kx.z_un ?_
    | with_reducible refine Kx.z_asg ?_
    | with_reducible refine Kx.z_retN ?_
    | with_reducible refine Kx.z_iteNT ?_
    | with_reducible refine Kx.z_iteNF ?_
    | with_reducible refine Kx.p_add ?_
    | with_reducible refine Kx.p_sub ?_
    | with_reducible refine Kx.p_lt ?_
    | with_reducible refine Kx.p_le ?_
    | with_reducible refine Kx.p_gt ?_
    | with_reducible refine Kx.p_ge ?_
    | with_reducible refine Kx.p_neg ?_
    | with_reducible refine Kx.p_eqI ?_
    | with_reducible refine Kx.p_eqS ?_
    | with_reducible refine Kx.p_neI ?_
    | with_reducible refine Kx.p_eqNN ?_
    | with_reducible refine Kx.p_isN ?_
    | with_reducible refine Kx.p_isNi ?_
    | with_reducible refine Kx.p_isNr ?_
    | with_reducible refine Kx.p_notN ?_
    | with_reducible refine Kx.p_notNi ?_
    | with_reducible refine Kx.p_notNr ?_
    | with_reducible refine Kx.p_intI ?_
    | with_reducible refine Kx.p_intB ?_
    | with_reducible refine Kx.p_abs ?_
    | with_reducible refine Kx.p_mx2 ?_
    | with_reducible refine Kx.p_mn2 ?_
    | ((with_reducible refine Kx.p_ixT (xs := ?zxs) (v := ?zval) ?zh ?ze ?zq); (case zh => row_cond hp); (case ze => rfl))
    | ((with_reducible refine Kx.p_ixL (xs := ?zxs) (v := ?zval) ?zh ?ze ?zq); (case zh => row_cond hp); (case ze => rfl))
    | ((with_reducible refine Kx.p_lenT (xs := ?zxs) ?zh ?zq); (case zh => row_cond hp))
    | ((with_reducible refine Kx.p_lenL (xs := ?zxs) ?zh ?zq); (case zh => row_cond hp))
    | ((with_reducible refine Kx.p_xT (xs := ?zxs) (v := ?zval) ?zh ?ze ?zq); (case zh => row_cond hp); (case ze => rfl))
    | ((with_reducible refine Kx.p_xL (xs := ?zxs) (v := ?zval) ?zh ?ze ?zq); (case zh => row_cond hp); (case ze => rfl))
    | with_reducible refine Kx.p_qI ?_
    | with_reducible refine Kx.p_qS ?_
    | with_reducible refine Kx.p_qNI ?_
    | with_reducible refine Kx.p_ltI ?_
    | with_reducible refine Kx.q_int_int ?_
    | with_reducible refine Kx.q_int_bool ?_
    | with_reducible refine Kx.q_int_str ?_
    | with_reducible refine Kx.q_int_tuple ?_
    | with_reducible refine Kx.q_bool_int ?_
    | with_reducible refine Kx.q_bool_bool ?_
    | with_reducible refine Kx.q_bool_str ?_
    | with_reducible refine Kx.q_bool_tuple ?_
    | with_reducible refine Kx.q_str_int ?_
    | with_reducible refine Kx.q_str_bool ?_
    | with_reducible refine Kx.q_str_str ?_
    | with_reducible refine Kx.q_str_tuple ?_
    | with_reducible refine Kx.q_NoneType_int ?_
    | with_reducible refine Kx.q_NoneType_bool ?_
    | with_reducible refine Kx.q_NoneType_str ?_
    | with_reducible refine Kx.q_NoneType_tuple ?_
    | ((with_reducible refine Kx.q_tuple_int (xs := ?zxs) ?zh ?zq); (case zh => row_cond hp))
    | ((with_reducible refine Kx.q_tuple_bool (xs := ?zxs) ?zh ?zq); (case zh => row_cond hp))
    | ((with_reducible refine Kx.q_tuple_str (xs := ?zxs) ?zh ?zq); (case zh => row_cond hp))
    | ((with_reducible refine Kx.q_tuple_tuple (xs := ?zxs) ?zh ?zq); (case zh => row_cond hp))
    | ((with_reducible refine Kx.q_list_int (xs := ?zxs) ?zh ?zq); (case zh => row_cond hp))
    | ((with_reducible refine Kx.q_list_bool (xs := ?zxs) ?zh ?zq); (case zh => row_cond hp))
    | ((with_reducible refine Kx.q_list_str (xs := ?zxs) ?zh ?zq); (case zh => row_cond hp))
    | ((with_reducible refine Kx.q_list_tuple (xs := ?zxs) ?zh ?zq); (case zh => row_cond hp))
    | ((with_reducible refine Kx.q_dict_int (kvs := ?zxs) ?zh ?zq); (case zh => row_cond hp))
    | ((with_reducible refine Kx.q_dict_bool (kvs := ?zxs) ?zh ?zq); (case zh => row_cond hp))
    | ((with_reducible refine Kx.q_dict_str (kvs := ?zxs) ?zh ?zq); (case zh => row_cond hp))
    | ((with_reducible refine Kx.q_dict_tuple (kvs := ?zxs) ?zh ?zq); (case zh => row_cond hp))
    | with_reducible refine Kx.z_gn ?_
    | ((with_reducible refine Kx.z_gt2 (x := ?zx) (y := ?zy) ?zh ?zq); (case zh => row_cond hp))
    | ((with_reducible refine Kx.z_gt3 (x := ?zx) (y := ?zy) (z := ?zz) ?zh ?zq); (case zh => row_cond hp))
    | with_reducible refine Kx.z_lcT ?_
    | with_reducible refine Kx.z_lcL ?_
    | with_reducible refine Kx.z_lcS ?_
    | with_reducible refine Kx.z_lcR ?_
    | with_reducible refine Kx.z_lcZ ?_
    | with_reducible refine Kx.z_yes ?_
    | ((with_reducible refine Kx.z_wip ?zh ?zq); (case zh => rfl))
    | ((with_reducible refine Kx.z_LK ?zh ?zq); (case zh => rfl))
    | with_reducible refine Kx.z_lc2T ?_
    | with_reducible refine Kx.z_lc2L ?_
    | with_reducible refine Kx.z_inT ?_
    | with_reducible refine Kx.z_inL ?_
    | ((with_reducible refine Kx.z_LK2 ?zh ?zq); (case zh => rfl))
    | with_reducible refine Kx.z_sl ?_
    | with_reducible refine Kx.z_nop ?_
    | with_reducible refine Kx.z_part ?_
    | with_reducible refine Kx.z_exi ?_
    | with_reducible refine Kx.p_isNb ?_
    | with_reducible refine Kx.p_isNs ?_
    | with_reducible refine Kx.z_match ?_
    | ((with_reducible refine Kx.z_caseT (y := ?zy) (xs := ?zxs) ?zh ?zl ?zf ?zq); (case zh => row_cond hp); (case zl => rfl); (case zf => rfl))
    | ((with_reducible refine Kx.z_caseL (y := ?zy) (xs := ?zxs) ?zh ?zl ?zq); (case zh => row_cond hp); (case zl => (intro z; cases z)))
    | ((with_reducible refine Kx.z_caseF (y := ?zy) (xs := ?zxs) ?zh ?zf ?zq); (case zh => row_cond hp); (case zf => rfl))
    | with_reducible refine Kx.z_mnil ?_
    | with_reducible refine Kx.z_lcE ?_
    | with_reducible refine Kx.z_forT ?_
    | with_reducible refine Kx.z_forL ?_
    | with_reducible refine Kx.z_forR ?_
    | with_reducible refine Kx.z_forC ?_
    | ((with_reducible refine Kx.p_fP (dx := ?zd) (fs := ?zfs) (v := ?zv) (by assumption) ?zh ?zl ?zf ?zq); (case zh => row_cond hp); (case zl => assumption); (case zf => decide +kernel))
    | ((with_reducible refine Kx.p_fG (dx := ?zd) (fs := ?zfs) (v := ?zv) (by assumption) ?zh ?zl ?zf ?zq); (case zh => row_cond hp); (case zl => assumption); (case zf => decide +kernel))
    | ((with_reducible refine Kx.p_fR (dx := ?zd) (fs := ?zfs) (v := ?zv) (by assumption) ?zh ?zl ?zf ?zq); (case zh => row_cond hp); (case zl => assumption); (case zf => decide +kernel))
    | ((with_reducible refine Kx.p_dgetS (kvs := ?zk) (v := ?zv) ?zh ?ze ?zq); (case zh => row_cond hp); (case ze => assumption))
    | with_reducible refine Kx.z_star ?_
    | ((with_reducible refine Kx.p_star (xs := ?zxs) ?zh ?zq); (case zh => row_cond hp))
    | with_reducible refine Kx.z_bm ?_
    | with_reducible refine Kx.p_ip ?_
    | with_reducible refine Kx.z_lss ?_
    | with_reducible refine Kx.z_dcT ?_
    | with_reducible refine Kx.z_sf ?_
    | with_reducible refine Kx.z_dnew ?_
    | with_reducible refine Kx.z_mk ?_
    | with_reducible refine Kx.z_callS ?_
    | with_reducible refine Kx.z_gsub ?_
    | ((with_reducible refine Kx.p_setL (xs := ?zxs) (k := ?zk) ?zh ?ze ?zq); (case zh => row_cond hp); (case ze => rfl))
    | ((with_reducible refine Kx.p_modP ?zh ?zq); (case zh => first | assumption | decide +kernel))
    | ((with_reducible refine Kx.p_mulR ?zh ?zq); (case zh => first | assumption | decide +kernel))
    | ((with_reducible refine Kx.p_mulL ?zh ?zq); (case zh => first | assumption | decide +kernel))
    | ((with_reducible refine Kx.p_powS ?zh ?zq); (case zh => first | assumption | decide +kernel))
    | ((with_reducible refine Kx.p_powW ?zh ?zq); (case zh => first | assumption | decide +kernel))
    | ((with_reducible refine Kx.p_fdvS ?zh ?zq); (case zh => first | assumption | decide +kernel))
    | with_reducible refine Kx.z_par ?_
    | with_reducible refine Kx.p_par ?_
    | with_reducible refine Kx.z_par3 ?_
    | with_reducible refine Kx.p_par3 ?_
    | ((with_reducible refine Kx.z_gl3 (x := ?zx) (y := ?zy) (z := ?zz) ?zh ?zq); (case zh => row_cond hp))
    | ((with_reducible refine Kx.z_gtG2 (x := ?zx) (y := ?zy) ?zh ?zq); (case zh => row_cond hp))
    | with_reducible refine Kx.z_cm ?_
    | with_reducible refine Kx.p_cm ?_
    | with_reducible refine Kx.z_prs ?_
    | with_reducible refine Kx.z_prn ?_
    | dsimp only)
local macro_rules
  | `(tactic| row_cond zz) => `(tactic| repeat (row_cond zs))

section
variable {P : Program} {w : World} {K : PySem.W.Frag} {mg : Str → Option Value} {base : Heap}
def spPI (K : PySem.W.Frag) : Sp := fun vs H Q _ => ∃ a dx n pts mv l tot nm, vs = [.ref a, .str n, .int pts, .ref mv] ∧ H a = some (.ins (aP K) dx []) ∧ TD H (.ref mv) (eMvs l) ∧ ProcOk tot nm (n, pts, l) ∧ n ∈ okNames ∧ tot ≤ 6 ∧ (∀ x ∈ nm, x ∈ okNames) ∧
  ∀ H', KB a H H' → ProcAt K H' a (n, pts, l) → Q .non H'
theorem sc_Procedure___init__ : FnScope ["self", "called", "points", "moves", "move"] ["self", "called", "points", "moves"] (defScope (inClass (Kx.top 32) 0)) := ⟨rfl, rfl, rfl, by decide +kernel, rfl, by decide +kernel, by decide +kernel⟩
theorem f_Procedure_init (T : Txt K mg) : FnR P w K mg base C8.CX0 6 (He.ma K (aP K) "__init__") (fun vs H Q E => ∃ ws rest, vs = ws ++ rest ∧ ws.length = 3 ∧ rest.length ≤ sizeLine ∧ ∀ p, H p = Option.none → spPI K (ws ++ [V.ref p]) (upd H p (.tup rest)) Q E) := by
  obtain ⟨fd, F⟩ := T.cP.fi
  obtain ⟨oc, od, kV, doc, pm, an, cdv, ct, osl, rfl, hlk, hcd⟩ := F.ex
  refine StX.fn_star (ps := ["self", "called", "points"]) (pv := "moves") hlk hcd sc_Procedure___init__ StX.cxUp_none (fun us rest hl => match us, rest, hl with | [_, _, _], [], _ => rfl | [_, _, _], _ :: _, _ => rfl) (fun A outer s H vs Q E hr h => ?_)
  obtain ⟨a, dx, n, pts, mv, l, tot, nm, rfl, ha, tm, ok, hn, htot, hnm, hq⟩ := h
  obtain ⟨xs, hm, ts⟩ := TD.tupR tm
  have hxl : xs.length = l.length := by rw [ts.length, List.length_map]
  have hll := ok.len
  suffices h : ∃ t, PSs (cxOf C8.CX0 P w K mg base _ _ _ _ cdv A outer s H E).nox _ t ∧ t { nx := fun _ H' => Q .non H', rt := Q } (start _ _) H by
    obtain ⟨t, h1, h2⟩ := h
    exact ⟨t, h1.nox, h2⟩
  refine ⟨_, (pss_cons (ps_if (PW.pt (pw_or (pt_not (pt_val (C8.pe_c (c_is_name T) hr (by decide) rfl (pa_cons (pv 1) pa_nil)))) (pw_or (pt_not (pt_val (C8.pe_c (c_is_integer T) hr (by decide) rfl (pa_cons (pv 2) pa_nil)))) (pw_or1 (pt_not (pt_chain o_lt o_le pe_int (pv 2) (C8.pe_gc rfl T.mp))))))) (pss_one ps_never) pss_nil)
      (pss_cons (ps_if (PW.pt (pw_or (pt_cmpR o_gt (pe_callB (k_len (K := K) rfl) rfl (T.b "len") boot_len (pa_cons (pv 3) pa_nil)) (C8.pe_gc rfl T.mv) (nomark _)) (pw_or1 (pt_not (pt_val (pe_callB (k_all (K := K) rfl rfl) rfl (T.b "all") boot_all (pa_cons (pe_lc rfl sc_Procedure___init__.nd (k_tup (K := K) rfl (pv 3)) (blkOk_by (own := [(("move" : Str), 4)]) (by kernel_rfl)) (fun _ _ _ _ _ => (pg_name (i := 4) sc_Procedure___init__.nd rfl (.inl rfl) (.inr rfl))) (fun _ _ _ _ _ => pts_nil) (fun _ _ _ _ _ => (C8.pe_c (c_is_move T) hr (by decide) rfl (pa_cons (pv 4) (pa_cons (pv 2) pa_nil))))) pa_nil))))))) (pss_one ps_never) pss_nil)
      (pss_cons (k_sfld (K := K) rfl (pv 0) (pv 1) rfl)
      (pss_cons (k_sfld (K := K) rfl (pv 0) (pv 2) rfl)
      (pss_one (k_sfld (K := K) rfl (pv 0) (pv 3) rfl)))))), ?_⟩
  have hp1 := ok.pts.1
  have hp2 := ok.pts.2
  have hp1 : 0 < pts := hp1
  have hp2 : pts ≤ 8 := hp2
  have hll : l.length ≤ 16 := hll
  row_cond zz
  refine ⟨n, rfl, hn, fun H1 s1 => ?_⟩
  row_cond zz
  refine ⟨.int pts, "int", rfl, .int pts, ?_⟩
  rw [isInt_small (by omega) (by omega)]
  row_cond zz
  refine z_iteD hp1 ?_
  row_cond zz
  rw [decide_eq_true hp2]
  row_cond zz
  refine z_iteDF (by omega) ?_
  row_cond zz
  refine p_lcT Same allT allT_mono okS (Kx.Same.get s1 hm) (by omega) allT_nil (fun i x acc H2 hx hi s2 q => ?_) (fun D H2 ys hD s2 e2 q2 => ?_)
  · intro D Nx put skip
    obtain ⟨d, hd, td⟩ := ts.get hx
    rw [List.getElem?_map] at hd
    obtain ⟨m, hm0, rfl⟩ := Option.map_eq_some_iff.mp hd
    obtain ⟨c, rfl, hmv⟩ := mv_at (td.sm (s1.trans s2))
    row_cond zz
    refine ⟨c, m, pts, tot, nm, rfl, hmv, ok.mvs m (List.mem_of_getElem? hm0), htot, hp2, hnm, fun H3 s3 => ?_⟩
    exact put _ _ s3 (allT_snoc q)
  · row_cond zz
    refine p_all1 e2 q2 ?_
    row_cond zz
    try refine z_sf ?_
    row_cond zz
    refine p_sfP T (Kx.Same.get (s1.trans s2) ha) (by decide +kernel) (by decide) fun H3 s3 e3 => ?_
    row_cond zz
    try refine z_sf ?_
    row_cond zz
    refine p_sfP T e3 (by decide +kernel) (Nat.le_of_ble_eq_true rfl) fun H4 s4 e4 => ?_
    row_cond zz
    try refine z_sf ?_
    row_cond zz
    refine p_sfP T e4 (by decide +kernel) (Nat.le_of_ble_eq_true rfl) fun H5 s5 e5 => ?_
    have s35 : KB a H2 H5 := s3.trans (s4.trans s5)
    refine hq H5 ((KB.of_same (s1.trans s2)).trans s35) ⟨dx, _, mv, e5, rfl, rfl, rfl, TD.mono (KB.tk (Kx.Same.get (s1.trans s2) ha) s35) _ _ (tm.sm (s1.trans s2))⟩
/-! ### Procedure.of -/
def spPOf (K : PySem.W.Frag) : Sp := fun vs H Q _ => ∃ n pts mv l tot nm, vs = [.ref (aP K), .str n, .int pts, .ref mv] ∧ TD H (.ref mv) (eMvs l) ∧ ProcOk tot nm (n, pts, l) ∧ n ∈ okNames ∧ tot ≤ 6 ∧ (∀ x ∈ nm, x ∈ okNames) ∧
  ∀ H' a, Same H H' → ProcAt K H' a (n, pts, l) → Q (.ref a) H'
theorem sc_Procedure_of : FnScope ["cls", "called", "points", "moves"] ["cls", "called", "points", "moves"] (defScope (inClass (Kx.top 32) 1)) := ⟨rfl, rfl, rfl, by decide +kernel, rfl, by decide +kernel, by decide +kernel⟩
theorem f_Procedure_of (T : Txt K mg) : FnR P w K mg base C8.CX0 8 (He5.wf K (aP K) "classmethod" "of") (spPOf K) := by
  obtain ⟨fd, F⟩ := T.cP.fo
  have b := F.binds (ps := ["cls", "called", "points", "moves"]) (fun _ _ _ _ _ _ us hl => match us, hl with | [_, _, _, _], _ => rfl)
  have F1 : FnOk P w K mg base C8.CX0 8 (He5.wf K (aP K) "classmethod" "of") fd ["cls", "called", "points", "moves"] (spPOf K) := by
    refine F.ok sc_Procedure_of (fun vs H Q E h => ?_) (fun cdv A outer s H vs Q E hr h => ?_)
    · obtain ⟨n, pts, mv, l, tot, nm, rfl, _⟩ := h
      rfl
    · obtain ⟨n, pts, mv, l, tot, nm, rfl, tm, ok, hn, htot, hnm, hq⟩ := h
      obtain ⟨xs, hm, ts⟩ := TD.tupR tm
      have hxl : xs.length = l.length := by rw [ts.length, List.length_map]
      have hll : l.length ≤ 16 := ok.len
      refine ⟨_, (pss_cons (ps_if (pt_not (pt_val (pe_callB c_isB rfl (T.b "isinstance") boot_isinstance (pa_cons (pv 3) (pa_cons (pe_bltn rfl (T.b "tuple") boot_tuple (v := .ty "tuple") rfl) pa_nil))))) (pss_one ps_never) pss_nil)
      (pss_one (ps_ret (pe_makeVS (i := 0) T.cP.maker (f_Procedure_init T) (hr.mono (by decide)) pass0 rfl (.inl rfl) (pa_cons (pv 1) (pa_cons (pv 2) (k_star (K := K) rfl (pv 3) pa_nil))))))), ?_⟩
      row_cond zz
      refine ⟨rfl, z_mk ?_⟩
      row_cond zz
      refine p_mk fun x dx H1 hx s1 ex => ⟨[.ref x, .str n, .int pts], xs ++ [], rfl, rfl, by rw [List.append_nil, hxl]; exact Nat.le_trans hll (by decide), fun p hp => ?_⟩
      have s2 : Same H1 (upd H1 p (.tup (xs ++ []))) := same_new hp
      refine ⟨x, dx, n, pts, p, l, tot, nm, rfl, Kx.Same.get s2 ex, .tup upd_same ?_, ok, hn, htot, hnm, fun H3 k3 hpa => ⟨rfl, ?_⟩⟩
      · rw [List.append_nil] at s2 ⊢
        exact ts.sm (s1.trans s2)
      · exact hq H3 x (KB.same (s1.trans s2) hx k3) hpa
  have F2 := F1.raw b .nil
  refine F2.imp fun vs H Q E h => ?_
  rw [List.append_nil]
  exact h
/-! ### are_procedures -/
/-- a tuple's items are the procedures' objects -/
structure ProcsAt (K : PySem.W.Frag) (H : Hp) (as : List Addr) (rs : List (Str × Int × List Mv)) : Prop where
  len : as.length = rs.length
  at_ : ∀ (i : Nat) (a : Addr) (r : Str × Int × List Mv), as[i]? = some a → rs[i]? = some r → ProcAt K H a r
theorem ProcsAt.nk {K : PySem.W.Frag} {H H' : Hp} {as : List Addr} {rs : List (Str × Int × List Mv)} (s : NK H H') (h : ProcsAt K H as rs) : ProcsAt K H' as rs := ⟨h.len, fun i a r e1 e2 => (h.at_ i a r e1 e2).nk s⟩
theorem ProcsAt.get {K : PySem.W.Frag} {H : Hp} {as : List Addr} {rs : List (Str × Int × List Mv)} (h : ProcsAt K H as rs) {i : Nat} {x : V} (e : (as.map V.ref)[i]? = some x) : ∃ a r, x = .ref a ∧ as[i]? = some a ∧ rs[i]? = some r ∧ ProcAt K H a r := by
  rw [List.getElem?_map] at e
  obtain ⟨a, ha, rfl⟩ := Option.map_eq_some_iff.mp e
  have hi := (List.getElem?_eq_some_iff.mp ha).1
  obtain ⟨r, hr⟩ : ∃ r, rs[i]? = some r := ⟨_, List.getElem?_eq_getElem (by rw [← h.len]; exact hi)⟩
  exact ⟨a, r, rfl, ha, hr, h.at_ i a r ha hr⟩
/-- a reference to a move that is right -/
def MvV (H : Hp) (tot : Int) (nm : List Str) (x : V) : Prop := ∃ c m pts, x = .ref c ∧ MvAt H c m ∧ MvOk tot pts nm m
theorem MvV.nk {H H' : Hp} {tot : Int} {nm : List Str} {x : V} (s : NK H H') (h : MvV H tot nm x) : MvV H' tot nm x := by
  obtain ⟨c, m, pts, e, h1, h2⟩ := h
  exact ⟨c, m, pts, e, h1.tk (NK.tk s), h2⟩
def spProcs (K : PySem.W.Frag) : Sp := fun vs H Q _ => ∃ v as p, vs = [.ref v, .int p.total] ∧ PrgOk p ∧ H v = some (.tup (as.map V.ref)) ∧ ProcsAt K H as p.procs ∧ ∀ H', Same H H' → Q (.bl true) H'
theorem sc_are_procedures : FnScope ["value", "modes", "names", "moves", "one", "move", "mode"] ["value", "modes"] (defScope (top 33)) := ⟨rfl, rfl, rfl, by decide +kernel, rfl, by decide +kernel, by decide +kernel⟩
theorem c_are_procedures (T : Txt K mg) : Cal P w K mg base 4 "are_procedures" (spProcs K) := by
  refine cal_of T 12 rfl sc_are_procedures (fun _ _ _ _ _ _ us hl => match us, hl with | [_, _], _ => rfl) (fun vs H Q E h => ?_) (fun f cdv A outer s H vs Q E hr h => ?_)
  · obtain ⟨v, as, p, rfl, _⟩ := h
    rfl
  · obtain ⟨v, as, p, rfl, okp, hv, hps, hq⟩ := h
    have hal : as.length = p.procs.length := hps.len
    have hpl := okp.len
    have hpn : 0 < p.procs.length := List.length_pos_iff.mpr okp.ne
    have hml : (as.map V.ref).length = as.length := List.length_map ..
    refine ⟨_, (pss_cons (ps_if (PW.pt (pw_or (pt_not (pt_chain o_lt o_le pe_int (pe_callB (k_len (K := K) rfl) rfl (T.b "len") boot_len (pa_cons (pv 0) pa_nil)) (C8.pe_gc rfl T.mpr))) (pw_or1 (pt_not (pt_val (pe_callB (k_all (K := K) rfl rfl) rfl (T.b "all") boot_all (pa_cons (pe_lc rfl sc_are_procedures.nd (k_tup (K := K) rfl (pv 0)) (blkOk_by (own := [(("one" : Str), 4)]) (by kernel_rfl)) (fun _ _ _ _ _ => (pg_name (i := 4) sc_are_procedures.nd rfl (.inl rfl) (.inr rfl))) (fun _ _ _ _ _ => pts_nil) (fun _ _ _ _ _ => (pe_callB (k_isC (K := K) rfl) rfl (T.b "isinstance") boot_isinstance (pa_cons (pv 4) (pa_cons (C8.pe_gc rfl (v := .ref (aP K)) ⟨_, T.cP.g, rfl⟩) pa_nil))))) pa_nil))))))) (pss_one (ps_ret pe_bl)) pss_nil)
      (pss_cons (ps_set (i := 2) sc_are_procedures.nd rfl (.inr rfl) (pe_lc rfl sc_are_procedures.nd (k_tup (K := K) rfl (pv 0)) (blkOk_by (own := [(("one" : Str), 4)]) (by kernel_rfl)) (fun _ _ _ _ _ => (pg_name (i := 4) sc_are_procedures.nd rfl (.inl rfl) (.inr rfl))) (fun _ _ _ _ _ => pts_nil) (fun _ _ _ _ _ => (k_fld (K := K) rfl (pv 4) rfl))))
      (pss_cons (ps_if (pt_cmpR (k_neA (K := K) rfl hr.units) (pe_lenSetS rfl (T.b "len") rfl (T.b "set") (pv 2)) (pe_callB (k_len (K := K) rfl) rfl (T.b "len") boot_len (pa_cons (pv 2) pa_nil)) (nomark _)) (pss_one (ps_ret pe_bl)) pss_nil)
      (pss_cons (ps_setLc2 (i := 3) rfl sc_are_procedures.nd rfl rfl (sw_true rfl rfl rfl rfl) (k_tup (K := K) rfl (pv 0)) (blkOk_by (own := [(("one" : Str), 4), (("move" : Str), 5)]) (by kernel_rfl)) (vs1 := [5]) (by decide) (fun _ _ _ _ _ => (pg_name (i := 4) sc_are_procedures.nd rfl (.inl rfl) (.inr rfl))) (fun _ _ _ _ _ => pts_nil) (fun _ _ _ _ _ => (k_tup (K := K) rfl (k_fld (K := K) rfl (pv 4) rfl))) (fun _ _ _ _ _ => (pg_name (i := 5) sc_are_procedures.nd rfl (.inl rfl) (.inr rfl))) (fun _ _ _ _ _ => pts_nil) (fun _ _ _ _ _ => (pv 5)))
      (pss_cons (ps_if (pt_not (pt_val (pe_callB (k_all (K := K) rfl rfl) rfl (T.b "all") boot_all (pa_cons (pe_lc2 rfl sc_are_procedures.nd (k_lst (K := K) rfl (pv 3)) (blkOk_by (own := [(("move" : Str), 5), (("mode" : Str), 6)]) (by kernel_rfl)) (vs1 := [6]) (by decide) (fun _ _ _ _ _ => (pg_name (i := 5) sc_are_procedures.nd rfl (.inl rfl) (.inr rfl))) (fun _ _ _ _ _ => pts_nil) (fun _ _ _ _ _ => (k_lst (K := K) rfl (C8.pe_c (c_modes_in T) hr (by decide) rfl (pa_cons (pv 5) pa_nil)))) (fun _ _ _ _ _ => (pg_name (i := 6) sc_are_procedures.nd rfl (.inl rfl) (.inr rfl))) (fun _ _ _ _ _ => pts_nil) (fun _ _ _ _ _ => (C8.pe_c (c_is_below T) hr (by decide) rfl (pa_cons (pv 6) (pa_cons (pv 1) pa_nil))))) pa_nil)))) (pss_one (ps_ret pe_bl)) pss_nil)
      (pss_one (ps_ret (pe_callB (k_all (K := K) rfl rfl) rfl (T.b "all") boot_all (pa_cons (pe_lc rfl sc_are_procedures.nd (k_lst (K := K) rfl (pv 3)) (blkOk_by (own := [(("move" : Str), 5)]) (by kernel_rfl)) (fun _ _ _ _ _ => (pg_name (i := 5) sc_are_procedures.nd rfl (.inl rfl) (.inr rfl))) (fun _ _ _ _ _ => (pts_one (pt_cmpR (k_eqA (K := K) rfl hr.units) (k_ix (K := K) rfl (pv 5) pe_int (fun _ _ => rfl)) pe_str (nomark _)))) (fun _ _ _ _ _ => (pe_cmpR (k_inA (K := K) rfl) (k_ix (K := K) rfl (pv 5) pe_int (fun _ _ => rfl)) (pv 2) (by with_unfolding_all rfl)))) pa_nil))))))))), ?_⟩
    row_cond zz
    refine z_iteD (by omega) ?_
    row_cond zz
    rw [decide_eq_true (show (((as.map V.ref).length : Nat) : Int) ≤ 6 by omega)]
    row_cond zz
    refine p_lcT Same allT allT_mono okS hv (by omega) allT_nil (fun i x acc H2 hx hi s2 q => ?_) (fun D H2 ys hD s2 e2 q2 => ?_)
    · intro D Nx put skip
      obtain ⟨a, r, rfl, ha, hr2, hpa⟩ := (hps.nk (Kx.Same.nk s2)).get hx
      obtain ⟨dx, fs, mv, h1, _⟩ := hpa
      row_cond zz
      exact p_isC h1 T.cP.ins (put _ _ (Same.refl _) (allT_snoc q))
    row_cond zz
    refine p_all1 e2 q2 ?_
    row_cond zz
    refine p_lcT Same (fun i acc H => acc = (p.procs.take i).map fun r => V.str r.1) (fun _ _ _ _ _ h => h) okS (Kx.Same.get s2 hv) (by omega) rfl (fun i x acc H3 hx hi s3 q => ?_) (fun ln H3 ys hln s3 e3 q3 => ?_)
    · intro D Nx put skip
      obtain ⟨a, r, rfl, ha, hr2, hpa⟩ := (hps.nk (Kx.Same.nk (s2.trans s3))).get hx
      obtain ⟨dx, fs, mv, h1, h2, _⟩ := hpa
      row_cond zz
      refine put _ _ (Same.refl _) ?_
      show _ = (p.procs.take (i + 1)).map fun r => V.str r.1
      rw [q, List.take_succ, hr2, List.map_append]
      rfl
    have q3 : ys = p.names.map V.str := by
      rw [q3, hml, hal, List.take_length]
      unfold Prg.names
      rw [List.map_map]
      rfl
    subst q3
    have hnl : p.names.length = p.procs.length := by
      unfold Prg.names
      exact List.length_map ..
    row_cond zz
    refine p_lss e3 okp.nd (by omega) ?_
    row_cond zz
    rw [List.length_map, decide_eq_true rfl]
    row_cond zz
    have s03 := s2.trans s3
    refine p_lc2T Same (fun i acc H => (∀ x ∈ acc, MvV H p.total p.names x) ∧ acc.length ≤ 16 * i) (fun i acc H H' nk h => ⟨fun x hx => (h.1 x hx).nk nk, h.2⟩) okS (Kx.Same.get s03 hv) ⟨fun x hx => (by cases hx), Nat.zero_le _⟩ (fun D2 i x acc H4 hD2 hx hi s4 e4 R4 Nx nx => ?_) (fun lm H4 ms hlm s4 e4 R4 => ?_)
    · obtain ⟨a, r, rfl, ha, hr2, hpa⟩ := (hps.nk (Kx.Same.nk (s03.trans s4))).get hx
      obtain ⟨dx, fs, mv, h1, h2, h3, h4, h5⟩ := hpa
      have okr := okp.prs r (List.mem_of_getElem? hr2)
      obtain ⟨zs, hz, tz⟩ := TD.tupR h5
      have hzl : zs.length = r.2.2.length := by rw [tz.length, List.length_map]
      have hrl := okr.len
      row_cond zz
      refine p_inT (R := fun j acc H => (∀ x ∈ acc, MvV H p.total p.names x) ∧ acc.length ≤ 16 * i + j ∧ j ≤ 16) (rl_same hD2) s4 e4 (fun j acc H h => ?_) hz (fun j acc H H' nk h => ⟨fun x hx => (h.1 x hx).nk nk, h.2⟩) ⟨R4.1, R4.2, Nat.zero_le _⟩ (fun j x acc2 H5 hx hj s5 nk R5 => ?_) (fun H5 i5 => nx H5 ⟨i5.rel, ?_⟩)
      · have := h.2
        omega
      · intro Nx1 put skip
        obtain ⟨d, hd, td⟩ := (TDs.nk nk tz).get hx
        rw [List.getElem?_map] at hd
        obtain ⟨m, hm0, rfl⟩ := Option.map_eq_some_iff.mp hd
        obtain ⟨c, rfl, hmv⟩ := mv_at td
        row_cond zz
        refine put _ _ (Same.refl _) ⟨fun y hy => ?_, ?_, by omega⟩
        · rcases List.mem_append.mp hy with h | h
          · exact R5.1 y h
          · rw [List.mem_singleton.mp h]
            exact ⟨c, m, r.2.1, rfl, hmv, okr.mvs m (List.mem_of_getElem? hm0)⟩
        · rw [List.length_append]
          have := R5.2.1
          show _ + 1 ≤ _
          omega
      · obtain ⟨acc, e, h1, h2, h3⟩ := i5.at_
        exact ⟨acc, e, h1, by omega⟩
    have hmsl : ms.length ≤ 96 := by
      have := R4.2
      omega
    row_cond zz
    refine p_lc2L Same (fun i acc H => acc.length ≤ 100 * i ∧ ∀ x ∈ acc, x = .bl true) (fun _ _ _ _ _ h => h) okS e4 (fun H' s => Kx.Same.get s e4) ⟨Nat.zero_le _, fun x hx => by cases hx⟩ (fun D2 i x acc H5 hD2 hx hi s5 e5 R5 Nx nx => ?_) (fun D H5 ys hD s5 e5 R5 => ?_)
    · obtain ⟨c, m, pts, rfl, hmv, okm⟩ := (R4.1 x (List.mem_of_getElem? hx)).nk (Kx.Same.nk s5)
      row_cond zz
      refine ⟨c, m, p.total, pts, p.names, rfl, hmv, okm, okp.tot.2, fun H6 D3 zs s6 hD3 e6 hzl hz => ?_⟩
      row_cond zz
      refine p_inL (R := fun j acc H => (acc.length ≤ 100 * i + j ∧ j ≤ 100) ∧ ∀ x ∈ acc, x = .bl true) (rl_same hD2) (s5.trans s6) (Kx.Same.get s6 e5) (fun j acc H h => ?_) e6 (fun z => ?_) (fun _ _ _ _ _ h => h) (fun H1 H' _ r e => Kx.Same.get r e) ⟨⟨R5.1, Nat.zero_le _⟩, R5.2⟩ (fun j x acc2 H7 hx hj s7 nk R7 => ?_) (fun H7 i7 => nx H7 ⟨i7.rel, ?_⟩)
      · have := h.1
        omega
      · subst z
        rw [e5] at hD3
        cases hD3
      · intro Nx1 put skip
        obtain ⟨kk, rfl, hk⟩ := hz x (List.mem_of_getElem? hx)
        row_cond zz
        refine b_in (Int.le_trans okp.tot.2 (by decide)) hk (put _ _ (Same.refl _) ⟨⟨?_, by omega⟩, allT_snoc (i := j) (H := H7) (H' := H7) R7.2⟩)
        rw [List.length_append]
        exact Nat.add_le_add_right R7.1.1 1
      · obtain ⟨acc, e, h⟩ := i7.at_
        exact ⟨acc, e, by have := h.1.1; omega, h.2⟩
    row_cond zz
    refine p_all1 e5 R5.2 ?_
    row_cond zz
    refine p_lcL Same allT allT_mono okS (Kx.Same.get s5 e4) (fun H' s => Kx.Same.get s (Kx.Same.get s5 e4)) (by omega) allT_nil (fun i x acc H6 hx hi s6 q => ?_) (fun D H6 ys hD s6 e6 q6 => ?_)
    · intro D Nx put skip
      obtain ⟨c, m, pts, rfl, hmv, okm⟩ := (R4.1 x (List.mem_of_getElem? hx)).nk (Kx.Same.nk (s5.trans s6))
      obtain ⟨xs3, hx3, hat3⟩ := mv_tag hmv
      have e36 : H6 ln = some (.lst (p.names.map V.str)) := Kx.Same.get (s4.trans (s5.trans s6)) e3
      row_cond zz
      refine p_xT hx3 hat3 (p_qS ?_)
      rw [tag_call]
      cases hmv with
      | call h1 h2 =>
        rw [show (Mv.call _ _ _ _ _).isCall = true from rfl]
        row_cond zz
        refine p_mL e36 rfl (flat_strs _) ?_
        rw [inV_strs, List.contains_iff_mem.mpr okm.2.2.1]
        exact put _ _ (Same.refl _) (allT_snoc q)
      | go h1 h2 =>
        rw [show (Mv.go _ _ _).isCall = false from rfl]
        row_cond zz
        exact skip _ (Same.refl _) q
      | leave h1 h2 =>
        rw [show (Mv.leave _ _).isCall = false from rfl]
        row_cond zz
        exact skip _ (Same.refl _) q
      | fail h1 h2 =>
        rw [show (Mv.fail _ _).isCall = false from rfl]
        row_cond zz
        exact skip _ (Same.refl _) q
    · row_cond zz
      exact p_all1 e6 q6 (hq _ (s03.trans (s4.trans (s5.trans s6))))
end
end Kx

/- part K11 -/
/-! # K11: programs -/
namespace Kx
open PySem PySem.Spec PyProof.Rows L2
def pDcT (K : PySem.W.Frag) (g : TG) (tt : TT) (tk tv : TE) (vs : List Nat) (σ : L2.St) (Q : VK) : VK := fun x H1 => ∃ a, x = .ref a ∧ (∃ xs, SqT K H1 a xs) ∧ ∀ D, H1 D = none → ∃ W : Nat → Nat → Hp → Prop, (∃ m, W 0 m (upd H1 D (.dK []))) ∧ ∀ i m H, W i m H →
  ((Itt K a).stop i H ∧ Q (.ref D) H) ∨ ((Itt K a).go i H ∧ ∃ Nx : Hp → Prop, (∀ H', Nx H' → ∃ m', m' < m ∧ W (i + 1) m' H') ∧ ∀ x H', (Itt K a).yld i H x H' → g x (wipe σ vs) H' fun σ2 H2 => wipe σ2 vs = wipe σ vs ∧ tt σ2 H2 fun b H3 =>
    if b = true then tk σ2 H3 fun y H4 => tv σ2 H4 fun z H5 => ∃ kvs k, y = kV k ∧ H5 D = some (.dK kvs) ∧ kvs.length < sizeLine ∧ Nx (upd H5 D (.dK (putK kvs k z))) else Nx H3)
def DPutK (D : Addr) (Nx : Hp → Prop) (y z : V) (H5 : Hp) : Prop := ∃ kvs k, y = kV k ∧ H5 D = some (.dK kvs) ∧ kvs.length < sizeLine ∧ Nx (upd H5 D (.dK (putK kvs k z)))
section
variable {K : PySem.W.Frag} {g : TG} {tt : TT} {tk tv tl : TE} {vs : List Nat} {σ : L2.St} {H : Hp} {Q : VK} {a : Addr} {xs : List V}
theorem z_dcT (h : tl σ H (pDcT K g tt tk tv vs σ Q)) : tDc (iTup K tl) g tt tk tv vs σ H Q := h
/-- one pair a turn, the heap else as it is -/
theorem p_dcT (R : Nat → List (Key × V) → Prop) (ha : H a = some (.tup xs)) (hn : xs.length ≤ 100000) (h0 : R 0 [])
    (hs : ∀ i x kvs H' D Nx, xs[i]? = some x → i < xs.length → Same H H' → R i kvs → kvs.length ≤ i → (∀ n v, R (i + 1) (putK kvs (.inr n) v) → DPutK D Nx (.str n) v H') → g x (wipe σ vs) H' fun σ2 H2 => wipe σ2 vs = wipe σ vs ∧ tt σ2 H2 fun b H3 =>
      if b = true then tk σ2 H3 fun y H4 => tv σ2 H4 fun z H5 => DPutK D Nx y z H5 else Nx H3)
    (hd : ∀ D H' kvs, H D = none → Same H H' → H' D = some (.dK kvs) → R xs.length kvs → Q (.ref D) H') : pDcT K g tt tk tv vs σ Q (.ref a) H := by
  refine ⟨a, rfl, ⟨xs, .inl (.inl ha)⟩, fun D hD => ?_⟩
  refine dc_tup (fun i H' => Same H H' ∧ ∃ kvs, H' D = some (.dK kvs) ∧ kvs.length ≤ i ∧ R i kvs) ⟨same_new hD, [], upd_same, Nat.le_refl _, h0⟩ (fun i H' _ p => .inl (.inl (Kx.Same.get p.1 ha))) (fun i x H' hx p => ?_) (fun H' p => ?_)
  · obtain ⟨s, kvs, e, hl, r⟩ := p
    have hi := (List.getElem?_eq_some_iff.mp hx).1
    refine hs i x kvs H' D _ hx hi s r hl fun n v r2 => ⟨kvs, .inr n, rfl, e, Nat.lt_of_le_of_lt hl (Nat.lt_of_lt_of_le hi (Nat.le_trans hn (by decide))), fun b u q => ?_, _, upd_same, ?_, r2⟩
    · rw [upd_ne (ne_of_none q hD)]
      exact s b u q
    · exact Nat.le_trans (length_putK _ _ _) (Nat.add_le_add_right hl 1)
  · obtain ⟨s, kvs, e, hl, r⟩ := p
    exact hd D H' kvs hD s e r
end
def pDNew (Q : VK) (H : Hp) : Prop := ∀ p, H p = none → Q (.ref p) (upd H p (.dK []))
theorem z_dnew {σ : L2.St} {H : Hp} {Q : VK} (h : pDNew Q H) : tDNewK σ H Q := h
theorem p_dnew {H : Hp} {Q : VK} (q : ∀ p H2, H p = none → Same H H2 → H2 p = some (.dK []) → Q (.ref p) H2) : pDNew Q H := fun p hp => q p _ hp (same_new hp) upd_same
/-- a program's object, whole -/
def PgAt (K : PySem.W.Frag) (H : Hp) (g : Addr) (p : Prg) : Prop := GAt K H g p ∧ ∃ (dx : Addr) (fs : List (Str × V)) (t : Addr) (as : List Addr) (st : Addr), H g = some (.ins (aG K) dx fs) ∧ lk fs "own_modes" = some (.int p.total) ∧ lk fs "own_starts" = some (.ref st) ∧ TD H (.ref st) (eModes p.starts) ∧ lk fs "own_procedures" = some (.ref t) ∧ H t = some (.tup (as.map V.ref))
theorem PgAt.nk {K : PySem.W.Frag} {H H' : Hp} {g : Addr} {p : Prg} (s : NK H H') (h : PgAt K H g p) : PgAt K H' g p := by
  obtain ⟨h0, dx, fs, t, as, st, h1, h2, h3, h4, h5, h6⟩ := h
  exact ⟨h0.nk s, dx, fs, t, as, st, s _ _ rfl h1, h2, h3, h4.nk s, h5, s _ _ rfl h6⟩
theorem ProcAt.kb {K : PySem.W.Frag} {H H' : Hp} {a b C dx : Addr} {r : Str × Int × List Mv} (ha : H a = some (.ins C dx [])) (s : KB a H H') (h : ProcAt K H b r) : ProcAt K H' b r := by
  obtain ⟨dx', fs, mv, h1, h2, h3, h4, h5⟩ := h
  refine ⟨dx', fs, mv, s _ _ (ne_of h1 ha fun z => ?_) h1, h2, h3, h4, TD.mono (KB.tk ha s) _ _ h5⟩
  cases z
  cases h2
theorem ProcsAt.kb {K : PySem.W.Frag} {H H' : Hp} {a C dx : Addr} {as : List Addr} {rs : List (Str × Int × List Mv)} (ha : H a = some (.ins C dx [])) (s : KB a H H') (h : ProcsAt K H as rs) : ProcsAt K H' as rs := ⟨h.len, fun i b r e1 e2 => (h.at_ i b r e1 e2).kb ha s⟩
theorem names_at {p : Prg} {i : Nat} {r : Str × Int × List Mv} (h : p.procs[i]? = some r) : p.names[i]? = some r.1 := by
  unfold Prg.names
  rw [List.getElem?_map, h]
  rfl
theorem names_inj {p : Prg} (okp : PrgOk p) {i j : Nat} {r r' : Str × Int × List Mv} (h : p.procs[i]? = some r) (h' : p.procs[j]? = some r') (e : r.1 = r'.1) : i = j := by
  have a := names_at h
  have b := names_at h'
  obtain ⟨l1, e1⟩ := List.getElem?_eq_some_iff.mp a
  obtain ⟨l2, e2⟩ := List.getElem?_eq_some_iff.mp b
  have nd := okp.nd
  rcases Nat.lt_trichotomy i j with z | z | z
  · exact absurd (by rw [e1, e2, e]) (List.pairwise_iff_getElem.mp nd i j l1 l2 z)
  · exact z
  · exact absurd (by rw [e1, e2, e]) (List.pairwise_iff_getElem.mp nd j i l2 l1 z)
theorem lookup_at {p : Prg} {n : Str} {pts : Int} {l : List Mv} (h : p.procs.lookup n = some (pts, l)) : ∃ i : Nat, p.procs[i]? = some (n, pts, l) := by
  revert h
  induction p.procs with
  | nil =>
    intro h
    cases h
  | cons r rs ih =>
    intro h
    obtain ⟨a, b⟩ := r
    rw [List.lookup_cons] at h
    split at h
    · rename_i he
      have he : n = a := eq_of_beq he
      cases h
      subst he
      exact ⟨0, rfl⟩
    · obtain ⟨i, e⟩ := ih h
      exact ⟨i + 1, e⟩
local macro_rules
  | `(tactic| row_cond hp) => `(tactic| first
    | assumption
    | exact upd_same
    | (refine Kx.Same.get (by assumption) ?_; row_cond hp)
    | (refine Kx.SB.get (by assumption) (by assumption) ?_ rfl; row_cond hp)
    | (refine Kx.SB.getL (by assumption) (by assumption) ?_; row_cond hp))
local macro_rules
  | `(tactic| row_cond zs) => `(tactic| first
    | ((with_reducible refine Kx.z_var (v := ?zval) ?zv ?zq); (case zv => rfl))
    | with_reducible refine Kx.z_c ?_
    | with_reducible refine Kx.z_cons ?_
    | with_reducible refine Kx.z_nil ?_
    | with_reducible refine Kx.z_op ?_
    | with_reducible refine Kx.z_cB ?_
    | with_reducible refine Kx.z_call ?_
    | with_reducible refine Kx.z_fld ?_
    | with_reducible refine Kx.z_tup ?_
    | with_reducible refine Kx.z_lst ?_
    | with_reducible refine Kx.z_test ?_
    | with_reducible refine Kx.z_tB ?_
    | with_reducible refine Kx.p_bl ?_
    | with_reducible refine Kx.z_iteT ?_
    | with_reducible refine Kx.z_iteF ?_
    | with_reducible refine Kx.z_seq ?_
    | with_reducible refine Kx.z_ret ?_
    | with_reducible refine Kx.z_set ?_
    | with_reducible refine Kx.z_drop ?_
    | with_reducible refine Kx.z_if ?_
    | with_reducible refine Kx.z_next ?_
    | with_reducible refine Kx.z_and ?_
    | with_reducible refine Kx.z_or ?_
    | with_reducible refine Kx.z_not ?_
    | with_reducible refine Kx.z_andV ?_
    | with_reducible refine Kx.z_orV ?_
    | with_reducible refine Kx.z_notV ?_
    | with_reducible refine Kx.z_ifE ?_
    | with_reducible refine Kx.z_chain ?_
    | with_reducible refine Kx.z_dget ?_
    | with_reducible refine Kx.z_un ?_
    | with_reducible refine Kx.z_asg ?_
    | with_reducible refine Kx.z_retN ?_
    | with_reducible refine Kx.z_iteNT ?_
    | with_reducible refine Kx.z_iteNF ?_
    | with_reducible refine Kx.p_add ?_
    | with_reducible refine Kx.p_sub ?_
    | with_reducible refine Kx.p_lt ?_
    | with_reducible refine Kx.p_le ?_
    | with_reducible refine Kx.p_gt ?_
    | with_reducible refine Kx.p_ge ?_
    | with_reducible refine Kx.p_neg ?_
    | with_reducible refine Kx.p_eqI ?_
    | with_reducible refine Kx.p_eqS ?_
    | with_reducible refine Kx.p_neI ?_
    | with_reducible refine Kx.p_eqNN ?_
    | with_reducible refine Kx.p_isN ?_
    | with_reducible refine Kx.p_isNi ?_
    | with_reducible refine Kx.p_isNr ?_
    | with_reducible refine Kx.p_notN ?_
    | with_reducible refine Kx.p_notNi ?_
    | with_reducible refine Kx.p_notNr ?_
    | with_reducible refine Kx.p_intI ?_
    | with_reducible refine Kx.p_intB ?_
    | with_reducible refine Kx.p_abs ?_
    | with_reducible refine Kx.p_mx2 ?_
    | with_reducible refine Kx.p_mn2 ?_
    | ((with_reducible refine Kx.p_ixT (xs := ?zxs) (v := ?zval) ?zh ?ze ?zq); (case zh => row_cond hp); (case ze => rfl))
    | ((with_reducible refine Kx.p_ixL (xs := ?zxs) (v := ?zval) ?zh ?ze ?zq); (case zh => row_cond hp); (case ze => rfl))
    | ((with_reducible refine Kx.p_lenT (xs := ?zxs) ?zh ?zq); (case zh => row_cond hp))
    | ((with_reducible refine Kx.p_lenL (xs := ?zxs) ?zh ?zq); (case zh => row_cond hp))
    | ((with_reducible refine Kx.p_xT (xs := ?zxs) (v := ?zval) ?zh ?ze ?zq); (case zh => row_cond hp); (case ze => rfl))
    | ((with_reducible refine Kx.p_xL (xs := ?zxs) (v := ?zval) ?zh ?ze ?zq); (case zh => row_cond hp); (case ze => rfl))
    | with_reducible refine Kx.p_qI ?_
    | with_reducible refine Kx.p_qS ?_
    | with_reducible refine Kx.p_qNI ?_
    | with_reducible refine Kx.p_ltI ?_
    | with_reducible refine Kx.q_int_int ?_
    | with_reducible refine Kx.q_int_bool ?_
    | with_reducible refine Kx.q_int_str ?_
    | with_reducible refine Kx.q_int_tuple ?_
    | with_reducible refine Kx.q_bool_int ?_
    | with_reducible refine Kx.q_bool_bool ?_
    | with_reducible refine Kx.q_bool_str ?_
    | with_reducible refine Kx.q_bool_tuple ?_
    | with_reducible refine Kx.q_str_int ?_
    | with_reducible refine Kx.q_str_bool ?_
    | with_reducible refine Kx.q_str_str ?_
    | with_reducible refine Kx.q_str_tuple ?_
    | with_reducible refine Kx.q_NoneType_int ?_
    | with_reducible refine Kx.q_NoneType_bool ?_
    | with_reducible refine Kx.q_NoneType_str ?_
    | with_reducible refine Kx.q_NoneType_tuple ?_
    | ((with_reducible refine Kx.q_tuple_int (xs := ?zxs) ?zh ?zq); (case zh => row_cond hp))
    | ((with_reducible refine Kx.q_tuple_bool (xs := ?zxs) ?zh ?zq); (case zh => row_cond hp))
    | ((with_reducible refine Kx.q_tuple_str (xs := ?zxs) ?zh ?zq); (case zh => row_cond hp))
    | ((with_reducible refine Kx.q_tuple_tuple (xs := ?zxs) ?zh ?zq); (case zh => row_cond hp))
    | ((with_reducible refine Kx.q_list_int (xs := ?zxs) ?zh ?zq); (case zh => row_cond hp))
    | ((with_reducible refine Kx.q_list_bool (xs := ?zxs) ?zh ?zq); (case zh => row_cond hp))
    | ((with_reducible refine Kx.q_list_str (xs := ?zxs) ?zh ?zq); (case zh => row_cond hp))
    | ((with_reducible refine Kx.q_list_tuple (xs := ?zxs) ?zh ?zq); (case zh => row_cond hp))
    | ((with_reducible refine Kx.q_dict_int (kvs := ?zxs) ?zh ?zq); (case zh => row_cond hp))
    | ((with_reducible refine Kx.q_dict_bool (kvs := ?zxs) ?zh ?zq); (case zh => row_cond hp))
    | ((with_reducible refine Kx.q_dict_str (kvs := ?zxs) ?zh ?zq); (case zh => row_cond hp))
    | ((with_reducible refine Kx.q_dict_tuple (kvs := ?zxs) ?zh ?zq); (case zh => row_cond hp))
    | with_reducible refine Kx.z_gn ?_
    | ((with_reducible refine Kx.z_gt2 (x := ?zx) (y := ?zy) ?zh ?zq); (case zh => row_cond hp))
    | ((with_reducible refine Kx.z_gt3 (x := ?zx) (y := ?zy) (z := ?zz) ?zh ?zq); (case zh => row_cond hp))
    | with_reducible refine Kx.z_lcT ?_
    | with_reducible refine Kx.z_lcL ?_
    | with_reducible refine Kx.z_lcS ?_
    | with_reducible refine Kx.z_lcR ?_
    | with_reducible refine Kx.z_lcZ ?_
    | with_reducible refine Kx.z_yes ?_
    | ((with_reducible refine Kx.z_wip ?zh ?zq); (case zh => rfl))
    | ((with_reducible refine Kx.z_LK ?zh ?zq); (case zh => rfl))
    | with_reducible refine Kx.z_lc2T ?_
    | with_reducible refine Kx.z_lc2L ?_
    | with_reducible refine Kx.z_inT ?_
    | with_reducible refine Kx.z_inL ?_
    | ((with_reducible refine Kx.z_LK2 ?zh ?zq); (case zh => rfl))
    | with_reducible refine Kx.z_sl ?_
    | with_reducible refine Kx.z_nop ?_
    | with_reducible refine Kx.z_part ?_
    | with_reducible refine Kx.z_exi ?_
    | with_reducible refine Kx.p_isNb ?_
    | with_reducible refine Kx.p_isNs ?_
    | with_reducible refine Kx.z_match ?_
    | ((with_reducible refine Kx.z_caseT (y := ?zy) (xs := ?zxs) ?zh ?zl ?zf ?zq); (case zh => row_cond hp); (case zl => rfl); (case zf => rfl))
    | ((with_reducible refine Kx.z_caseL (y := ?zy) (xs := ?zxs) ?zh ?zl ?zq); (case zh => row_cond hp); (case zl => (intro z; cases z)))
    | ((with_reducible refine Kx.z_caseF (y := ?zy) (xs := ?zxs) ?zh ?zf ?zq); (case zh => row_cond hp); (case zf => rfl))
    | with_reducible refine Kx.z_mnil ?_
    | with_reducible refine Kx.z_lcE ?_
    | with_reducible refine Kx.z_forT ?_
    | with_reducible refine Kx.z_forL ?_
    | with_reducible refine Kx.z_forR ?_
    | with_reducible refine Kx.z_forC ?_
    | ((with_reducible refine Kx.p_fP (dx := ?zd) (fs := ?zfs) (v := ?zv) (by assumption) ?zh ?zl ?zf ?zq); (case zh => row_cond hp); (case zl => assumption); (case zf => decide +kernel))
    | ((with_reducible refine Kx.p_fG (dx := ?zd) (fs := ?zfs) (v := ?zv) (by assumption) ?zh ?zl ?zf ?zq); (case zh => row_cond hp); (case zl => assumption); (case zf => decide +kernel))
    | ((with_reducible refine Kx.p_fR (dx := ?zd) (fs := ?zfs) (v := ?zv) (by assumption) ?zh ?zl ?zf ?zq); (case zh => row_cond hp); (case zl => assumption); (case zf => decide +kernel))
    | ((with_reducible refine Kx.p_dgetS (kvs := ?zk) (v := ?zv) ?zh ?ze ?zq); (case zh => row_cond hp); (case ze => assumption))
    | with_reducible refine Kx.z_star ?_
    | ((with_reducible refine Kx.p_star (xs := ?zxs) ?zh ?zq); (case zh => row_cond hp))
    | with_reducible refine Kx.z_bm ?_
    | with_reducible refine Kx.p_ip ?_
    | with_reducible refine Kx.z_lss ?_
    | with_reducible refine Kx.z_dcT ?_
    | with_reducible refine Kx.z_sf ?_
    | with_reducible refine Kx.z_dnew ?_
    | with_reducible refine Kx.z_mk ?_
    | with_reducible refine Kx.z_callS ?_
    | with_reducible refine Kx.z_gsub ?_
    | ((with_reducible refine Kx.p_setL (xs := ?zxs) (k := ?zk) ?zh ?ze ?zq); (case zh => row_cond hp); (case ze => rfl))
    | ((with_reducible refine Kx.p_modP ?zh ?zq); (case zh => first | assumption | decide +kernel))
    | ((with_reducible refine Kx.p_mulR ?zh ?zq); (case zh => first | assumption | decide +kernel))
    | ((with_reducible refine Kx.p_mulL ?zh ?zq); (case zh => first | assumption | decide +kernel))
    | ((with_reducible refine Kx.p_powS ?zh ?zq); (case zh => first | assumption | decide +kernel))
    | ((with_reducible refine Kx.p_powW ?zh ?zq); (case zh => first | assumption | decide +kernel))
    | ((with_reducible refine Kx.p_fdvS ?zh ?zq); (case zh => first | assumption | decide +kernel))
    | with_reducible refine Kx.z_par ?_
    | with_reducible refine Kx.p_par ?_
    | with_reducible refine Kx.z_par3 ?_
    | with_reducible refine Kx.p_par3 ?_
    | ((with_reducible refine Kx.z_gl3 (x := ?zx) (y := ?zy) (z := ?zz) ?zh ?zq); (case zh => row_cond hp))
    | ((with_reducible refine Kx.z_gtG2 (x := ?zx) (y := ?zy) ?zh ?zq); (case zh => row_cond hp))
    | with_reducible refine Kx.z_cm ?_
    | with_reducible refine Kx.p_cm ?_
    | with_reducible refine Kx.z_prs ?_
    | with_reducible refine Kx.z_prn ?_
    | dsimp only)
local macro_rules
  | `(tactic| row_cond zz) => `(tactic| repeat (row_cond zs))

section
variable {P : Program} {w : World} {K : PySem.W.Frag} {mg : Str → Option Value} {base : Heap}
def spGI (K : PySem.W.Frag) : Sp := fun vs H Q _ => ∃ a dx st pr as p, vs = [.ref a, .int p.total, .ref st, .ref pr] ∧ PrgOk p ∧ H a = some (.ins (aG K) dx []) ∧ TD H (.ref st) (eModes p.starts) ∧ H pr = some (.tup (as.map V.ref)) ∧ ProcsAt K H as p.procs ∧
  ∀ H', KB a H H' → PgAt K H' a p → Q .non H'
theorem sc_Program___init__ : FnScope ["self", "modes", "starts", "procedures", "one"] ["self", "modes", "starts", "procedures"] (defScope (inClass (Kx.top 34) 0)) := ⟨rfl, rfl, rfl, by decide +kernel, rfl, by decide +kernel, by decide +kernel⟩
theorem f_Program_init (T : Txt K mg) : FnR P w K mg base C8.CX0 6 (He.ma K (aG K) "__init__") (fun vs H Q E => ∃ ws rest, vs = ws ++ rest ∧ ws.length = 3 ∧ rest.length ≤ sizeLine ∧ ∀ p, H p = Option.none → spGI K (ws ++ [V.ref p]) (upd H p (.tup rest)) Q E) := by
  obtain ⟨fd, F⟩ := T.cG.fi
  obtain ⟨oc, od, kV, doc, pm, an, cdv, ct, osl, rfl, hlk, hcd⟩ := F.ex
  refine StX.fn_star (ps := ["self", "modes", "starts"]) (pv := "procedures") hlk hcd sc_Program___init__ StX.cxUp_none (fun us rest hl => match us, rest, hl with | [_, _, _], [], _ => rfl | [_, _, _], _ :: _, _ => rfl) (fun A outer s H vs Q E hr h => ?_)
  obtain ⟨a, dx, st, pr, as, p, rfl, okp, ha, tst, hpr, hps, hq⟩ := h
  suffices h : ∃ t, PSs (cxOf C8.CX0 P w K mg base _ _ _ _ cdv A outer s H E).nox _ t ∧ t { nx := fun _ H' => Q .non H', rt := Q } (start _ _) H by
    obtain ⟨t, h1, h2⟩ := h
    exact ⟨t, h1.nox, h2⟩
  refine ⟨_, (pss_cons (ps_if (PW.pt (pw_or (pt_not (pt_val (C8.pe_c (c_is_integer T) hr (by decide) rfl (pa_cons (pv 1) pa_nil)))) (pw_or (pt_not (pt_chain o_lt o_le pe_int (pv 1) (C8.pe_gc rfl T.mm))) (pw_or1 (pt_not (pt_val (C8.pe_c (c_is_mode_set T) hr (by decide) rfl (pa_cons (pv 2) (pa_cons (pv 1) pa_nil))))))))) (pss_one ps_never) pss_nil)
      (pss_cons (ps_if (pt_not (pt_val (C8.pe_c (c_are_procedures T) hr (by decide) rfl (pa_cons (pv 3) (pa_cons (pv 1) pa_nil))))) (pss_one ps_never) pss_nil)
      (pss_cons (k_sfld (K := K) rfl (pv 0) (pv 1) rfl)
      (pss_cons (k_sfld (K := K) rfl (pv 0) (pv 2) rfl)
      (pss_cons (k_sfld (K := K) rfl (pv 0) (pv 3) rfl)
      (pss_cons (k_sfld (K := K) rfl (pv 0) (pe_dc rfl sc_Program___init__.nd (k_tup (K := K) rfl (pv 3)) (blkOk_by (own := [(("one" : Str), 4)]) (by kernel_rfl)) (fun _ _ _ _ _ => (pg_name (i := 4) sc_Program___init__.nd rfl (.inl rfl) (.inr rfl))) (fun _ _ _ _ _ => pts_nil) (fun _ _ _ _ _ => (k_fld (K := K) rfl (pv 4) rfl)) (fun _ _ _ _ _ => (pv 4))) rfl)
      (pss_cons (k_sfld (K := K) rfl (pv 0) (k_fld (K := K) rfl (k_ix (K := K) rfl (pv 3) pe_int (fun _ _ => rfl)) rfl) rfl)
      (pss_one (k_sfld (K := K) rfl (pv 0) pe_dnewK rfl))))))))), ?_⟩
  have htot := okp.tot
  have hal := hps.len
  have hpl := okp.len
  obtain ⟨sb, e0, hst⟩ := td_ints tst
  cases e0
  row_cond zz
  refine ⟨.int p.total, "int", rfl, .int _, ?_⟩
  rw [isInt_small (by omega) (by omega)]
  row_cond zz
  refine z_iteD htot.1 ?_
  row_cond zz
  rw [decide_eq_true htot.2]
  row_cond zz
  refine ⟨st, p.starts, p.total, rfl, Int.le_trans htot.2 (by decide), hst, Nat.le_trans (modes_len okp.sts htot.2) (by decide), okp.sts, fun H1 s1 => ?_⟩
  row_cond zz
  refine ⟨pr, as, p, rfl, okp, Kx.Same.get s1 hpr, hps.nk (Kx.Same.nk s1), fun H2 s2 => ?_⟩
  have ha2 := Kx.Same.get (s1.trans s2) ha
  have hpr2 := Kx.Same.get (s1.trans s2) hpr
  have hps2 := hps.nk (Kx.Same.nk (s1.trans s2))
  row_cond zz
  refine p_sfG T ha2 (by decide +kernel) (by decide) fun H3 s3 e3 => ?_
  row_cond zz
  refine p_sfG T e3 (by decide +kernel) (Nat.le_of_ble_eq_true rfl) fun H4 s4 e4 => ?_
  row_cond zz
  refine p_sfG T e4 (by decide +kernel) (Nat.le_of_ble_eq_true rfl) fun H5 s5 e5 => ?_
  have s25 : KB a H2 H5 := s3.trans (s4.trans s5)
  have hpr5 : H5 pr = some (.tup (as.map V.ref)) := KB.tk ha2 s25 _ _ hpr2
  have hps5 := hps2.kb ha2 s25
  have hml : (as.map V.ref).length = as.length := List.length_map ..
  row_cond zz
  refine p_dcT (fun i kvs => ∀ (j : Nat) b r, j < i → as[j]? = some b → p.procs[j]? = some r → valV kvs (.inr r.1) = some (.ref b)) hpr5 (by omega) (fun j b r h => absurd h (Nat.not_lt_zero _)) (fun i x kvs H6 D Nx hx hi s6 R6 hk put => ?_) (fun tb H6 kvs htb s6 e6 R6 => ?_)
  · obtain ⟨b, r, rfl, hb, hr2, hpa⟩ := (hps5.nk (Kx.Same.nk s6)).get hx
    obtain ⟨dx', fs', mv', h1, h2, _⟩ := hpa
    row_cond zz
    refine put _ _ fun j b' r' hj hb' hr' => ?_
    rw [valV_put]
    by_cases hji : j = i
    · subst hji
      rw [hb] at hb'
      rw [hr2] at hr'
      cases hb'
      cases hr'
      rw [if_pos rfl]
    · rw [if_neg fun z => hji (names_inj okp hr' hr2 (by injection z))]
      exact R6 j b' r' (by omega) hb' hr'
  row_cond zz
  refine p_sfG T (Kx.Same.get s6 e5) (by decide +kernel) (Nat.le_of_ble_eq_true rfl) fun H7 s7 e7 => ?_
  have s27 : KB a H2 H7 := s25.trans ((KB.of_same s6).trans s7)
  have hpr7 : H7 pr = some (.tup (as.map V.ref)) := KB.tk ha2 s27 _ _ hpr2
  have hps7 := hps2.kb ha2 s27
  obtain ⟨r0, hr0⟩ : ∃ r, p.procs[0]? = some r := ⟨_, List.getElem?_eq_getElem (List.length_pos_iff.mpr okp.ne)⟩
  obtain ⟨b0, hb0⟩ : ∃ b, as[0]? = some b := ⟨_, List.getElem?_eq_getElem (by rw [hal]; exact List.length_pos_iff.mpr okp.ne)⟩
  have hv0 : atI (as.map V.ref) 0 = some (.ref b0) := atI_nat (j := 0) (by rw [List.getElem?_map, hb0]; rfl)
  obtain ⟨dx', fs', mv', h1, h2, _⟩ := hps7.at_ 0 b0 r0 hb0 hr0
  row_cond zz
  refine p_xT hpr7 hv0 ?_
  row_cond zz
  refine p_sfG T e7 (by decide +kernel) (Nat.le_of_ble_eq_true rfl) fun H8 s8 e8 => ?_
  row_cond zz
  refine p_dnew fun kp H9 hkp s9 e9 => ?_
  row_cond zz
  refine p_sfG T (Kx.Same.get s9 e8) (by decide +kernel) (Nat.le_of_ble_eq_true rfl) fun HA sA eA => ?_
  have s2A : KB a H2 HA := s27.trans (s8.trans ((KB.of_same s9).trans sA))
  have hpsA := hps2.kb ha2 s2A
  have htbA : HA tb = some (.dK kvs) := by
    have h7 : H7 tb = some (.dK kvs) := s7 _ _ (ne_of e6 (Kx.Same.get s6 e5) (by intro z; cases z)) e6
    have h8 : H8 tb = some (.dK kvs) := s8 _ _ (ne_of h7 e7 (by intro z; cases z)) h7
    have h9 := Kx.Same.get s9 h8
    exact sA _ _ (ne_of h9 (Kx.Same.get s9 e8) (by intro z; cases z)) h9
  have tstA : TD HA (.ref st) (eModes p.starts) := TD.mono (KB.tk ha2 s2A) _ _ (tst.sm (s1.trans s2))
  have hmain : p.main = r0.1 := by
    unfold Prg.main
    cases hpp : p.procs with
    | nil => exact absurd hpp okp.ne
    | cons q qs =>
      rw [hpp] at hr0
      cases hr0
      rfl
  refine hq HA ((KB.of_same (s1.trans s2)).trans s2A) ⟨⟨dx, _, tb, kvs, eA, rfl, htbA, by rw [hmain]; rfl, ⟨_, rfl, tstA⟩, fun n pts l hl => ?_⟩, dx, _, pr, as, st, eA, rfl, rfl, tstA, rfl, KB.tk ha2 s2A _ _ hpr2⟩
  obtain ⟨j, hj⟩ := lookup_at hl
  have hjl := (List.getElem?_eq_some_iff.mp hj).1
  obtain ⟨b, hb⟩ : ∃ b, as[j]? = some b := ⟨_, List.getElem?_eq_getElem (by omega)⟩
  obtain ⟨da, fa, mv, q1, q2, q3, q4, q5⟩ := hpsA.at_ j b _ hb hj
  exact ⟨b, da, fa, _, R6 j b _ (by omega) hb hj, q1, q4, q5⟩
/-! ### Program.of -/
def spGOf (K : PySem.W.Frag) : Sp := fun vs H Q _ => ∃ st pr as p, vs = [.ref (aG K), .int p.total, .ref st, .ref pr] ∧ PrgOk p ∧ TD H (.ref st) (eModes p.starts) ∧ H pr = some (.tup (as.map V.ref)) ∧ ProcsAt K H as p.procs ∧ ∀ H' a, Same H H' → PgAt K H' a p → Q (.ref a) H'
theorem sc_Program_of : FnScope ["cls", "modes", "starts", "procedures"] ["cls", "modes", "starts", "procedures"] (defScope (inClass (Kx.top 34) 1)) := ⟨rfl, rfl, rfl, by decide +kernel, rfl, by decide +kernel, by decide +kernel⟩
theorem f_Program_of (T : Txt K mg) : FnR P w K mg base C8.CX0 8 (He5.wf K (aG K) "classmethod" "of") (spGOf K) := by
  obtain ⟨fd, F⟩ := T.cG.fo
  have b := F.binds (ps := ["cls", "modes", "starts", "procedures"]) (fun _ _ _ _ _ _ us hl => match us, hl with | [_, _, _, _], _ => rfl)
  have F1 : FnOk P w K mg base C8.CX0 8 (He5.wf K (aG K) "classmethod" "of") fd ["cls", "modes", "starts", "procedures"] (spGOf K) := by
    refine F.ok sc_Program_of (fun vs H Q E h => ?_) (fun cdv A outer s H vs Q E hr h => ?_)
    · obtain ⟨st, pr, as, p, rfl, _⟩ := h
      rfl
    · obtain ⟨st, pr, as, p, rfl, okp, tst, hpr, hps, hq⟩ := h
      have hal := hps.len
      have hpl := okp.len
      refine ⟨_, (pss_cons (ps_if (pt_not (pt_val (pe_callB c_isB rfl (T.b "isinstance") boot_isinstance (pa_cons (pv 3) (pa_cons (pe_bltn rfl (T.b "tuple") boot_tuple (v := .ty "tuple") rfl) pa_nil))))) (pss_one ps_never) pss_nil)
      (pss_one (ps_ret (pe_makeVS (i := 0) T.cG.maker (f_Program_init T) (hr.mono (by decide)) pass0 rfl (.inl rfl) (pa_cons (pv 1) (pa_cons (pv 2) (k_star (K := K) rfl (pv 3) pa_nil))))))), ?_⟩
      row_cond zz
      refine ⟨rfl, ?_⟩
      row_cond zz
      refine p_mk fun x dx H1 hx s1 ex => ⟨[.ref x, .int p.total, .ref st], as.map V.ref ++ [], rfl, rfl, by rw [List.append_nil, List.length_map]; exact Nat.le_trans (show as.length ≤ 6 by omega) (by decide), fun q hq2 => ?_⟩
      have s2 : Same H1 (upd H1 q (.tup (as.map V.ref ++ []))) := same_new hq2
      refine ⟨x, dx, st, q, as, p, rfl, okp, Kx.Same.get s2 ex, tst.sm (s1.trans s2), ?_, hps.nk (Kx.Same.nk (s1.trans s2)), fun H3 k3 hpa => ⟨rfl, ?_⟩⟩
      · rw [upd_same, List.append_nil]
      · exact hq H3 x (KB.same (s1.trans s2) hx k3) hpa
  have F2 := F1.raw b .nil
  refine F2.imp fun vs H Q E h => ?_
  rw [List.append_nil]
  exact h
end
end Kx

/- part K12 -/
/-! # K12: runs -/
namespace Kx
open PySem PySem.Spec PyProof.Rows L2
/-- a run's object, its list of situations apart -/
def RunAt (K : PySem.W.Frag) (H : Hp) (r g : Addr) (lim : Option Int) (m : Int) (cs : List Int) (si : Addr) (k : Nat) : Prop := ∃ (dx : Addr) (fs : List (Str × V)) (ch : Addr), H r = some (.ins (aR K) dx fs) ∧ lk fs "own_program" = some (.ref g) ∧ lk fs "own_bound" = some (vO lim) ∧ lk fs "own_start" = some (.int m) ∧
  lk fs "own_choices" = some (.ref ch) ∧ lk fs "own_situations" = some (.ref si) ∧ lk fs "own_refused" = some (.int (k : Nat)) ∧ H ch = some (.tup (cs.map V.int)) ∧ lk fs "at" = none
theorem RunAt.nk {K : PySem.W.Frag} {H H' : Hp} {r g : Addr} {lim : Option Int} {m : Int} {cs : List Int} {si : Addr} {k : Nat} (s : NK H H') (h : RunAt K H r g lim m cs si k) : RunAt K H' r g lim m cs si k := by
  obtain ⟨dx, fs, ch, h1, h2, h3, h4, h5, h6, h7, h8, h9⟩ := h
  exact ⟨dx, fs, ch, s _ _ rfl h1, h2, h3, h4, h5, h6, h7, s _ _ rfl h8, h9⟩
/-- a list of situations -/
def SitL (H : Hp) (si : Addr) (l : List Sit) : Prop := ∃ ys, H si = some (.lst ys) ∧ TDs H ys (l.map eSit)
theorem SitL.sm {H H' : Hp} {si : Addr} {l : List Sit} (s : Same H H') (h : SitL H si l) : SitL H' si l := by
  obtain ⟨ys, h1, h2⟩ := h
  exact ⟨ys, s _ _ h1, h2.sm s⟩
def limOk (lim : Option Int) : Prop := isLim (vO lim) = true
theorem tyO (H : Hp) (lim : Option Int) : ∃ t, TyN H (vO lim) t := by
  cases lim with
  | none => exact ⟨_, .non⟩
  | some k => exact ⟨_, .int k⟩
theorem GAt.kb {K : PySem.W.Frag} {H H' : Hp} {a C dx g : Addr} {p : Prg} (ha : H a = some (.ins C dx [])) (s : KB a H H') (h : GAt K H g p) : GAt K H' g p := by
  obtain ⟨dx', fs, tb, kvs, h1, h2, h3, h4, ⟨st, h5, h6⟩, h7⟩ := h
  refine ⟨dx', fs, tb, kvs, s _ _ (ne_of h1 ha fun z => ?_) h1, h2, s _ _ (ne_of h3 ha (by intro z; cases z)) h3, h4, ⟨st, h5, TD.mono (KB.tk ha s) _ _ h6⟩, fun n pts l e => ?_⟩
  · cases z
    cases h2
  · obtain ⟨b, da, fa, v, q1, q2, q3, q4⟩ := h7 n pts l e
    refine ⟨b, da, fa, v, q1, s _ _ (ne_of q2 ha fun z => ?_) q2, q3, TD.mono (KB.tk ha s) _ _ q4⟩
    cases z
    cases q3
local macro_rules
  | `(tactic| row_cond hp) => `(tactic| first
    | assumption
    | exact upd_same
    | (refine Kx.Same.get (by assumption) ?_; row_cond hp)
    | (refine Kx.SB.get (by assumption) (by assumption) ?_ rfl; row_cond hp)
    | (refine Kx.SB.getL (by assumption) (by assumption) ?_; row_cond hp))
local macro_rules
  | `(tactic| row_cond zs) => `(tactic| first
    | ((with_reducible refine Kx.z_var (v := ?zval) ?zv ?zq); (case zv => rfl))
    | with_reducible refine Kx.z_c ?_
    | with_reducible refine Kx.z_cons ?_
    | with_reducible refine Kx.z_nil ?_
    | with_reducible refine Kx.z_op ?_
    | with_reducible refine Kx.z_cB ?_
    | with_reducible refine Kx.z_call ?_
    | with_reducible refine Kx.z_fld ?_
    | with_reducible refine Kx.z_tup ?_
    | with_reducible refine Kx.z_lst ?_
    | with_reducible refine Kx.z_test ?_
    | with_reducible refine Kx.z_tB ?_
    | with_reducible refine Kx.p_bl ?_
    | with_reducible refine Kx.z_iteT ?_
    | with_reducible refine Kx.z_iteF ?_
    | with_reducible refine Kx.z_seq ?_
    | with_reducible refine Kx.z_ret ?_
    | with_reducible refine Kx.z_set ?_
    | with_reducible refine Kx.z_drop ?_
    | with_reducible refine Kx.z_if ?_
    | with_reducible refine Kx.z_next ?_
    | with_reducible refine Kx.z_and ?_
    | with_reducible refine Kx.z_or ?_
    | with_reducible refine Kx.z_not ?_
    | with_reducible refine Kx.z_andV ?_
    | with_reducible refine Kx.z_orV ?_
    | with_reducible refine Kx.z_notV ?_
    | with_reducible refine Kx.z_ifE ?_
    | with_reducible refine Kx.z_chain ?_
    | with_reducible refine Kx.z_dget ?_
    | with_reducible refine Kx.z_un ?_
    | with_reducible refine Kx.z_asg ?_
    | with_reducible refine Kx.z_retN ?_
    | with_reducible refine Kx.z_iteNT ?_
    | with_reducible refine Kx.z_iteNF ?_
    | with_reducible refine Kx.p_add ?_
    | with_reducible refine Kx.p_sub ?_
    | with_reducible refine Kx.p_lt ?_
    | with_reducible refine Kx.p_le ?_
    | with_reducible refine Kx.p_gt ?_
    | with_reducible refine Kx.p_ge ?_
    | with_reducible refine Kx.p_neg ?_
    | with_reducible refine Kx.p_eqI ?_
    | with_reducible refine Kx.p_eqS ?_
    | with_reducible refine Kx.p_neI ?_
    | with_reducible refine Kx.p_eqNN ?_
    | with_reducible refine Kx.p_isN ?_
    | with_reducible refine Kx.p_isNi ?_
    | with_reducible refine Kx.p_isNr ?_
    | with_reducible refine Kx.p_notN ?_
    | with_reducible refine Kx.p_notNi ?_
    | with_reducible refine Kx.p_notNr ?_
    | with_reducible refine Kx.p_intI ?_
    | with_reducible refine Kx.p_intB ?_
    | with_reducible refine Kx.p_abs ?_
    | with_reducible refine Kx.p_mx2 ?_
    | with_reducible refine Kx.p_mn2 ?_
    | ((with_reducible refine Kx.p_ixT (xs := ?zxs) (v := ?zval) ?zh ?ze ?zq); (case zh => row_cond hp); (case ze => rfl))
    | ((with_reducible refine Kx.p_ixL (xs := ?zxs) (v := ?zval) ?zh ?ze ?zq); (case zh => row_cond hp); (case ze => rfl))
    | ((with_reducible refine Kx.p_lenT (xs := ?zxs) ?zh ?zq); (case zh => row_cond hp))
    | ((with_reducible refine Kx.p_lenL (xs := ?zxs) ?zh ?zq); (case zh => row_cond hp))
    | ((with_reducible refine Kx.p_xT (xs := ?zxs) (v := ?zval) ?zh ?ze ?zq); (case zh => row_cond hp); (case ze => rfl))
    | ((with_reducible refine Kx.p_xL (xs := ?zxs) (v := ?zval) ?zh ?ze ?zq); (case zh => row_cond hp); (case ze => rfl))
    | with_reducible refine Kx.p_qI ?_
    | with_reducible refine Kx.p_qS ?_
    | with_reducible refine Kx.p_qNI ?_
    | with_reducible refine Kx.p_ltI ?_
    | with_reducible refine Kx.q_int_int ?_
    | with_reducible refine Kx.q_int_bool ?_
    | with_reducible refine Kx.q_int_str ?_
    | with_reducible refine Kx.q_int_tuple ?_
    | with_reducible refine Kx.q_bool_int ?_
    | with_reducible refine Kx.q_bool_bool ?_
    | with_reducible refine Kx.q_bool_str ?_
    | with_reducible refine Kx.q_bool_tuple ?_
    | with_reducible refine Kx.q_str_int ?_
    | with_reducible refine Kx.q_str_bool ?_
    | with_reducible refine Kx.q_str_str ?_
    | with_reducible refine Kx.q_str_tuple ?_
    | with_reducible refine Kx.q_NoneType_int ?_
    | with_reducible refine Kx.q_NoneType_bool ?_
    | with_reducible refine Kx.q_NoneType_str ?_
    | with_reducible refine Kx.q_NoneType_tuple ?_
    | ((with_reducible refine Kx.q_tuple_int (xs := ?zxs) ?zh ?zq); (case zh => row_cond hp))
    | ((with_reducible refine Kx.q_tuple_bool (xs := ?zxs) ?zh ?zq); (case zh => row_cond hp))
    | ((with_reducible refine Kx.q_tuple_str (xs := ?zxs) ?zh ?zq); (case zh => row_cond hp))
    | ((with_reducible refine Kx.q_tuple_tuple (xs := ?zxs) ?zh ?zq); (case zh => row_cond hp))
    | ((with_reducible refine Kx.q_list_int (xs := ?zxs) ?zh ?zq); (case zh => row_cond hp))
    | ((with_reducible refine Kx.q_list_bool (xs := ?zxs) ?zh ?zq); (case zh => row_cond hp))
    | ((with_reducible refine Kx.q_list_str (xs := ?zxs) ?zh ?zq); (case zh => row_cond hp))
    | ((with_reducible refine Kx.q_list_tuple (xs := ?zxs) ?zh ?zq); (case zh => row_cond hp))
    | ((with_reducible refine Kx.q_dict_int (kvs := ?zxs) ?zh ?zq); (case zh => row_cond hp))
    | ((with_reducible refine Kx.q_dict_bool (kvs := ?zxs) ?zh ?zq); (case zh => row_cond hp))
    | ((with_reducible refine Kx.q_dict_str (kvs := ?zxs) ?zh ?zq); (case zh => row_cond hp))
    | ((with_reducible refine Kx.q_dict_tuple (kvs := ?zxs) ?zh ?zq); (case zh => row_cond hp))
    | with_reducible refine Kx.z_gn ?_
    | ((with_reducible refine Kx.z_gt2 (x := ?zx) (y := ?zy) ?zh ?zq); (case zh => row_cond hp))
    | ((with_reducible refine Kx.z_gt3 (x := ?zx) (y := ?zy) (z := ?zz) ?zh ?zq); (case zh => row_cond hp))
    | with_reducible refine Kx.z_lcT ?_
    | with_reducible refine Kx.z_lcL ?_
    | with_reducible refine Kx.z_lcS ?_
    | with_reducible refine Kx.z_lcR ?_
    | with_reducible refine Kx.z_lcZ ?_
    | with_reducible refine Kx.z_yes ?_
    | ((with_reducible refine Kx.z_wip ?zh ?zq); (case zh => rfl))
    | ((with_reducible refine Kx.z_LK ?zh ?zq); (case zh => rfl))
    | with_reducible refine Kx.z_lc2T ?_
    | with_reducible refine Kx.z_lc2L ?_
    | with_reducible refine Kx.z_inT ?_
    | with_reducible refine Kx.z_inL ?_
    | ((with_reducible refine Kx.z_LK2 ?zh ?zq); (case zh => rfl))
    | with_reducible refine Kx.z_sl ?_
    | with_reducible refine Kx.z_nop ?_
    | with_reducible refine Kx.z_part ?_
    | with_reducible refine Kx.z_exi ?_
    | with_reducible refine Kx.p_isNb ?_
    | with_reducible refine Kx.p_isNs ?_
    | with_reducible refine Kx.z_match ?_
    | ((with_reducible refine Kx.z_caseT (y := ?zy) (xs := ?zxs) ?zh ?zl ?zf ?zq); (case zh => row_cond hp); (case zl => rfl); (case zf => rfl))
    | ((with_reducible refine Kx.z_caseL (y := ?zy) (xs := ?zxs) ?zh ?zl ?zq); (case zh => row_cond hp); (case zl => (intro z; cases z)))
    | ((with_reducible refine Kx.z_caseF (y := ?zy) (xs := ?zxs) ?zh ?zf ?zq); (case zh => row_cond hp); (case zf => rfl))
    | with_reducible refine Kx.z_mnil ?_
    | with_reducible refine Kx.z_lcE ?_
    | with_reducible refine Kx.z_forT ?_
    | with_reducible refine Kx.z_forL ?_
    | with_reducible refine Kx.z_forR ?_
    | with_reducible refine Kx.z_forC ?_
    | ((with_reducible refine Kx.p_fP (dx := ?zd) (fs := ?zfs) (v := ?zv) (by assumption) ?zh ?zl ?zf ?zq); (case zh => row_cond hp); (case zl => assumption); (case zf => decide +kernel))
    | ((with_reducible refine Kx.p_fG (dx := ?zd) (fs := ?zfs) (v := ?zv) (by assumption) ?zh ?zl ?zf ?zq); (case zh => row_cond hp); (case zl => assumption); (case zf => decide +kernel))
    | ((with_reducible refine Kx.p_fR (dx := ?zd) (fs := ?zfs) (v := ?zv) (by assumption) ?zh ?zl ?zf ?zq); (case zh => row_cond hp); (case zl => assumption); (case zf => decide +kernel))
    | ((with_reducible refine Kx.p_dgetS (kvs := ?zk) (v := ?zv) ?zh ?ze ?zq); (case zh => row_cond hp); (case ze => assumption))
    | with_reducible refine Kx.z_star ?_
    | ((with_reducible refine Kx.p_star (xs := ?zxs) ?zh ?zq); (case zh => row_cond hp))
    | with_reducible refine Kx.z_bm ?_
    | with_reducible refine Kx.p_ip ?_
    | with_reducible refine Kx.z_lss ?_
    | with_reducible refine Kx.z_dcT ?_
    | with_reducible refine Kx.z_sf ?_
    | with_reducible refine Kx.z_dnew ?_
    | with_reducible refine Kx.z_mk ?_
    | with_reducible refine Kx.z_callS ?_
    | with_reducible refine Kx.z_gsub ?_
    | ((with_reducible refine Kx.p_setL (xs := ?zxs) (k := ?zk) ?zh ?ze ?zq); (case zh => row_cond hp); (case ze => rfl))
    | ((with_reducible refine Kx.p_modP ?zh ?zq); (case zh => first | assumption | decide +kernel))
    | ((with_reducible refine Kx.p_mulR ?zh ?zq); (case zh => first | assumption | decide +kernel))
    | ((with_reducible refine Kx.p_mulL ?zh ?zq); (case zh => first | assumption | decide +kernel))
    | ((with_reducible refine Kx.p_powS ?zh ?zq); (case zh => first | assumption | decide +kernel))
    | ((with_reducible refine Kx.p_powW ?zh ?zq); (case zh => first | assumption | decide +kernel))
    | ((with_reducible refine Kx.p_fdvS ?zh ?zq); (case zh => first | assumption | decide +kernel))
    | with_reducible refine Kx.z_par ?_
    | with_reducible refine Kx.p_par ?_
    | with_reducible refine Kx.z_par3 ?_
    | with_reducible refine Kx.p_par3 ?_
    | ((with_reducible refine Kx.z_gl3 (x := ?zx) (y := ?zy) (z := ?zz) ?zh ?zq); (case zh => row_cond hp))
    | ((with_reducible refine Kx.z_gtG2 (x := ?zx) (y := ?zy) ?zh ?zq); (case zh => row_cond hp))
    | with_reducible refine Kx.z_cm ?_
    | with_reducible refine Kx.p_cm ?_
    | with_reducible refine Kx.z_prs ?_
    | with_reducible refine Kx.z_prn ?_
    | dsimp only)
local macro_rules
  | `(tactic| row_cond zz) => `(tactic| repeat (row_cond zs))

section
variable {P : Program} {w : World} {K : PySem.W.Frag} {mg : Str → Option Value} {base : Heap}
theorem spReqPrg_of {H : Hp} {g : Addr} {p : Prg} {Q : VK} {E : XK} (h : GAt K H g p) (q : Q .non H) : spReqPrg K [.ref g] H Q E := by
  obtain ⟨dx, fs, _, _, h1, _⟩ := h
  exact ⟨g, dx, fs, rfl, h1, q⟩
theorem spReqLim_of {H : Hp} {lim : Option Int} {Q : VK} {E : XK} (h : limOk lim) (q : Q .non H) : spReqLim [vO lim] H Q E := by
  obtain ⟨t, ht⟩ := tyO H lim
  exact ⟨_, t, rfl, ht, h, q⟩
def spRI (K : PySem.W.Frag) : Sp := fun vs H Q _ => ∃ a dx g lim m ch cs p l k, vs = [.ref a, .ref g, vO lim, .int m, .ref ch] ∧ PrgOk p ∧ GAt K H g p ∧ H a = some (.ins (aR K) dx []) ∧ H ch = some (.tup (cs.map V.int)) ∧ cs.length ≤ 800 ∧ m ∈ p.starts ∧ limOk lim ∧ wentF p lim m cs = some (l, k) ∧
  ∀ H' si, KB a H H' → RunAt K H' a g lim m cs si k → SitL H' si l → Q .non H'
theorem sc_Run___init__ : FnScope ["self", "program", "limit", "start", "choices", "found"] ["self", "program", "limit", "start", "choices"] (defScope (inClass (Kx.top 50) 0)) := ⟨rfl, rfl, rfl, by decide +kernel, rfl, by decide +kernel, by decide +kernel⟩
theorem f_Run_init (T : Txt K mg) : FnR P w K mg base C8.CX0 6 (He.ma K (aR K) "__init__") (fun vs H Q E => ∃ ws rest, vs = ws ++ rest ∧ ws.length = 4 ∧ rest.length ≤ sizeLine ∧ ∀ p, H p = Option.none → spRI K (ws ++ [V.ref p]) (upd H p (.tup rest)) Q E) := by
  obtain ⟨fd, F⟩ := T.cR.fi
  obtain ⟨oc, od, kV, doc, pm, an, cdv, ct, osl, rfl, hlk, hcd⟩ := F.ex
  refine StX.fn_star (ps := ["self", "program", "limit", "start"]) (pv := "choices") hlk hcd sc_Run___init__ StX.cxUp_none (fun us rest hl => match us, rest, hl with | [_, _, _, _], [], _ => rfl | [_, _, _, _], _ :: _, _ => rfl) (fun A outer s H vs Q E hr h => ?_)
  obtain ⟨a, dx, g, lim, m, ch, cs, p, l, k, rfl, okp, hg, ha, hch, hcl, hm, hlim, hw, hq⟩ := h
  suffices h : ∃ t, PSs (cxOf C8.CX0 P w K mg base _ _ _ _ cdv A outer s H E).nox _ t ∧ t { nx := fun _ H' => Q .non H', rt := Q } (start _ _) H by
    obtain ⟨t, h1, h2⟩ := h
    exact ⟨t, h1.nox, h2⟩
  refine ⟨_, (pss_cons (ps_expr (C8.pe_c (c_require_program T) hr (by decide) rfl (pa_cons (pv 1) pa_nil)))
      (pss_cons (ps_expr (C8.pe_c (c_require_limit T) hr (by decide) rfl (pa_cons (pv 2) pa_nil)))
      (pss_cons (ps_if (PW.pt (pw_or (pt_not (pt_val (C8.pe_c (c_is_integer T) hr (by decide) rfl (pa_cons (pv 3) pa_nil)))) (pw_or1 (pt_cmpR (k_niA (K := K) rfl) (pv 3) (k_fld (K := K) rfl (pv 1) rfl) (by with_unfolding_all rfl))))) (pss_one ps_never) pss_nil)
      (pss_cons (ps_set (i := 5) sc_Run___init__.nd rfl (.inl rfl) (C8.pe_c (c_went T) hr (by decide) rfl (pa_cons (pv 1) (pa_cons (pv 2) (pa_cons (pv 3) (pa_cons (pv 4) pa_nil))))))
      (pss_cons (ps_if (pt_cmpR o_isN (pv 5) pe_non (nomark _)) (pss_one ps_never) pss_nil)
      (pss_cons (ps_if (pt_cmpR o_gt (pe_callB (k_len (K := K) rfl) rfl (T.b "len") boot_len (pa_cons (pv 4) pa_nil)) (C8.pe_gc rfl T.ms) (nomark _)) (pss_one ps_never) pss_nil)
      (pss_cons (k_sfld (K := K) rfl (pv 0) (pv 1) rfl)
      (pss_cons (k_sfld (K := K) rfl (pv 0) (pv 2) rfl)
      (pss_cons (k_sfld (K := K) rfl (pv 0) (pv 3) rfl)
      (pss_cons (k_sfld (K := K) rfl (pv 0) (pv 4) rfl)
      (pss_cons (k_sfld (K := K) rfl (pv 0) (k_ix (K := K) rfl (pv 5) pe_int (fun _ _ => rfl)) rfl)
      (pss_one (k_sfld (K := K) rfl (pv 0) (k_ix (K := K) rfl (pv 5) pe_int (fun _ _ => rfl)) rfl))))))))))))), ?_⟩
  have hm2 := okp.sts.2.2 m hm
  have htot := okp.tot
  obtain ⟨dx', fs', tb, kvs, h1, h2, h3, h4, ⟨st, h5, h6⟩, h7⟩ := id hg
  obtain ⟨sb, rfl, hst⟩ := td_ints h6
  row_cond zz
  refine spReqPrg_of hg ?_
  row_cond zz
  refine spReqLim_of hlim ?_
  row_cond zz
  refine ⟨.int m, "int", rfl, .int _, ?_⟩
  rw [isInt_small (by omega) (by omega)]
  row_cond zz
  refine p_niT hst rfl (flat_ints _) ?_
  rw [inV_ints, List.contains_iff_mem.mpr hm]
  row_cond zz
  refine ⟨g, p, lim, m, ch, cs, rfl, okp, hg, hch, hcl, fun z => ?_, fun l' k' hw' H1 r si ys s1 hsi er esi tys => ?_⟩
  · rw [hw] at z
    cases z
  rw [hw] at hw'
  cases hw'
  have ha1 := Kx.Same.get s1 ha
  row_cond zz
  refine z_iteDF (by rw [List.length_map]; omega) ?_
  row_cond zz
  refine p_sfR T ha1 (by decide +kernel) (by decide) fun H3 s3 e3 => ?_
  row_cond zz
  refine p_sfR T e3 (by decide +kernel) (Nat.le_of_ble_eq_true rfl) fun H4 s4 e4 => ?_
  row_cond zz
  refine p_sfR T e4 (by decide +kernel) (Nat.le_of_ble_eq_true rfl) fun H5 s5 e5 => ?_
  row_cond zz
  refine p_sfR T e5 (by decide +kernel) (Nat.le_of_ble_eq_true rfl) fun H6 s6 e6 => ?_
  have s16 : KB a H1 H6 := s3.trans (s4.trans (s5.trans s6))
  have er6 := KB.tk ha1 s16 _ _ er
  row_cond zz
  refine p_sfR T e6 (by decide +kernel) (Nat.le_of_ble_eq_true rfl) fun H7 s7 e7 => ?_
  have er7 := KB.tk ha1 (s16.trans s7) _ _ er
  row_cond zz
  refine p_sfR T e7 (by decide +kernel) (Nat.le_of_ble_eq_true rfl) fun H8 s8 e8 => ?_
  have s18 : KB a H1 H8 := s16.trans (s7.trans s8)
  refine hq H8 si ((KB.of_same s1).trans s18) ⟨dx, _, ch, e8, rfl, rfl, rfl, rfl, rfl, rfl, KB.tk ha1 s18 _ _ (Kx.Same.get s1 hch), rfl⟩ ⟨ys, s18 _ _ (ne_of esi ha1 (by intro z; cases z)) esi, TDs.mono (KB.tk ha1 s18) _ _ tys⟩
/-! ### Run.of -/
def spROf (K : PySem.W.Frag) : Sp := fun vs H Q _ => ∃ g lim m ch cs p l k, vs = [.ref (aR K), .ref g, vO lim, .int m, .ref ch] ∧ PrgOk p ∧ GAt K H g p ∧ H ch = some (.tup (cs.map V.int)) ∧ cs.length ≤ 800 ∧ m ∈ p.starts ∧ limOk lim ∧ wentF p lim m cs = some (l, k) ∧
  ∀ H' a si, Same H H' → RunAt K H' a g lim m cs si k → SitL H' si l → Q (.ref a) H'
theorem sc_Run_of : FnScope ["cls", "program", "limit", "start", "choices"] ["cls", "program", "limit", "start", "choices"] (defScope (inClass (Kx.top 50) 1)) := ⟨rfl, rfl, rfl, by decide +kernel, rfl, by decide +kernel, by decide +kernel⟩
theorem f_Run_of (T : Txt K mg) : FnR P w K mg base C8.CX0 8 (He5.wf K (aR K) "classmethod" "of") (spROf K) := by
  obtain ⟨fd, F⟩ := T.cR.fo
  have b := F.binds (ps := ["cls", "program", "limit", "start", "choices"]) (fun _ _ _ _ _ _ us hl => match us, hl with | [_, _, _, _, _], _ => rfl)
  have F1 : FnOk P w K mg base C8.CX0 8 (He5.wf K (aR K) "classmethod" "of") fd ["cls", "program", "limit", "start", "choices"] (spROf K) := by
    refine F.ok sc_Run_of (fun vs H Q E h => ?_) (fun cdv A outer s H vs Q E hr h => ?_)
    · obtain ⟨g, lim, m, ch, cs, p, l, k, rfl, _⟩ := h
      rfl
    · obtain ⟨g, lim, m, ch, cs, p, l, k, rfl, okp, hg, hch, hcl, hm, hlim, hw, hq⟩ := h
      refine ⟨_, (pss_cons (ps_expr (C8.pe_c (c_require_program T) hr (by decide) rfl (pa_cons (pv 1) pa_nil)))
      (pss_cons (ps_expr (C8.pe_c (c_require_limit T) hr (by decide) rfl (pa_cons (pv 2) pa_nil)))
      (pss_cons (ps_if (pt_not (pt_val (pe_callB c_isB rfl (T.b "isinstance") boot_isinstance (pa_cons (pv 4) (pa_cons (pe_bltn rfl (T.b "tuple") boot_tuple (v := .ty "tuple") rfl) pa_nil))))) (pss_one ps_never) pss_nil)
      (pss_one (ps_ret (pe_makeVS (i := 0) T.cR.maker (f_Run_init T) (hr.mono (by decide)) pass0 rfl (.inl rfl) (pa_cons (pv 1) (pa_cons (pv 2) (pa_cons (pv 3) (k_star (K := K) rfl (pv 4) pa_nil)))))))))), ?_⟩
      row_cond zz
      refine spReqPrg_of hg ?_
      row_cond zz
      refine spReqLim_of hlim ?_
      row_cond zz
      refine ⟨rfl, ?_⟩
      row_cond zz
      refine p_mk fun x dx H1 hx s1 ex => ⟨[.ref x, .ref g, vO lim, .int m], cs.map V.int ++ [], rfl, rfl, by rw [List.append_nil, List.length_map]; exact Nat.le_trans hcl (by decide), fun q hq2 => ?_⟩
      have s2 : Same H1 (upd H1 q (.tup (cs.map V.int ++ []))) := same_new hq2
      refine ⟨x, dx, g, lim, m, q, cs, p, l, k, rfl, okp, hg.sm (s1.trans s2), Kx.Same.get s2 ex, ?_, hcl, hm, hlim, hw, fun H3 si k3 hr3 hs3 => ⟨rfl, ?_⟩⟩
      · rw [upd_same, List.append_nil]
      · exact hq H3 x si (KB.same (s1.trans s2) hx k3) hr3 hs3
  have F2 := F1.raw b .nil
  refine F2.imp fun vs H Q E h => ?_
  rw [List.append_nil]
  exact h
end
end Kx

/- part KN -/
/-! # KN: != of instances with an own __eq__ -/
namespace Kx
open PySem PySem.Spec PyProof.Rows
section
variable {prog : Program} {w : World} {A : Around} {E : Value → Shared → Prop} {K : PySem.W.Frag} {x C f : Addr} {ox : Obj} {od : Option Obj} {b : Value} {h0 : Heap} {g0 : Array GenState} {d0 : Drawn} {t0 : Nat} {os0 : OsState}
theorem objNe_K (X : K.In h0) (I : PySem.W.InstAt h0 x ox C od) (hs : PySem.W.findIn K (.ref C) "__eq__" = some (some (.ref f))) (hf : PySem.W.isFn K (.ref f) = true) (hu : A.units < cLine) {Q : Fin → Shared → Prop}
    (hcall : wpAny (model prog w) A (call (.ref f) [.ref x, b]) (fun v s' => ∃ r, v = .bool r ∧ Q (.done (.ret (.bool (!r)))) s') E ⟨h0, g0, d0, t0, os0⟩) :
    wpAny (model prog w) A (Builtin.«object.__ne__» ⟨[.ref x, b], []⟩) Q E ⟨h0, g0, d0, t0, os0⟩ := by
  unfold Builtin.«object.__ne__»
  repeat (first
    | with_reducible refine wpAny_cRoomFor hu ?_
    | (refine wpAny_bind (m := callSpecialIfBound? (.ref x) (Str.ofString "__eq__") [b])
        (PySem.W.ifBound_K (s := ⟨h0, g0, d0, t0, os0⟩) X I hs hf (wpAny_mono hcall (fun v s' hr => by
          obtain ⟨r, rfl, hq⟩ := hr
          repeat (first | exact hq | exact wpAny_pure hq | exact wpAny_truthy_bool hq | (refine wpAny_bind (m := truthy (.bool _)) (wpAny_truthy_bool ?_)) | wp_step)) fun _ _ e => e)))
    | wp_step)
theorem ifBoundB_K {M : Model} {s : Shared} {name : Str} {id : String} {T : String} {args : List Value} {Q : Option Value → Shared → Prop} (X : K.In s.heap) (I : PySem.W.InstAt s.heap x ox C od) (hs : PySem.W.findIn K (.ref C) name = some (some (.builtin id))) (S : Slot T name id)
    (hcall : wpAny M A (call (.builtin id) (.ref x :: args)) (fun v => Q (some v)) E s) : wpAny M A (callSpecialIfBound? (.ref x) name args) Q E s := by
  simp only [callSpecialIfBound?, bindSpecialIfBound?]
  refine wpAny_holding (wpAny_bind (wpAny_bind (wpAny_bind (I.type.here ((PySem.W.looks_findIn X hs).here ?_)))))
  simp only [S.bind]
  refine wpAny_bind (wpAny_askSetting (wpAny_ite ?_))
  have fin : wpAny M A (call (.builtin id) ([.ref x] ++ args) >>= fun v => pure (some v)) Q E s :=
    wpAny_bind (wpAny_mono hcall (fun v s' h' => wpAny_pure h') fun _ _ h' => h')
  split
  · exact wpAny_bind (wpAny_pure (wpAny_pure fin))
  · exact wpAny_tryCatch (wpAny_bind (wpAny_pure (wpAny_pure fin)))
theorem tryNe_K (X : K.In h0) (I : PySem.W.InstAt h0 x ox C od) (hs : PySem.W.findIn K (.ref C) "__eq__" = some (some (.ref f))) (hf : PySem.W.isFn K (.ref f) = true) (hne : PySem.W.findIn K (.ref C) "__ne__" = some (some (.builtin "object.__ne__"))) (hob : PySem.W.mroIn K C (.type "object") = some true) (hu : A.units + 1 < cLine) {Q : Option Value → Shared → Prop}
    (hcall : wpAny (model prog w) A.in1 (call (.ref f) [.ref x, b]) (fun v s' => ∃ r, v = .bool r ∧ Q (some (.bool (!r))) s') E ⟨h0, g0, d0, t0, os0⟩) :
    wpAny (model prog w) A (tryCompare (.ref x) "__ne__" b) Q E ⟨h0, g0, d0, t0, os0⟩ := by
  simp only [tryCompare]
  have key : wpAny (model prog w) A (call (.builtin "object.__ne__") [.ref x, b]) (fun v s' => ∃ r, v = .bool r ∧ Q (some (.bool r)) s') E ⟨h0, g0, d0, t0, os0⟩ := by
    refine wpAny_call (codeAny_call_builtin PySem.F.cmp_object.ne.plain PySem.F.cmpEntry_ne (PySem.W.check_slot PySem.F.cmpKind_ne PySem.F.cmpSplit_ne (I.type.andThen (PySem.W.looks_mroIn X hob)) (PySem.F.cmpArgs_ne _ _) ?_))
    refine objNe_K (A := A.in1) X I hs hf (show A.units + 1 < cLine from hu) (wpAny_mono hcall (fun v s' hv => ?_) fun _ _ e => e)
    obtain ⟨r, rfl, hq⟩ := hv
    exact ⟨r, rfl, ⟨!r, rfl, hq⟩⟩
  refine wpAny_bind (ifBoundB_K (s := ⟨h0, g0, d0, t0, os0⟩) X I hne PySem.F.cmp_object.ne (wpAny_mono key (fun v s' hv => ?_) fun _ _ e => e))
  obtain ⟨r, rfl, hq⟩ := hv
  exact wpAny_pure hq
theorem cmpNe_K (X : K.In h0) (I : PySem.W.InstAt h0 x ox C od) (hb : PySem.W.Looks (model prog w) h0 (typeOf b) (.ref C)) (hs : PySem.W.findIn K (.ref C) "__eq__" = some (some (.ref f))) (hf : PySem.W.isFn K (.ref f) = true) (hne : PySem.W.findIn K (.ref C) "__ne__" = some (some (.builtin "object.__ne__"))) (hob : PySem.W.mroIn K C (.type "object") = some true) (hu : A.units + 1 < cLine) {Q : Value → Shared → Prop}
    (hcall : wpAny (model prog w) A.in1 (call (.ref f) [.ref x, b]) (fun v s' => ∃ r, v = .bool r ∧ Q (.bool (!r)) s') E ⟨h0, g0, d0, t0, os0⟩) :
    wpAny (model prog w) A (richCompare .NotEq (.ref x) b) Q E ⟨h0, g0, d0, t0, os0⟩ := by
  unfold richCompare
  simp only [oneThing_ref]
  refine wpAny_holding (wpAny_bind (wpAny_cRoomFor (Nat.lt_of_succ_lt hu) ?_))
  refine wpAny_bind (I.type.here (wpAny_bind (hb.here ?_)))
  rw [show (Value.ref C != Value.ref C) = false from by simp]
  simp only [Bool.false_eq_true, if_false]
  refine wpAny_bind (wpAny_pure ?_)
  simp only [Bool.false_eq_true, if_false]
  refine wpAny_bind (tryNe_K X I hs hf hne hob hu (wpAny_mono hcall (fun v s' hv => ?_) fun _ _ e => e))
  obtain ⟨r, rfl, hq⟩ := hv
  exact ⟨r, rfl, wpAny_pure hq⟩
end
end Kx

/- part K13 -/
/-! # K13: more of the text; own ==; properties -/
namespace Kx
open PySem PySem.Spec PyProof.Rows L2
/-- an error of the program's own -/
structure OwnE (K : PySem.W.Frag) (mg : Str → Option Value) (x : Str) : Prop where
  g : mg x = some (.ref (He.ga K x))
  q : PySem.W.excIn K (He.ga K x) He.veBase "ValueError.__new__" = true
  kp : PySem.W.keepIn K (.ref (He.ga K x)) = true
  sb : PySem.W.subIn K (.ref (He.ga K x)) (.type "BaseException") = some true
  ty : PySem.W.typeIn K (.ref (He.ga K x)) = some (.type "type")
structure PrF (K : PySem.W.Frag) (f qual : Str) (st : Stmt) : Prop where
  po : PropOf K (aR K) f (He.ma K (aR K) f) (He5.wf K (aR K) "property" f)
  fn : ∃ fd, Fun K f qual st (He5.wf K (aR K) "property" f) fd
structure EqF (K : PySem.W.Frag) (C : Addr) (qual : Str) (st : Stmt) : Prop where
  hs : PySem.W.findIn K (.ref C) "__eq__" = some (some (.ref (He.ma K C "__eq__")))
  hf : PySem.W.isFn K (.ref (He.ma K C "__eq__")) = true
  fn : ∃ fd, Fun K "__eq__" qual st (He.ma K C "__eq__") fd
  ns : PySem.W.subIn K (.type "str") (.ref C) = some false
  ki : PySem.W.kitOne K (.type "str") (.ref C) = some false
  ne : PySem.W.findIn K (.ref C) "__ne__" = some (some (.builtin "object.__ne__"))
  ob : PySem.W.mroIn K C (.type "object") = some true
/-- what the top has written, whole -/
structure Txr (K : PySem.W.Frag) (mg : Str → Option Value) : Prop where
  t : Txt K mg
  xl : OwnE K mg "InvalidLimit"
  xo : OwnE K mg "InvalidOperation"
  ell : PySem.W.exmOne K (.ref (He.ga K "InvalidLimit")) (.ref (He.ga K "InvalidLimit")) = some true
  eol : PySem.W.exmOne K (.ref (He.ga K "InvalidOperation")) (.ref (He.ga K "InvalidLimit")) = some false
  eoo : PySem.W.exmOne K (.ref (He.ga K "InvalidOperation")) (.ref (He.ga K "InvalidOperation")) = some true
  rat : Meth K (aR K) "at" (He.ma K (aR K) "at")
  ratf : ∃ fd, Fun K "at" "Run.at" (inClass (Kx.top 50) 13) (He.ma K (aR K) "at") fd
  psits : PrF K "situations" "Run.situations" (inClass (Kx.top 50) 6)
  psit : PrF K "situation" "Run.situation" (inClass (Kx.top 50) 7)
  pref : PrF K "refused" "Run.refused" (inClass (Kx.top 50) 11)
  eG : EqF K (aG K) "Program.__eq__" (inClass (Kx.top 34) 22)
  eR : EqF K (aR K) "Run.__eq__" (inClass (Kx.top 50) 17)
/-! ### own == -/
def rOwn (C : Addr) (sp : Sp) : R2 := fun x y H Q => ∃ a dx fs, x = .ref a ∧ H a = some (.ins C dx fs) ∧ ((∃ b dy gs, y = .ref b ∧ H b = some (.ins C dy gs)) ∨ ∃ z, y = .str z) ∧
  sp [.ref a, y] H (fun v H' => ∃ r, v = .bl r ∧ Q (.bl r) H') C8.E0
def rOwnNe (C : Addr) (sp : Sp) : R2 := fun x y H Q => ∃ a dx fs b dy gs, x = .ref a ∧ H a = some (.ins C dx fs) ∧ y = .ref b ∧ H b = some (.ins C dy gs) ∧
  sp [.ref a, y] H (fun v H' => ∃ r, v = .bl r ∧ Q (.bl (!r)) H') C8.E0
section
variable {X : Cx} {C : Addr} {n : Nat} {fd : FuncData} {ps : List Str} {sp : Sp} {qual : Str} {st : Stmt}
theorem op_own (e : EqF X.K C qual st) (F : FnOk X.prog X.w X.K X.mg X.base C8.CX0 n (He.ma X.K C "__eq__") fd ps sp) (hb : L2.Binds X.K fd ps []) (hr : Room n X.A) : OpR X (compareOp .Eq) (rOwn C sp) := by
  intro pins s σ H x y u v Q I rx ry h
  obtain ⟨a, dx, fs, rfl, ha, hy, hsp⟩ := h
  cases rx
  obtain ⟨mA, J, _⟩ := ins_get I.hok ha
  obtain ⟨od, J, _⟩ := J.look
  obtain ⟨m, hF⟩ := I.fr
  have hl := F.len _ _ _ _ hsp
  have r2 : Vals [V.ref a, y] [Value.ref a, v] := .cons rfl (.cons ry .nil)
  have run : wpAny (model X.prog X.w) X.A (call (.ref (He.ma X.K C "__eq__")) [.ref a, v]) (PySem.W.CmpBack (EP X pins σ Q)) X.xe s := by
    refine wpAny_call (codeAny_mono (F.run X.A X.stack s H ⟨[.ref a, v], []⟩ [.ref a, v] [.ref a, y] _ C8.E0 hr I.env0 (by
      have := hb s [.ref a, v] I.kIn (by simpa using hl)
      simpa using this) r2 hsp) fun r s' hq => ?_)
    cases r with
    | error e => exact False.elim hq
    | ok fl =>
      cases fl with
      | ret z =>
        obtain ⟨zz, H', I', rz, r, ez, q⟩ := I.after hq
        subst ez
        cases rz
        exact ⟨.bl r, H', I', rfl, q⟩
      | next => exact False.elim hq
      | brk => exact False.elim hq
      | cont => exact False.elim hq
  show wpAny (model X.prog X.w) X.A (richCompare .Eq (.ref a) v) (EP X pins σ Q) X.xe s
  rcases hy with ⟨b, dy, gs, rfl, hb'⟩ | ⟨z, rfl⟩
  · cases ry
    obtain ⟨mB, J', _⟩ := ins_get I.hok hb'
    obtain ⟨od', J', _⟩ := J'.look
    exact PySem.W.cmp_K (op := .Eq) (tb := .ref C) hr.units0 hF I.ok.mod.kin J J'.type (by simp [PySem.W.notFirst]) e.hs e.hf run
  · obtain ⟨t, rfl⟩ := ry
    exact PySem.W.cmp_K (op := .Eq) (tb := .type "str") hr.units0 hF I.ok.mod.kin J (PySem.W.Looks.of_pure rfl) (by simp [PySem.W.notFirst, e.ns]) e.hs e.hf run
theorem op_ownNe (e : EqF X.K C qual st) (F : FnOk X.prog X.w X.K X.mg X.base C8.CX0 n (He.ma X.K C "__eq__") fd ps sp) (hb : L2.Binds X.K fd ps []) (hr : Room (n + 1) X.A) : OpR X (compareOp .NotEq) (rOwnNe C sp) := by
  intro pins s σ H x y u v Q I rx ry h
  obtain ⟨a, dx, fs, b, dy, gs, rfl, ha, rfl, hb', hsp⟩ := h
  · cases rx
    cases ry
    obtain ⟨mA, J, _⟩ := ins_get I.hok ha
    obtain ⟨od, J, _⟩ := J.look
    obtain ⟨mB, J', _⟩ := ins_get I.hok hb'
    obtain ⟨od', J', _⟩ := J'.look
    have hl := F.len _ _ _ _ hsp
    have r2 : Vals [V.ref a, V.ref b] [Value.ref a, Value.ref b] := .cons rfl (.cons rfl .nil)
    have e0 : Env0 X.prog X.w X.K X.mg X.base X.A.in1 X.stack s H := by
      have e := I.env0
      exact ⟨e.frames, e.mod, e.bs, e.bsz, e.funs, e.frf, e.hok, e.bare⟩
    show wpAny (model X.prog X.w) X.A (richCompare .NotEq (.ref a) (.ref b)) (EP X pins σ Q) X.xe s
    obtain ⟨hp, g, d, t, os⟩ := s
    refine cmpNe_K I.kIn J J'.type e.hs e.hf e.ne e.ob (by have := hr.units; omega) ?_
    refine wpAny_call (codeAny_mono (F.run X.A.in1 X.stack _ H ⟨[.ref a, .ref b], []⟩ [.ref a, .ref b] [.ref a, .ref b] _ C8.E0 hr.in1 e0 (by
      have := hb ⟨hp, g, d, t, os⟩ [.ref a, .ref b] I.kIn (by simpa using hl)
      simpa using this) r2 hsp) fun r s' hq => ?_)
    cases r with
    | error e => exact False.elim hq
    | ok fl =>
      cases fl with
      | ret z =>
        obtain ⟨zz, H', I', rz, r, ez, q⟩ := I.after hq
        subst ez
        cases rz
        exact ⟨r, rfl, .bl (!r), H', I', rfl, q⟩
      | next => exact False.elim hq
      | brk => exact False.elim hq
      | cont => exact False.elim hq
/-- the same object -/
def DSame : Eqv := fun x y _ => ∃ a, x = .ref a ∧ y = .ref a
theorem eqG_same : EqG X n DSame := by
  intro A pins s σ H x y u v sb I rx ry d
  obtain ⟨a, rfl, rfl⟩ := d
  cases rx
  cases ry
  exact SeqAt.EqAt.same (A := A) (s := s) (.ref a) X.prog X.w X.xe _ ⟨rfl, H, I, Ext.rfl'⟩
theorem mon_same : Mon DSame := fun _ _ _ _ _ d => d
def rSameT : R2 := fun x y H Q => ∃ (t : Addr) (as : List Addr), x = .ref t ∧ y = .ref t ∧ H t = some (.tup (as.map V.ref)) ∧ ∀ H', Same H H' → Q (.bl true) H'
theorem op_sameT (hr : Room 1 X.A) : OpR X (compareOp .Eq) rSameT := by
  intro pins s σ H x y u v Q I rx ry h
  obtain ⟨t, as, rfl, rfl, ht, q⟩ := h
  refine op_eqG (D := DTup X.K DSame) (rcG_tup mon_same (n := 0) eqG_same) hr pins s σ H _ _ u v Q I rx ry ⟨⟨t, t, _, _, rfl, rfl, .inl (.inl ht), .inl (.inl ht), rfl, fun i x y h1 h2 => ?_⟩, fun H' e => q H' e⟩
  rw [h1] at h2
  cases h2
  rw [List.getElem?_map] at h1
  obtain ⟨a, _, rfl⟩ := Option.map_eq_some_iff.mp h1
  exact ⟨a, rfl, rfl⟩
end
end Kx

/- part K14 -/
/-! # K14: own ==, properties -/
namespace Kx
open PySem PySem.Spec PyProof.Rows L2
local macro_rules
  | `(tactic| row_cond hp) => `(tactic| first
    | assumption
    | exact upd_same
    | (refine Kx.Same.get (by assumption) ?_; row_cond hp)
    | (refine Kx.SB.get (by assumption) (by assumption) ?_ rfl; row_cond hp)
    | (refine Kx.SB.getL (by assumption) (by assumption) ?_; row_cond hp))
local macro_rules
  | `(tactic| row_cond zs) => `(tactic| first
    | ((with_reducible refine Kx.z_var (v := ?zval) ?zv ?zq); (case zv => rfl))
    | with_reducible refine Kx.z_c ?_
    | with_reducible refine Kx.z_cons ?_
    | with_reducible refine Kx.z_nil ?_
    | with_reducible refine Kx.z_op ?_
    | with_reducible refine Kx.z_cB ?_
    | with_reducible refine Kx.z_call ?_
    | with_reducible refine Kx.z_fld ?_
    | with_reducible refine Kx.z_tup ?_
    | with_reducible refine Kx.z_lst ?_
    | with_reducible refine Kx.z_test ?_
    | with_reducible refine Kx.z_tB ?_
    | with_reducible refine Kx.p_bl ?_
    | with_reducible refine Kx.z_iteT ?_
    | with_reducible refine Kx.z_iteF ?_
    | with_reducible refine Kx.z_seq ?_
    | with_reducible refine Kx.z_ret ?_
    | with_reducible refine Kx.z_set ?_
    | with_reducible refine Kx.z_drop ?_
    | with_reducible refine Kx.z_if ?_
    | with_reducible refine Kx.z_next ?_
    | with_reducible refine Kx.z_and ?_
    | with_reducible refine Kx.z_or ?_
    | with_reducible refine Kx.z_not ?_
    | with_reducible refine Kx.z_andV ?_
    | with_reducible refine Kx.z_orV ?_
    | with_reducible refine Kx.z_notV ?_
    | with_reducible refine Kx.z_ifE ?_
    | with_reducible refine Kx.z_chain ?_
    | with_reducible refine Kx.z_dget ?_
    | with_reducible refine Kx.z_un ?_
    | with_reducible refine Kx.z_asg ?_
    | with_reducible refine Kx.z_retN ?_
    | with_reducible refine Kx.z_iteNT ?_
    | with_reducible refine Kx.z_iteNF ?_
    | with_reducible refine Kx.p_add ?_
    | with_reducible refine Kx.p_sub ?_
    | with_reducible refine Kx.p_lt ?_
    | with_reducible refine Kx.p_le ?_
    | with_reducible refine Kx.p_gt ?_
    | with_reducible refine Kx.p_ge ?_
    | with_reducible refine Kx.p_neg ?_
    | with_reducible refine Kx.p_eqI ?_
    | with_reducible refine Kx.p_eqS ?_
    | with_reducible refine Kx.p_neI ?_
    | with_reducible refine Kx.p_eqNN ?_
    | with_reducible refine Kx.p_isN ?_
    | with_reducible refine Kx.p_isNi ?_
    | with_reducible refine Kx.p_isNr ?_
    | with_reducible refine Kx.p_notN ?_
    | with_reducible refine Kx.p_notNi ?_
    | with_reducible refine Kx.p_notNr ?_
    | with_reducible refine Kx.p_intI ?_
    | with_reducible refine Kx.p_intB ?_
    | with_reducible refine Kx.p_abs ?_
    | with_reducible refine Kx.p_mx2 ?_
    | with_reducible refine Kx.p_mn2 ?_
    | ((with_reducible refine Kx.p_ixT (xs := ?zxs) (v := ?zval) ?zh ?ze ?zq); (case zh => row_cond hp); (case ze => rfl))
    | ((with_reducible refine Kx.p_ixL (xs := ?zxs) (v := ?zval) ?zh ?ze ?zq); (case zh => row_cond hp); (case ze => rfl))
    | ((with_reducible refine Kx.p_lenT (xs := ?zxs) ?zh ?zq); (case zh => row_cond hp))
    | ((with_reducible refine Kx.p_lenL (xs := ?zxs) ?zh ?zq); (case zh => row_cond hp))
    | ((with_reducible refine Kx.p_xT (xs := ?zxs) (v := ?zval) ?zh ?ze ?zq); (case zh => row_cond hp); (case ze => rfl))
    | ((with_reducible refine Kx.p_xL (xs := ?zxs) (v := ?zval) ?zh ?ze ?zq); (case zh => row_cond hp); (case ze => rfl))
    | with_reducible refine Kx.p_qI ?_
    | with_reducible refine Kx.p_qS ?_
    | with_reducible refine Kx.p_qNI ?_
    | with_reducible refine Kx.p_ltI ?_
    | with_reducible refine Kx.q_int_int ?_
    | with_reducible refine Kx.q_int_bool ?_
    | with_reducible refine Kx.q_int_str ?_
    | with_reducible refine Kx.q_int_tuple ?_
    | with_reducible refine Kx.q_bool_int ?_
    | with_reducible refine Kx.q_bool_bool ?_
    | with_reducible refine Kx.q_bool_str ?_
    | with_reducible refine Kx.q_bool_tuple ?_
    | with_reducible refine Kx.q_str_int ?_
    | with_reducible refine Kx.q_str_bool ?_
    | with_reducible refine Kx.q_str_str ?_
    | with_reducible refine Kx.q_str_tuple ?_
    | with_reducible refine Kx.q_NoneType_int ?_
    | with_reducible refine Kx.q_NoneType_bool ?_
    | with_reducible refine Kx.q_NoneType_str ?_
    | with_reducible refine Kx.q_NoneType_tuple ?_
    | ((with_reducible refine Kx.q_tuple_int (xs := ?zxs) ?zh ?zq); (case zh => row_cond hp))
    | ((with_reducible refine Kx.q_tuple_bool (xs := ?zxs) ?zh ?zq); (case zh => row_cond hp))
    | ((with_reducible refine Kx.q_tuple_str (xs := ?zxs) ?zh ?zq); (case zh => row_cond hp))
    | ((with_reducible refine Kx.q_tuple_tuple (xs := ?zxs) ?zh ?zq); (case zh => row_cond hp))
    | ((with_reducible refine Kx.q_list_int (xs := ?zxs) ?zh ?zq); (case zh => row_cond hp))
    | ((with_reducible refine Kx.q_list_bool (xs := ?zxs) ?zh ?zq); (case zh => row_cond hp))
    | ((with_reducible refine Kx.q_list_str (xs := ?zxs) ?zh ?zq); (case zh => row_cond hp))
    | ((with_reducible refine Kx.q_list_tuple (xs := ?zxs) ?zh ?zq); (case zh => row_cond hp))
    | ((with_reducible refine Kx.q_dict_int (kvs := ?zxs) ?zh ?zq); (case zh => row_cond hp))
    | ((with_reducible refine Kx.q_dict_bool (kvs := ?zxs) ?zh ?zq); (case zh => row_cond hp))
    | ((with_reducible refine Kx.q_dict_str (kvs := ?zxs) ?zh ?zq); (case zh => row_cond hp))
    | ((with_reducible refine Kx.q_dict_tuple (kvs := ?zxs) ?zh ?zq); (case zh => row_cond hp))
    | with_reducible refine Kx.z_gn ?_
    | ((with_reducible refine Kx.z_gt2 (x := ?zx) (y := ?zy) ?zh ?zq); (case zh => row_cond hp))
    | ((with_reducible refine Kx.z_gt3 (x := ?zx) (y := ?zy) (z := ?zz) ?zh ?zq); (case zh => row_cond hp))
    | with_reducible refine Kx.z_lcT ?_
    | with_reducible refine Kx.z_lcL ?_
    | with_reducible refine Kx.z_lcS ?_
    | with_reducible refine Kx.z_lcR ?_
    | with_reducible refine Kx.z_lcZ ?_
    | with_reducible refine Kx.z_yes ?_
    | ((with_reducible refine Kx.z_wip ?zh ?zq); (case zh => rfl))
    | ((with_reducible refine Kx.z_LK ?zh ?zq); (case zh => rfl))
    | with_reducible refine Kx.z_lc2T ?_
    | with_reducible refine Kx.z_lc2L ?_
    | with_reducible refine Kx.z_inT ?_
    | with_reducible refine Kx.z_inL ?_
    | ((with_reducible refine Kx.z_LK2 ?zh ?zq); (case zh => rfl))
    | with_reducible refine Kx.z_sl ?_
    | with_reducible refine Kx.z_nop ?_
    | with_reducible refine Kx.z_part ?_
    | with_reducible refine Kx.z_exi ?_
    | with_reducible refine Kx.p_isNb ?_
    | with_reducible refine Kx.p_isNs ?_
    | with_reducible refine Kx.z_match ?_
    | ((with_reducible refine Kx.z_caseT (y := ?zy) (xs := ?zxs) ?zh ?zl ?zf ?zq); (case zh => row_cond hp); (case zl => rfl); (case zf => rfl))
    | ((with_reducible refine Kx.z_caseL (y := ?zy) (xs := ?zxs) ?zh ?zl ?zq); (case zh => row_cond hp); (case zl => (intro z; cases z)))
    | ((with_reducible refine Kx.z_caseF (y := ?zy) (xs := ?zxs) ?zh ?zf ?zq); (case zh => row_cond hp); (case zf => rfl))
    | with_reducible refine Kx.z_mnil ?_
    | with_reducible refine Kx.z_lcE ?_
    | with_reducible refine Kx.z_forT ?_
    | with_reducible refine Kx.z_forL ?_
    | with_reducible refine Kx.z_forR ?_
    | with_reducible refine Kx.z_forC ?_
    | ((with_reducible refine Kx.p_fP (dx := ?zd) (fs := ?zfs) (v := ?zv) (by assumption) ?zh ?zl ?zf ?zq); (case zh => row_cond hp); (case zl => assumption); (case zf => decide +kernel))
    | ((with_reducible refine Kx.p_fG (dx := ?zd) (fs := ?zfs) (v := ?zv) (by assumption) ?zh ?zl ?zf ?zq); (case zh => row_cond hp); (case zl => assumption); (case zf => decide +kernel))
    | ((with_reducible refine Kx.p_fR (dx := ?zd) (fs := ?zfs) (v := ?zv) (by assumption) ?zh ?zl ?zf ?zq); (case zh => row_cond hp); (case zl => assumption); (case zf => decide +kernel))
    | ((with_reducible refine Kx.p_dgetS (kvs := ?zk) (v := ?zv) ?zh ?ze ?zq); (case zh => row_cond hp); (case ze => assumption))
    | with_reducible refine Kx.z_star ?_
    | ((with_reducible refine Kx.p_star (xs := ?zxs) ?zh ?zq); (case zh => row_cond hp))
    | with_reducible refine Kx.z_bm ?_
    | with_reducible refine Kx.p_ip ?_
    | with_reducible refine Kx.z_lss ?_
    | with_reducible refine Kx.z_dcT ?_
    | with_reducible refine Kx.z_sf ?_
    | with_reducible refine Kx.z_dnew ?_
    | with_reducible refine Kx.z_mk ?_
    | with_reducible refine Kx.z_callS ?_
    | with_reducible refine Kx.z_gsub ?_
    | ((with_reducible refine Kx.p_setL (xs := ?zxs) (k := ?zk) ?zh ?ze ?zq); (case zh => row_cond hp); (case ze => rfl))
    | ((with_reducible refine Kx.p_modP ?zh ?zq); (case zh => first | assumption | decide +kernel))
    | ((with_reducible refine Kx.p_mulR ?zh ?zq); (case zh => first | assumption | decide +kernel))
    | ((with_reducible refine Kx.p_mulL ?zh ?zq); (case zh => first | assumption | decide +kernel))
    | ((with_reducible refine Kx.p_powS ?zh ?zq); (case zh => first | assumption | decide +kernel))
    | ((with_reducible refine Kx.p_powW ?zh ?zq); (case zh => first | assumption | decide +kernel))
    | ((with_reducible refine Kx.p_fdvS ?zh ?zq); (case zh => first | assumption | decide +kernel))
    | with_reducible refine Kx.z_par ?_
    | with_reducible refine Kx.p_par ?_
    | with_reducible refine Kx.z_par3 ?_
    | with_reducible refine Kx.p_par3 ?_
    | ((with_reducible refine Kx.z_gl3 (x := ?zx) (y := ?zy) (z := ?zz) ?zh ?zq); (case zh => row_cond hp))
    | ((with_reducible refine Kx.z_gtG2 (x := ?zx) (y := ?zy) ?zh ?zq); (case zh => row_cond hp))
    | with_reducible refine Kx.z_cm ?_
    | with_reducible refine Kx.p_cm ?_
    | with_reducible refine Kx.z_prs ?_
    | with_reducible refine Kx.z_prn ?_
    | dsimp only)
local macro_rules
  | `(tactic| row_cond zz) => `(tactic| repeat (row_cond zs))

section
variable {P : Program} {w : World} {K : PySem.W.Frag} {mg : Str → Option Value} {base : Heap}
theorem eqv_rfl {n : Nat} {d : PyData} (h : sh n d) : PyData.eqv d d = true := PySem.SeqAt.eqv_refl d h.1
theorem q_vO {lim : Option Int} {H : Hp} {Q : VK} (q : Q (.bl true) H) : rEqA K (vO lim) (vO lim) H Q := by
  cases lim with
  | none => exact .inl (p_eqNN q)
  | some k =>
    refine p_qI ?_
    rw [decide_eq_true rfl]
    exact q
def spGEq (K : PySem.W.Frag) : Sp := fun vs H Q _ => ∃ g p, vs = [.ref g, .ref g] ∧ PgAt K H g p ∧ ∀ H', Same H H' → Q (.bl true) H'
theorem sc_Program___eq__ : FnScope ["self", "other"] ["self", "other"] (defScope (inClass (Kx.top 34) 22)) := ⟨rfl, rfl, rfl, by decide +kernel, rfl, by decide +kernel, by decide +kernel⟩
theorem f_Program_eq (T2 : Txr K mg) : ∃ fd, FnOk P w K mg base C8.CX0 2 (He.ma K (aG K) "__eq__") fd ["self", "other"] (spGEq K) ∧ L2.Binds K fd ["self", "other"] [] := by
  obtain ⟨fd, F⟩ := T2.eG.fn
  have b := F.binds (ps := ["self", "other"]) (fun _ _ _ _ _ _ us hl => match us, hl with | [_, _], _ => rfl)
  refine ⟨fd, ?_, b⟩
  refine F.ok sc_Program___eq__ (fun vs H Q E h => ?_) (fun cdv A outer s H vs Q E hr h => ?_)
  · obtain ⟨g, p, rfl, _⟩ := h
    rfl
  · obtain ⟨g, p, rfl, hg, hq⟩ := h
    obtain ⟨_, dx, fs, t, as, st, h1, h2, h3, h4, h5, h6⟩ := hg
    have T := T2.t
    refine ⟨_, (pss_one (ps_ret (pe_and (pe_callB (k_isC (K := K) rfl) rfl (T.b "isinstance") boot_isinstance (pa_cons (pv 1) (pa_cons (C8.pe_gc rfl (v := .ref (aG K)) ⟨_, T.cG.g, rfl⟩) pa_nil))) (pe_and (pe_cmpR (k_eqA (K := K) rfl hr.units) (k_fld (K := K) rfl (pv 0) rfl) (k_fld (K := K) rfl (pv 1) rfl) (nomark _)) (pe_and (pe_cmpR (k_eqA (K := K) rfl hr.units) (k_fld (K := K) rfl (pv 0) rfl) (k_fld (K := K) rfl (pv 1) rfl) (nomark _)) (pe_one (pe_cmpR (op_sameT (hr.mono (by decide))) (k_fld (K := K) rfl (pv 0) rfl) (k_fld (K := K) rfl (pv 1) rfl) (nomark _)))))))), ?_⟩
    row_cond zz
    refine p_isC h1 T.cG.ins ?_
    row_cond zz
    rw [decide_eq_true (rfl : p.total = p.total)]
    row_cond zz
    refine p_qD h4 h4 (sh_ok sh_modes (by decide)) (sh_ok sh_modes (by decide)) ?_
    rw [eqv_rfl sh_modes]
    row_cond zz
    exact ⟨t, as, rfl, rfl, h6, hq⟩
/-! ### Run's == -/
def spREq (K : PySem.W.Frag) : Sp := fun vs H Q _ => (∃ a dx fs z, vs = [.ref a, .str z] ∧ H a = some (.ins (aR K) dx fs) ∧ Q (.bl false) H) ∨
  ∃ a b g p lim m cs si k si' k', vs = [.ref a, .ref b] ∧ PgAt K H g p ∧ RunAt K H a g lim m cs si k ∧ RunAt K H b g lim m cs si' k' ∧ ∀ H', Same H H' → Q (.bl true) H'
theorem sc_Run___eq__ : FnScope ["self", "other"] ["self", "other"] (defScope (inClass (Kx.top 50) 17)) := ⟨rfl, rfl, rfl, by decide +kernel, rfl, by decide +kernel, by decide +kernel⟩
theorem f_Run_eq (T2 : Txr K mg) : ∃ fd, FnOk P w K mg base C8.CX0 3 (He.ma K (aR K) "__eq__") fd ["self", "other"] (spREq K) ∧ L2.Binds K fd ["self", "other"] [] := by
  obtain ⟨fd, F⟩ := T2.eR.fn
  obtain ⟨fdG, FG, bG⟩ := f_Program_eq (P := P) (w := w) (base := base) T2
  have b := F.binds (ps := ["self", "other"]) (fun _ _ _ _ _ _ us hl => match us, hl with | [_, _], _ => rfl)
  refine ⟨fd, ?_, b⟩
  refine F.ok sc_Run___eq__ (fun vs H Q E h => ?_) (fun cdv A outer s H vs Q E hr h => ?_)
  · rcases h with ⟨a, dx, fs, z, rfl, _⟩ | ⟨a, b, g, p, lim, m, cs, si, k, si', k', rfl, _⟩ <;> rfl
  · have T := T2.t
    rcases h with ⟨a, dx, fs, z, rfl, ha, hq⟩ | ⟨a, b, g, p, lim, m, cs, si, k, si', k', rfl, hg, hra, hrb, hq⟩
    · refine ⟨_, (pss_one (ps_ret (pe_and (pe_callB (k_isC (K := K) rfl) rfl (T.b "isinstance") boot_isinstance (pa_cons (pv 1) (pa_cons (C8.pe_gc rfl (v := .ref (aR K)) ⟨_, T.cR.g, rfl⟩) pa_nil))) (pe_and (pe_cmpR (op_own T2.eG FG bG (hr.mono (by decide))) (k_fld (K := K) rfl (pv 0) rfl) (k_fld (K := K) rfl (pv 1) rfl) (nomark _)) (pe_and (pe_cmpR (k_eqA (K := K) rfl hr.units) (k_fld (K := K) rfl (pv 0) rfl) (k_fld (K := K) rfl (pv 1) rfl) (nomark _)) (pe_and (pe_cmpR (k_eqA (K := K) rfl hr.units) (k_fld (K := K) rfl (pv 0) rfl) (k_fld (K := K) rfl (pv 1) rfl) (nomark _)) (pe_one (pe_cmpR (k_eqA (K := K) rfl hr.units) (k_fld (K := K) rfl (pv 0) rfl) (k_fld (K := K) rfl (pv 1) rfl) (nomark _))))))))), ?_⟩
      row_cond zz
      refine .inr ⟨_, _, _, rfl, .str z, T2.eR.ki, ?_⟩
      row_cond zz
      exact hq
    · obtain ⟨dx, fs, ch, h1, h2, h3, h4, h5, h6, h7, h8, h9⟩ := hra
      obtain ⟨dx', fs', ch', g1, g2, g3, g4, g5, g6, g7, g8, g9⟩ := hrb
      obtain ⟨_, dxg, fsg, _, _, _, hgo, _⟩ := id hg
      have tc1 : TD H (.ref ch) (eModes cs) := .tup h8 (TDs.ints cs)
      have tc2 : TD H (.ref ch') (eModes cs) := .tup g8 (TDs.ints cs)
      refine ⟨_, (pss_one (ps_ret (pe_and (pe_callB (k_isC (K := K) rfl) rfl (T.b "isinstance") boot_isinstance (pa_cons (pv 1) (pa_cons (C8.pe_gc rfl (v := .ref (aR K)) ⟨_, T.cR.g, rfl⟩) pa_nil))) (pe_and (pe_cmpR (op_own T2.eG FG bG (hr.mono (by decide))) (k_fld (K := K) rfl (pv 0) rfl) (k_fld (K := K) rfl (pv 1) rfl) (nomark _)) (pe_and (pe_cmpR (k_eqA (K := K) rfl hr.units) (k_fld (K := K) rfl (pv 0) rfl) (k_fld (K := K) rfl (pv 1) rfl) (nomark _)) (pe_and (pe_cmpR (k_eqA (K := K) rfl hr.units) (k_fld (K := K) rfl (pv 0) rfl) (k_fld (K := K) rfl (pv 1) rfl) (nomark _)) (pe_one (pe_cmpR (k_eqA (K := K) rfl hr.units) (k_fld (K := K) rfl (pv 0) rfl) (k_fld (K := K) rfl (pv 1) rfl) (nomark _))))))))), ?_⟩
      row_cond zz
      refine p_isC g1 T.cR.ins ?_
      row_cond zz
      refine ⟨g, dxg, fsg, rfl, hgo, .inl ⟨g, dxg, fsg, rfl, hgo⟩, g, p, rfl, hg, fun H1 s1 => ⟨true, rfl, ?_⟩⟩
      row_cond zz
      refine q_vO ?_
      row_cond zz
      rw [decide_eq_true (rfl : m = m)]
      row_cond zz
      refine p_qD (tc1.sm s1) (tc2.sm s1) (sh_ok sh_modes (by decide)) (sh_ok sh_modes (by decide)) ?_
      rw [eqv_rfl sh_modes]
      exact hq _ s1
end
end Kx

/- part K15 -/
/-! # K15: properties, at -/
namespace Kx
open PySem PySem.Spec PyProof.Rows L2
theorem z_callS {sp : Sp} {E : L2.St → XK} {t : TA} {σ : L2.St} {H : Hp} {Q : VK} (h : t σ H fun vs H1 => sp vs H1 Q (E σ)) : tCallS sp E t σ H Q := h
local macro_rules
  | `(tactic| row_cond hp) => `(tactic| first
    | assumption
    | exact upd_same
    | (refine Kx.Same.get (by assumption) ?_; row_cond hp)
    | (refine Kx.SB.get (by assumption) (by assumption) ?_ rfl; row_cond hp)
    | (refine Kx.SB.getL (by assumption) (by assumption) ?_; row_cond hp))
local macro_rules
  | `(tactic| row_cond zs) => `(tactic| first
    | ((with_reducible refine Kx.z_var (v := ?zval) ?zv ?zq); (case zv => rfl))
    | with_reducible refine Kx.z_c ?_
    | with_reducible refine Kx.z_cons ?_
    | with_reducible refine Kx.z_nil ?_
    | with_reducible refine Kx.z_op ?_
    | with_reducible refine Kx.z_cB ?_
    | with_reducible refine Kx.z_call ?_
    | with_reducible refine Kx.z_fld ?_
    | with_reducible refine Kx.z_tup ?_
    | with_reducible refine Kx.z_lst ?_
    | with_reducible refine Kx.z_test ?_
    | with_reducible refine Kx.z_tB ?_
    | with_reducible refine Kx.p_bl ?_
    | with_reducible refine Kx.z_iteT ?_
    | with_reducible refine Kx.z_iteF ?_
    | with_reducible refine Kx.z_seq ?_
    | with_reducible refine Kx.z_ret ?_
    | with_reducible refine Kx.z_set ?_
    | with_reducible refine Kx.z_drop ?_
    | with_reducible refine Kx.z_if ?_
    | with_reducible refine Kx.z_next ?_
    | with_reducible refine Kx.z_and ?_
    | with_reducible refine Kx.z_or ?_
    | with_reducible refine Kx.z_not ?_
    | with_reducible refine Kx.z_andV ?_
    | with_reducible refine Kx.z_orV ?_
    | with_reducible refine Kx.z_notV ?_
    | with_reducible refine Kx.z_ifE ?_
    | with_reducible refine Kx.z_chain ?_
    | with_reducible refine Kx.z_dget ?_
    | with_reducible refine Kx.z_un ?_
    | with_reducible refine Kx.z_asg ?_
    | with_reducible refine Kx.z_retN ?_
    | with_reducible refine Kx.z_iteNT ?_
    | with_reducible refine Kx.z_iteNF ?_
    | with_reducible refine Kx.p_add ?_
    | with_reducible refine Kx.p_sub ?_
    | with_reducible refine Kx.p_lt ?_
    | with_reducible refine Kx.p_le ?_
    | with_reducible refine Kx.p_gt ?_
    | with_reducible refine Kx.p_ge ?_
    | with_reducible refine Kx.p_neg ?_
    | with_reducible refine Kx.p_eqI ?_
    | with_reducible refine Kx.p_eqS ?_
    | with_reducible refine Kx.p_neI ?_
    | with_reducible refine Kx.p_eqNN ?_
    | with_reducible refine Kx.p_isN ?_
    | with_reducible refine Kx.p_isNi ?_
    | with_reducible refine Kx.p_isNr ?_
    | with_reducible refine Kx.p_notN ?_
    | with_reducible refine Kx.p_notNi ?_
    | with_reducible refine Kx.p_notNr ?_
    | with_reducible refine Kx.p_intI ?_
    | with_reducible refine Kx.p_intB ?_
    | with_reducible refine Kx.p_abs ?_
    | with_reducible refine Kx.p_mx2 ?_
    | with_reducible refine Kx.p_mn2 ?_
    | ((with_reducible refine Kx.p_ixT (xs := ?zxs) (v := ?zval) ?zh ?ze ?zq); (case zh => row_cond hp); (case ze => rfl))
    | ((with_reducible refine Kx.p_ixL (xs := ?zxs) (v := ?zval) ?zh ?ze ?zq); (case zh => row_cond hp); (case ze => rfl))
    | ((with_reducible refine Kx.p_lenT (xs := ?zxs) ?zh ?zq); (case zh => row_cond hp))
    | ((with_reducible refine Kx.p_lenL (xs := ?zxs) ?zh ?zq); (case zh => row_cond hp))
    | ((with_reducible refine Kx.p_xT (xs := ?zxs) (v := ?zval) ?zh ?ze ?zq); (case zh => row_cond hp); (case ze => rfl))
    | ((with_reducible refine Kx.p_xL (xs := ?zxs) (v := ?zval) ?zh ?ze ?zq); (case zh => row_cond hp); (case ze => rfl))
    | with_reducible refine Kx.p_qI ?_
    | with_reducible refine Kx.p_qS ?_
    | with_reducible refine Kx.p_qNI ?_
    | with_reducible refine Kx.p_ltI ?_
    | with_reducible refine Kx.q_int_int ?_
    | with_reducible refine Kx.q_int_bool ?_
    | with_reducible refine Kx.q_int_str ?_
    | with_reducible refine Kx.q_int_tuple ?_
    | with_reducible refine Kx.q_bool_int ?_
    | with_reducible refine Kx.q_bool_bool ?_
    | with_reducible refine Kx.q_bool_str ?_
    | with_reducible refine Kx.q_bool_tuple ?_
    | with_reducible refine Kx.q_str_int ?_
    | with_reducible refine Kx.q_str_bool ?_
    | with_reducible refine Kx.q_str_str ?_
    | with_reducible refine Kx.q_str_tuple ?_
    | with_reducible refine Kx.q_NoneType_int ?_
    | with_reducible refine Kx.q_NoneType_bool ?_
    | with_reducible refine Kx.q_NoneType_str ?_
    | with_reducible refine Kx.q_NoneType_tuple ?_
    | ((with_reducible refine Kx.q_tuple_int (xs := ?zxs) ?zh ?zq); (case zh => row_cond hp))
    | ((with_reducible refine Kx.q_tuple_bool (xs := ?zxs) ?zh ?zq); (case zh => row_cond hp))
    | ((with_reducible refine Kx.q_tuple_str (xs := ?zxs) ?zh ?zq); (case zh => row_cond hp))
    | ((with_reducible refine Kx.q_tuple_tuple (xs := ?zxs) ?zh ?zq); (case zh => row_cond hp))
    | ((with_reducible refine Kx.q_list_int (xs := ?zxs) ?zh ?zq); (case zh => row_cond hp))
    | ((with_reducible refine Kx.q_list_bool (xs := ?zxs) ?zh ?zq); (case zh => row_cond hp))
    | ((with_reducible refine Kx.q_list_str (xs := ?zxs) ?zh ?zq); (case zh => row_cond hp))
    | ((with_reducible refine Kx.q_list_tuple (xs := ?zxs) ?zh ?zq); (case zh => row_cond hp))
    | ((with_reducible refine Kx.q_dict_int (kvs := ?zxs) ?zh ?zq); (case zh => row_cond hp))
    | ((with_reducible refine Kx.q_dict_bool (kvs := ?zxs) ?zh ?zq); (case zh => row_cond hp))
    | ((with_reducible refine Kx.q_dict_str (kvs := ?zxs) ?zh ?zq); (case zh => row_cond hp))
    | ((with_reducible refine Kx.q_dict_tuple (kvs := ?zxs) ?zh ?zq); (case zh => row_cond hp))
    | with_reducible refine Kx.z_gn ?_
    | ((with_reducible refine Kx.z_gt2 (x := ?zx) (y := ?zy) ?zh ?zq); (case zh => row_cond hp))
    | ((with_reducible refine Kx.z_gt3 (x := ?zx) (y := ?zy) (z := ?zz) ?zh ?zq); (case zh => row_cond hp))
    | with_reducible refine Kx.z_lcT ?_
    | with_reducible refine Kx.z_lcL ?_
    | with_reducible refine Kx.z_lcS ?_
    | with_reducible refine Kx.z_lcR ?_
    | with_reducible refine Kx.z_lcZ ?_
    | with_reducible refine Kx.z_yes ?_
    | ((with_reducible refine Kx.z_wip ?zh ?zq); (case zh => rfl))
    | ((with_reducible refine Kx.z_LK ?zh ?zq); (case zh => rfl))
    | with_reducible refine Kx.z_lc2T ?_
    | with_reducible refine Kx.z_lc2L ?_
    | with_reducible refine Kx.z_inT ?_
    | with_reducible refine Kx.z_inL ?_
    | ((with_reducible refine Kx.z_LK2 ?zh ?zq); (case zh => rfl))
    | with_reducible refine Kx.z_sl ?_
    | with_reducible refine Kx.z_nop ?_
    | with_reducible refine Kx.z_part ?_
    | with_reducible refine Kx.z_exi ?_
    | with_reducible refine Kx.p_isNb ?_
    | with_reducible refine Kx.p_isNs ?_
    | with_reducible refine Kx.z_match ?_
    | ((with_reducible refine Kx.z_caseT (y := ?zy) (xs := ?zxs) ?zh ?zl ?zf ?zq); (case zh => row_cond hp); (case zl => rfl); (case zf => rfl))
    | ((with_reducible refine Kx.z_caseL (y := ?zy) (xs := ?zxs) ?zh ?zl ?zq); (case zh => row_cond hp); (case zl => (intro z; cases z)))
    | ((with_reducible refine Kx.z_caseF (y := ?zy) (xs := ?zxs) ?zh ?zf ?zq); (case zh => row_cond hp); (case zf => rfl))
    | with_reducible refine Kx.z_mnil ?_
    | with_reducible refine Kx.z_lcE ?_
    | with_reducible refine Kx.z_forT ?_
    | with_reducible refine Kx.z_forL ?_
    | with_reducible refine Kx.z_forR ?_
    | with_reducible refine Kx.z_forC ?_
    | ((with_reducible refine Kx.p_fP (dx := ?zd) (fs := ?zfs) (v := ?zv) (by assumption) ?zh ?zl ?zf ?zq); (case zh => row_cond hp); (case zl => assumption); (case zf => decide +kernel))
    | ((with_reducible refine Kx.p_fG (dx := ?zd) (fs := ?zfs) (v := ?zv) (by assumption) ?zh ?zl ?zf ?zq); (case zh => row_cond hp); (case zl => assumption); (case zf => decide +kernel))
    | ((with_reducible refine Kx.p_fR (dx := ?zd) (fs := ?zfs) (v := ?zv) (by assumption) ?zh ?zl ?zf ?zq); (case zh => row_cond hp); (case zl => assumption); (case zf => decide +kernel))
    | ((with_reducible refine Kx.p_dgetS (kvs := ?zk) (v := ?zv) ?zh ?ze ?zq); (case zh => row_cond hp); (case ze => assumption))
    | with_reducible refine Kx.z_star ?_
    | ((with_reducible refine Kx.p_star (xs := ?zxs) ?zh ?zq); (case zh => row_cond hp))
    | with_reducible refine Kx.z_bm ?_
    | with_reducible refine Kx.p_ip ?_
    | with_reducible refine Kx.z_lss ?_
    | with_reducible refine Kx.z_dcT ?_
    | with_reducible refine Kx.z_sf ?_
    | with_reducible refine Kx.z_dnew ?_
    | with_reducible refine Kx.z_mk ?_
    | with_reducible refine Kx.z_callS ?_
    | with_reducible refine Kx.z_gsub ?_
    | ((with_reducible refine Kx.p_setL (xs := ?zxs) (k := ?zk) ?zh ?ze ?zq); (case zh => row_cond hp); (case ze => rfl))
    | ((with_reducible refine Kx.p_modP ?zh ?zq); (case zh => first | assumption | decide +kernel))
    | ((with_reducible refine Kx.p_mulR ?zh ?zq); (case zh => first | assumption | decide +kernel))
    | ((with_reducible refine Kx.p_mulL ?zh ?zq); (case zh => first | assumption | decide +kernel))
    | ((with_reducible refine Kx.p_powS ?zh ?zq); (case zh => first | assumption | decide +kernel))
    | ((with_reducible refine Kx.p_powW ?zh ?zq); (case zh => first | assumption | decide +kernel))
    | ((with_reducible refine Kx.p_fdvS ?zh ?zq); (case zh => first | assumption | decide +kernel))
    | with_reducible refine Kx.z_par ?_
    | with_reducible refine Kx.p_par ?_
    | with_reducible refine Kx.z_par3 ?_
    | with_reducible refine Kx.p_par3 ?_
    | ((with_reducible refine Kx.z_gl3 (x := ?zx) (y := ?zy) (z := ?zz) ?zh ?zq); (case zh => row_cond hp))
    | ((with_reducible refine Kx.z_gtG2 (x := ?zx) (y := ?zy) ?zh ?zq); (case zh => row_cond hp))
    | with_reducible refine Kx.z_cm ?_
    | with_reducible refine Kx.p_cm ?_
    | with_reducible refine Kx.z_prs ?_
    | with_reducible refine Kx.z_prn ?_
    | dsimp only)
local macro_rules
  | `(tactic| row_cond zz) => `(tactic| repeat (row_cond zs))

section
variable {P : Program} {w : World} {K : PySem.W.Frag} {mg : Str → Option Value} {base : Heap}
def spSits (K : PySem.W.Frag) : Sp := fun vs H Q _ => ∃ r g lim m cs si k l, vs = [.ref r] ∧ RunAt K H r g lim m cs si k ∧ SitL H si l ∧ ∀ H' t, Same H H' → TD H' (.ref t) (.tuple (l.map eSit)) → Q (.ref t) H'
theorem sc_Run_situations : FnScope ["self"] ["self"] (defScope (inClass (Kx.top 50) 6)) := ⟨rfl, rfl, rfl, by decide +kernel, rfl, by decide +kernel, by decide +kernel⟩
theorem f_situations (T2 : Txr K mg) : ∃ fd, FnOk P w K mg base C8.CX0 1 (He5.wf K (aR K) "property" "situations") fd ["self"] (spSits K) ∧ L2.Binds K fd ["self"] [] := by
  obtain ⟨fd, F⟩ := T2.psits.fn
  have T := T2.t
  have b := F.binds (ps := ["self"]) (fun _ _ _ _ _ _ us hl => match us, hl with | [_], _ => rfl)
  refine ⟨fd, ?_, b⟩
  refine F.ok sc_Run_situations (fun vs H Q E h => ?_) (fun cdv A outer s H vs Q E hr h => ?_)
  · obtain ⟨r, g, lim, m, cs, si, k, l, rfl, _⟩ := h
    rfl
  · obtain ⟨r, g, lim, m, cs, si, k, l, rfl, hra, ⟨ys, hsi, tys⟩, hq⟩ := h
    obtain ⟨dx, fs, ch, h1, h2, h3, h4, h5, h6, h7, h8, h9⟩ := hra
    refine ⟨_, (pss_one (ps_ret (pe_callTy (k_ctup (K := K) rfl) rfl (T.b "tuple") boot_tuple (pa_cons (k_fld (K := K) rfl (pv 0) rfl) pa_nil)))), ?_⟩
    row_cond zz
    refine p_tupL hsi fun t H1 ht s1 e1 => ?_
    exact hq _ _ s1 (.tup e1 (tys.sm s1))
def spSit (K : PySem.W.Frag) : Sp := fun vs H Q _ => ∃ r g lim m cs si k l st, vs = [.ref r] ∧ RunAt K H r g lim m cs si k ∧ SitL H si l ∧ l.getLast? = some st ∧ ∀ v, TD H v (eSit st) → Q v H
theorem sc_Run_situation : FnScope ["self"] ["self"] (defScope (inClass (Kx.top 50) 7)) := ⟨rfl, rfl, rfl, by decide +kernel, rfl, by decide +kernel, by decide +kernel⟩
theorem f_situation (T2 : Txr K mg) : ∃ fd, FnOk P w K mg base C8.CX0 1 (He5.wf K (aR K) "property" "situation") fd ["self"] (spSit K) ∧ L2.Binds K fd ["self"] [] := by
  obtain ⟨fd, F⟩ := T2.psit.fn
  have T := T2.t
  have b := F.binds (ps := ["self"]) (fun _ _ _ _ _ _ us hl => match us, hl with | [_], _ => rfl)
  refine ⟨fd, ?_, b⟩
  refine F.ok sc_Run_situation (fun vs H Q E h => ?_) (fun cdv A outer s H vs Q E hr h => ?_)
  · obtain ⟨r, g, lim, m, cs, si, k, l, st, rfl, _⟩ := h
    rfl
  · obtain ⟨r, g, lim, m, cs, si, k, l, st, rfl, hra, ⟨ys, hsi, tys⟩, hst, hq⟩ := h
    obtain ⟨dx, fs, ch, h1, h2, h3, h4, h5, h6, h7, h8, h9⟩ := hra
    have hyl : ys.length = l.length := by rw [tys.length, List.length_map]
    rw [List.getLast?_eq_getElem?] at hst
    have hpos := (List.getElem?_eq_some_iff.mp hst).1
    obtain ⟨v, hv, tv⟩ := tys.get' (i := l.length - 1) (d := eSit st) (by rw [List.getElem?_map, hst]; rfl)
    refine ⟨_, (pss_one (ps_ret (k_ix (K := K) rfl (k_fld (K := K) rfl (pv 0) rfl) (pe_un o_neg pe_int) (fun _ _ => rfl)))), ?_⟩
    row_cond zz
    exact p_xL hsi (atI_lastN (by rw [hyl]; exact hv) (by omega)) (hq v tv)
def spRef (K : PySem.W.Frag) : Sp := fun vs H Q _ => ∃ r g lim m cs si k, vs = [.ref r] ∧ RunAt K H r g lim m cs si k ∧ Q (.int (k : Nat)) H
theorem sc_Run_refused : FnScope ["self"] ["self"] (defScope (inClass (Kx.top 50) 11)) := ⟨rfl, rfl, rfl, by decide +kernel, rfl, by decide +kernel, by decide +kernel⟩
theorem f_refused (T2 : Txr K mg) : ∃ fd, FnOk P w K mg base C8.CX0 1 (He5.wf K (aR K) "property" "refused") fd ["self"] (spRef K) ∧ L2.Binds K fd ["self"] [] := by
  obtain ⟨fd, F⟩ := T2.pref.fn
  have T := T2.t
  have b := F.binds (ps := ["self"]) (fun _ _ _ _ _ _ us hl => match us, hl with | [_], _ => rfl)
  refine ⟨fd, ?_, b⟩
  refine F.ok sc_Run_refused (fun vs H Q E h => ?_) (fun cdv A outer s H vs Q E hr h => ?_)
  · obtain ⟨r, g, lim, m, cs, si, k, rfl, _⟩ := h
    rfl
  · obtain ⟨r, g, lim, m, cs, si, k, rfl, hra, hq⟩ := h
    obtain ⟨dx, fs, ch, h1, h2, h3, h4, h5, h6, h7, h8, h9⟩ := hra
    refine ⟨_, (pss_one (ps_ret (k_fld (K := K) rfl (pv 0) rfl))), ?_⟩
    row_cond zz
    exact hq
/-! ### require_limit, that raises -/
def spReqX (K : PySem.W.Frag) : Sp := fun vs H Q E => ∃ x t, vs = [x] ∧ TyN H x t ∧ ((isLim x = true ∧ Q .non H) ∨ (isLim x = false ∧ E (.ref (He.ga K "InvalidLimit")) none H))
theorem f_require_limit (T2 : Txr K mg) : ∃ fd, FnOk P w K mg base (L2.CX P w) 5 (He.ga K "require_limit") fd ["limit"] (spReqX K) ∧ L2.Binds K fd ["limit"] [] ∧ mg "require_limit" = some (.ref (He.ga K "require_limit")) ∧ PySem.W.keepIn K (.ref (He.ga K "require_limit")) = true := by
  have T := T2.t
  obtain ⟨⟨fd, F⟩, g⟩ := T.fn 6 "require_limit" _ rfl
  have b := F.binds (ps := ["limit"]) (fun _ _ _ _ _ _ us hl => match us, hl with | [_], _ => rfl)
  refine ⟨fd, ?_, b, g, F.kp⟩
  refine F.okX sc_require_limit (fun vs H Q E h => ?_) (fun cdv A outer s H vs Q E hr h => ?_)
  · obtain ⟨x, t, rfl, _⟩ := h
    rfl
  · obtain ⟨x, t, rfl, ht, h⟩ := h
    have tk : Takes (cxOf (L2.CX P w) P w K mg base ["limit"] "require_limit" (defScope (top 20)) (He.ga K "require_limit") cdv A outer s H E) (fun cls d _ H => E cls d H) := takes_of rfl rfl rfl rfl
    refine ⟨_, (pss_one (ps_if (pt_not (pt_val (C8.pe_c (c_is_limit T) hr (by decide) rfl (pa_cons (pv 0) pa_nil)))) (pss_one (ps_raise rfl tk (pmk_own PySem.F.excBase_ValueError T2.xl.q T2.xl.g T2.xl.kp (raises_own T2.xl.sb T2.xl.ty) rfl))) pss_nil)), ?_⟩
    row_cond zz
    refine ⟨_, _, rfl, ht, ?_⟩
    rcases h with ⟨hx, hq⟩ | ⟨hx, hq⟩
    · rw [hx]
      row_cond zz
      exact hq
    · rw [hx]
      row_cond zz
      exact hq
/-! ### at -/
def spAt (K : PySem.W.Frag) : Sp := fun vs H Q E => ∃ r g p lim m cs si k x, vs = [.ref r, x] ∧ PrgOk p ∧ GAt K H g p ∧ RunAt K H r g lim m cs si k ∧ cs.length ≤ 800 ∧ m ∈ p.starts ∧
  ((∃ t, TyN H x t ∧ isLim x = false ∧ ∀ H', Same H H' → E (.ref (He.ga K "InvalidLimit")) none H') ∨
    ∃ lim', x = vO lim' ∧ limOk lim' ∧ (wentF p lim' m cs = none → ∀ H', Same H H' → E (.ref (He.ga K "InvalidOperation")) none H') ∧
      ∀ l k', wentF p lim' m cs = some (l, k') → ∀ H' a si', Same H H' → RunAt K H' a g lim' m cs si' k' → SitL H' si' l → Q (.ref a) H')
theorem sc_Run_at : FnScope ["self", "limit"] ["self", "limit"] (defScope (inClass (Kx.top 50) 13)) := ⟨rfl, rfl, rfl, by decide +kernel, rfl, by decide +kernel, by decide +kernel⟩
theorem f_Run_at (T2 : Txr K mg) : ∃ fd, FnOk P w K mg base (L2.CX P w) 9 (He.ma K (aR K) "at") fd ["self", "limit"] (spAt K) ∧ L2.Binds K fd ["self", "limit"] [] := by
  have T := T2.t
  obtain ⟨fd, F⟩ := T2.ratf
  obtain ⟨fdX, FX, bX, gX, kX⟩ := f_require_limit (P := P) (w := w) (base := base) T2
  have b := F.binds (ps := ["self", "limit"]) (fun _ _ _ _ _ _ us hl => match us, hl with | [_, _], _ => rfl)
  refine ⟨fd, ?_, b⟩
  refine F.okX sc_Run_at (fun vs H Q E h => ?_) (fun cdv A outer s H vs Q E hr h => ?_)
  · obtain ⟨r, g, p, lim, m, cs, si, k, x, rfl, _⟩ := h
    rfl
  · obtain ⟨r, g, p, lim, m, cs, si, k, x, rfl, okp, hg, hra, hcl, hm, h⟩ := h
    obtain ⟨dx, fs, ch, h1, h2, h3, h4, h5, h6, h7, h8, h9⟩ := hra
    have tk : Takes (cxOf (L2.CX P w) P w K mg base ["self", "limit"] "Run.at" (defScope (inClass (Kx.top 50) 13)) (He.ma K (aR K) "at") cdv A outer s H E) (fun cls d _ H => E cls d H) := takes_of rfl rfl rfl rfl
    refine ⟨_, (pss_cons (ps_expr (pe_callS FX (hr.mono (by decide)) rfl gX kX bX (fun σ => passAt tk σ) (pa_cons (pv 1) pa_nil)))
      (pss_cons (ps_if (pt_cmpR o_isN (C8.pe_c (c_went T) hr (by decide) rfl (pa_cons (k_fld (K := K) rfl (pv 0) rfl) (pa_cons (pv 1) (pa_cons (k_fld (K := K) rfl (pv 0) rfl) (pa_cons (k_fld (K := K) rfl (pv 0) rfl) pa_nil))))) pe_non (nomark _)) (pss_one (ps_raise rfl tk (pmk_own PySem.F.excBase_ValueError T2.xo.q T2.xo.g T2.xo.kp (raises_own T2.xo.sb T2.xo.ty) rfl))) pss_nil)
      (pss_one (ps_ret (pe_makeS T.cR.maker (f_Run_init T) (hr.mono (by decide)) rfl T.cR.g pass0 (pa_cons (k_fld (K := K) rfl (pv 0) rfl) (pa_cons (pv 1) (pa_cons (k_fld (K := K) rfl (pv 0) rfl) (k_star (K := K) rfl (k_fld (K := K) rfl (pv 0) rfl) pa_nil))))))))), ?_⟩
    row_cond zz
    rcases h with ⟨t, ht, hx, hq⟩ | ⟨lim', rfl, hlim, hn, hq⟩
    · exact ⟨x, t, rfl, ht, .inr ⟨hx, hq _ (Same.refl _)⟩⟩
    · obtain ⟨t, ht⟩ := tyO H lim'
      refine ⟨_, t, rfl, ht, .inl ⟨hlim, ?_⟩⟩
      row_cond zz
      refine ⟨g, p, lim', m, ch, cs, rfl, okp, hg, h8, hcl, fun hw H1 s1 => ?_, fun l k' hw H1 q si' ys s1 hsi er esi tys => ?_⟩
      · row_cond zz
        exact hn hw _ s1
      · row_cond zz
        have h1' := Kx.Same.get s1 h1
        have h8' := Kx.Same.get s1 h8
        row_cond zz
        refine p_mk fun x dx2 H2 hx2 s2 ex => ⟨[.ref x, .ref g, vO lim', .int m], cs.map V.int ++ [], rfl, rfl, by rw [List.append_nil, List.length_map]; exact Nat.le_trans hcl (by decide), fun z hz => ?_⟩
        have s3 : Same H2 (upd H2 z (.tup (cs.map V.int ++ []))) := same_new hz
        refine ⟨x, dx2, g, lim', m, z, cs, p, l, k', rfl, okp, hg.sm (s1.trans (s2.trans s3)), Kx.Same.get s3 ex, ?_, hcl, hm, hlim, hw, fun H3 si3 k3 hr3 hs3 => ⟨rfl, ?_⟩⟩
        · rw [upd_same, List.append_nil]
        · exact hq l k' hw H3 x si3 (s1.trans (KB.same (s2.trans s3) hx2 k3)) hr3 hs3
end
end Kx

/- part K16 -/
/-! # K16: the draws -/
namespace Kx
open PySem PySem.Spec PyProof.Rows L2
def rPowW : R2 := rI (fun i j => 0 ≤ j ∧ (Builtin.Int.intBits i : Int) * j ≤ 2 ^ 27) fun i j => .int (i ^ j.toNat)
theorem o_powW {X : Cx} : OpR X (binaryOp .Pow) rPowW := opI fun _ _ _ _ _ _ _ hc q => PyProof.Rows.pow_int hc.1 hc.2 q
def pSub (t : TSet) (v : V) (σ : L2.St) (QS : L2.St → Hp → Prop) (o : V) : VK := fun i H2 => t o i v H2 fun H3 => QS σ H3
section
variable {K : PySem.W.Frag} {H : Hp} {Q : VK} {a : Addr} {i j : Int} {xs : List V} {v : V} {σ : L2.St} {QS : L2.St → Hp → Prop} {to ti : TE} {t : TSet}
theorem z_gsub (h : to σ H fun o H1 => ti σ H1 (pSub t v σ QS o)) : gSub to ti t v σ H QS := h
theorem p_setL {k : Nat} (h : H a = some (.lst xs)) (e : ixN xs.length i = some k) (q : QS σ (upd H a (.lst (xs.set k v)))) : pSub rSetL v σ QS (.ref a) (.int i) H := ⟨a, xs, i, k, rfl, rfl, h, e, q⟩
theorem p_modP (h : 0 < j) (q : Q (.int (i % j)) H) : rMod (.int i) (.int j) H Q := p_mod h q
theorem p_mulR (h : -(2 ^ 64) < j ∧ j < 2 ^ 64) (q : Q (.int (i * j)) H) : rMul (.int i) (.int j) H Q := p_mul (.inr h) q
theorem p_mulL (h : -(2 ^ 64) < i ∧ i < 2 ^ 64) (q : Q (.int (i * j)) H) : rMul (.int i) (.int j) H Q := p_mul (.inl h) q
theorem p_powS (h : 0 ≤ j ∧ j ≤ 1000000 ∧ i.natAbs < 2 ^ 64) (q : Q (.int (i ^ j.toNat)) H) : rPow (.int i) (.int j) H Q := p_pow h q
theorem p_fdvS (h : 0 < j ∧ j < 1073741824) (q : Q (.int (i / j)) H) : rFdv (.int i) (.int j) H Q := p_fdv h q
theorem p_powW (h : 0 ≤ j ∧ (Builtin.Int.intBits i : Int) * j ≤ 2 ^ 27) (q : Q (.int (i ^ j.toNat)) H) : rPowW (.int i) (.int j) H Q := ⟨i, j, rfl, rfl, h, q⟩
end
theorem sb_upd {d : Addr} {H : Hp} {a b c : Int} : SB d H (upd H d (.lst [.int a, .int b, .int c])) := ⟨⟨a, b, c, upd_same⟩, fun e o n q => by
  rw [upd_ne n]
  exact q⟩
local macro_rules
  | `(tactic| row_cond hp) => `(tactic| first
    | assumption
    | exact upd_same
    | (refine Kx.Same.get (by assumption) ?_; row_cond hp)
    | (refine Kx.SB.get (by assumption) (by assumption) ?_ rfl; row_cond hp)
    | (refine Kx.SB.getL (by assumption) (by assumption) ?_; row_cond hp))
local macro_rules
  | `(tactic| row_cond zs) => `(tactic| first
    | ((with_reducible refine Kx.z_var (v := ?zval) ?zv ?zq); (case zv => rfl))
    | with_reducible refine Kx.z_c ?_
    | with_reducible refine Kx.z_cons ?_
    | with_reducible refine Kx.z_nil ?_
    | with_reducible refine Kx.z_op ?_
    | with_reducible refine Kx.z_cB ?_
    | with_reducible refine Kx.z_call ?_
    | with_reducible refine Kx.z_fld ?_
    | with_reducible refine Kx.z_tup ?_
    | with_reducible refine Kx.z_lst ?_
    | with_reducible refine Kx.z_test ?_
    | with_reducible refine Kx.z_tB ?_
    | with_reducible refine Kx.p_bl ?_
    | with_reducible refine Kx.z_iteT ?_
    | with_reducible refine Kx.z_iteF ?_
    | with_reducible refine Kx.z_seq ?_
    | with_reducible refine Kx.z_ret ?_
    | with_reducible refine Kx.z_set ?_
    | with_reducible refine Kx.z_drop ?_
    | with_reducible refine Kx.z_if ?_
    | with_reducible refine Kx.z_next ?_
    | with_reducible refine Kx.z_and ?_
    | with_reducible refine Kx.z_or ?_
    | with_reducible refine Kx.z_not ?_
    | with_reducible refine Kx.z_andV ?_
    | with_reducible refine Kx.z_orV ?_
    | with_reducible refine Kx.z_notV ?_
    | with_reducible refine Kx.z_ifE ?_
    | with_reducible refine Kx.z_chain ?_
    | with_reducible refine Kx.z_dget ?_
    | with_reducible refine Kx.z_un ?_
    | with_reducible refine Kx.z_asg ?_
    | with_reducible refine Kx.z_retN ?_
    | with_reducible refine Kx.z_iteNT ?_
    | with_reducible refine Kx.z_iteNF ?_
    | with_reducible refine Kx.p_add ?_
    | with_reducible refine Kx.p_sub ?_
    | with_reducible refine Kx.p_lt ?_
    | with_reducible refine Kx.p_le ?_
    | with_reducible refine Kx.p_gt ?_
    | with_reducible refine Kx.p_ge ?_
    | with_reducible refine Kx.p_neg ?_
    | with_reducible refine Kx.p_eqI ?_
    | with_reducible refine Kx.p_eqS ?_
    | with_reducible refine Kx.p_neI ?_
    | with_reducible refine Kx.p_eqNN ?_
    | with_reducible refine Kx.p_isN ?_
    | with_reducible refine Kx.p_isNi ?_
    | with_reducible refine Kx.p_isNr ?_
    | with_reducible refine Kx.p_notN ?_
    | with_reducible refine Kx.p_notNi ?_
    | with_reducible refine Kx.p_notNr ?_
    | with_reducible refine Kx.p_intI ?_
    | with_reducible refine Kx.p_intB ?_
    | with_reducible refine Kx.p_abs ?_
    | with_reducible refine Kx.p_mx2 ?_
    | with_reducible refine Kx.p_mn2 ?_
    | ((with_reducible refine Kx.p_ixT (xs := ?zxs) (v := ?zval) ?zh ?ze ?zq); (case zh => row_cond hp); (case ze => rfl))
    | ((with_reducible refine Kx.p_ixL (xs := ?zxs) (v := ?zval) ?zh ?ze ?zq); (case zh => row_cond hp); (case ze => rfl))
    | ((with_reducible refine Kx.p_lenT (xs := ?zxs) ?zh ?zq); (case zh => row_cond hp))
    | ((with_reducible refine Kx.p_lenL (xs := ?zxs) ?zh ?zq); (case zh => row_cond hp))
    | ((with_reducible refine Kx.p_xT (xs := ?zxs) (v := ?zval) ?zh ?ze ?zq); (case zh => row_cond hp); (case ze => rfl))
    | ((with_reducible refine Kx.p_xL (xs := ?zxs) (v := ?zval) ?zh ?ze ?zq); (case zh => row_cond hp); (case ze => rfl))
    | with_reducible refine Kx.p_qI ?_
    | with_reducible refine Kx.p_qS ?_
    | with_reducible refine Kx.p_qNI ?_
    | with_reducible refine Kx.p_ltI ?_
    | with_reducible refine Kx.q_int_int ?_
    | with_reducible refine Kx.q_int_bool ?_
    | with_reducible refine Kx.q_int_str ?_
    | with_reducible refine Kx.q_int_tuple ?_
    | with_reducible refine Kx.q_bool_int ?_
    | with_reducible refine Kx.q_bool_bool ?_
    | with_reducible refine Kx.q_bool_str ?_
    | with_reducible refine Kx.q_bool_tuple ?_
    | with_reducible refine Kx.q_str_int ?_
    | with_reducible refine Kx.q_str_bool ?_
    | with_reducible refine Kx.q_str_str ?_
    | with_reducible refine Kx.q_str_tuple ?_
    | with_reducible refine Kx.q_NoneType_int ?_
    | with_reducible refine Kx.q_NoneType_bool ?_
    | with_reducible refine Kx.q_NoneType_str ?_
    | with_reducible refine Kx.q_NoneType_tuple ?_
    | ((with_reducible refine Kx.q_tuple_int (xs := ?zxs) ?zh ?zq); (case zh => row_cond hp))
    | ((with_reducible refine Kx.q_tuple_bool (xs := ?zxs) ?zh ?zq); (case zh => row_cond hp))
    | ((with_reducible refine Kx.q_tuple_str (xs := ?zxs) ?zh ?zq); (case zh => row_cond hp))
    | ((with_reducible refine Kx.q_tuple_tuple (xs := ?zxs) ?zh ?zq); (case zh => row_cond hp))
    | ((with_reducible refine Kx.q_list_int (xs := ?zxs) ?zh ?zq); (case zh => row_cond hp))
    | ((with_reducible refine Kx.q_list_bool (xs := ?zxs) ?zh ?zq); (case zh => row_cond hp))
    | ((with_reducible refine Kx.q_list_str (xs := ?zxs) ?zh ?zq); (case zh => row_cond hp))
    | ((with_reducible refine Kx.q_list_tuple (xs := ?zxs) ?zh ?zq); (case zh => row_cond hp))
    | ((with_reducible refine Kx.q_dict_int (kvs := ?zxs) ?zh ?zq); (case zh => row_cond hp))
    | ((with_reducible refine Kx.q_dict_bool (kvs := ?zxs) ?zh ?zq); (case zh => row_cond hp))
    | ((with_reducible refine Kx.q_dict_str (kvs := ?zxs) ?zh ?zq); (case zh => row_cond hp))
    | ((with_reducible refine Kx.q_dict_tuple (kvs := ?zxs) ?zh ?zq); (case zh => row_cond hp))
    | with_reducible refine Kx.z_gn ?_
    | ((with_reducible refine Kx.z_gt2 (x := ?zx) (y := ?zy) ?zh ?zq); (case zh => row_cond hp))
    | ((with_reducible refine Kx.z_gt3 (x := ?zx) (y := ?zy) (z := ?zz) ?zh ?zq); (case zh => row_cond hp))
    | with_reducible refine Kx.z_lcT ?_
    | with_reducible refine Kx.z_lcL ?_
    | with_reducible refine Kx.z_lcS ?_
    | with_reducible refine Kx.z_lcR ?_
    | with_reducible refine Kx.z_lcZ ?_
    | with_reducible refine Kx.z_yes ?_
    | ((with_reducible refine Kx.z_wip ?zh ?zq); (case zh => rfl))
    | ((with_reducible refine Kx.z_LK ?zh ?zq); (case zh => rfl))
    | with_reducible refine Kx.z_lc2T ?_
    | with_reducible refine Kx.z_lc2L ?_
    | with_reducible refine Kx.z_inT ?_
    | with_reducible refine Kx.z_inL ?_
    | ((with_reducible refine Kx.z_LK2 ?zh ?zq); (case zh => rfl))
    | with_reducible refine Kx.z_sl ?_
    | with_reducible refine Kx.z_nop ?_
    | with_reducible refine Kx.z_part ?_
    | with_reducible refine Kx.z_exi ?_
    | with_reducible refine Kx.p_isNb ?_
    | with_reducible refine Kx.p_isNs ?_
    | with_reducible refine Kx.z_match ?_
    | ((with_reducible refine Kx.z_caseT (y := ?zy) (xs := ?zxs) ?zh ?zl ?zf ?zq); (case zh => row_cond hp); (case zl => rfl); (case zf => rfl))
    | ((with_reducible refine Kx.z_caseL (y := ?zy) (xs := ?zxs) ?zh ?zl ?zq); (case zh => row_cond hp); (case zl => (intro z; cases z)))
    | ((with_reducible refine Kx.z_caseF (y := ?zy) (xs := ?zxs) ?zh ?zf ?zq); (case zh => row_cond hp); (case zf => rfl))
    | with_reducible refine Kx.z_mnil ?_
    | with_reducible refine Kx.z_lcE ?_
    | with_reducible refine Kx.z_forT ?_
    | with_reducible refine Kx.z_forL ?_
    | with_reducible refine Kx.z_forR ?_
    | with_reducible refine Kx.z_forC ?_
    | ((with_reducible refine Kx.p_fP (dx := ?zd) (fs := ?zfs) (v := ?zv) (by assumption) ?zh ?zl ?zf ?zq); (case zh => row_cond hp); (case zl => assumption); (case zf => decide +kernel))
    | ((with_reducible refine Kx.p_fG (dx := ?zd) (fs := ?zfs) (v := ?zv) (by assumption) ?zh ?zl ?zf ?zq); (case zh => row_cond hp); (case zl => assumption); (case zf => decide +kernel))
    | ((with_reducible refine Kx.p_fR (dx := ?zd) (fs := ?zfs) (v := ?zv) (by assumption) ?zh ?zl ?zf ?zq); (case zh => row_cond hp); (case zl => assumption); (case zf => decide +kernel))
    | ((with_reducible refine Kx.p_dgetS (kvs := ?zk) (v := ?zv) ?zh ?ze ?zq); (case zh => row_cond hp); (case ze => assumption))
    | with_reducible refine Kx.z_star ?_
    | ((with_reducible refine Kx.p_star (xs := ?zxs) ?zh ?zq); (case zh => row_cond hp))
    | with_reducible refine Kx.z_bm ?_
    | with_reducible refine Kx.p_ip ?_
    | with_reducible refine Kx.z_lss ?_
    | with_reducible refine Kx.z_dcT ?_
    | with_reducible refine Kx.z_sf ?_
    | with_reducible refine Kx.z_dnew ?_
    | with_reducible refine Kx.z_mk ?_
    | with_reducible refine Kx.z_callS ?_
    | with_reducible refine Kx.z_gsub ?_
    | ((with_reducible refine Kx.p_setL (xs := ?zxs) (k := ?zk) ?zh ?ze ?zq); (case zh => row_cond hp); (case ze => rfl))
    | ((with_reducible refine Kx.p_modP ?zh ?zq); (case zh => first | assumption | decide +kernel))
    | ((with_reducible refine Kx.p_mulR ?zh ?zq); (case zh => first | assumption | decide +kernel))
    | ((with_reducible refine Kx.p_mulL ?zh ?zq); (case zh => first | assumption | decide +kernel))
    | ((with_reducible refine Kx.p_powS ?zh ?zq); (case zh => first | assumption | decide +kernel))
    | ((with_reducible refine Kx.p_powW ?zh ?zq); (case zh => first | assumption | decide +kernel))
    | ((with_reducible refine Kx.p_fdvS ?zh ?zq); (case zh => first | assumption | decide +kernel))
    | with_reducible refine Kx.z_par ?_
    | with_reducible refine Kx.p_par ?_
    | with_reducible refine Kx.z_par3 ?_
    | with_reducible refine Kx.p_par3 ?_
    | ((with_reducible refine Kx.z_gl3 (x := ?zx) (y := ?zy) (z := ?zz) ?zh ?zq); (case zh => row_cond hp))
    | ((with_reducible refine Kx.z_gtG2 (x := ?zx) (y := ?zy) ?zh ?zq); (case zh => row_cond hp))
    | with_reducible refine Kx.z_cm ?_
    | with_reducible refine Kx.p_cm ?_
    | with_reducible refine Kx.z_prs ?_
    | with_reducible refine Kx.z_prn ?_
    | dsimp only)
local macro_rules
  | `(tactic| row_cond zz) => `(tactic| repeat (row_cond zs))

section
variable {P : Program} {w : World} {K : PySem.W.Frag} {mg : Str → Option Value} {base : Heap}
def spNums (K : PySem.W.Frag) : Sp := fun vs H Q _ => ∃ (a : Addr) (ns : List Int) (i : Nat), vs = [.ref a, .int (i : Nat)] ∧ SqL K H a (ns.map V.int) ∧ ns.length ≤ 100000 ∧ i ≤ 100 ∧ ∀ H' d, Same H H' → H d = none → Die H' d → Q (.ref d) H'
theorem sc__law_numbers : FnScope ["_law_script", "_law_at", "_law_cell", "_law_whole", "_law_mixed"] ["_law_script", "_law_at"] (defScope (top 52)) := ⟨rfl, rfl, rfl, by decide +kernel, rfl, by decide +kernel, by decide +kernel⟩
theorem c__law_numbers (T : Txt K mg) : Cal P w K mg base 1 "_law_numbers" (spNums K) := by
  refine cal_of T 21 rfl sc__law_numbers (fun _ _ _ _ _ _ us hl => match us, hl with | [_, _], _ => rfl) (fun vs H Q E h => ?_) (fun f cdv A outer s H vs Q E hr h => ?_)
  · obtain ⟨a, ns, i, rfl, _⟩ := h
    rfl
  · obtain ⟨a, ns, i, rfl, ha, hn, hi, hq⟩ := h
    refine ⟨_, (pss_cons (ps_set (i := 2) sc__law_numbers.nd rfl (.inl rfl) (pe_ifExp (pt_cmpR o_lt (pv 1) (pe_callB (k_len (K := K) rfl) rfl (T.b "len") boot_len (pa_cons (pv 0) pa_nil)) (nomark _)) (k_ix (K := K) rfl (pv 0) (pv 1) (fun _ _ => rfl)) (pe_op o_add (pe_op o_mul pe_int (pv 1)) pe_int)))
      (pss_cons (ps_set (i := 3) sc__law_numbers.nd rfl (.inl rfl) (pe_op o_mod (pe_callTy c_int rfl (T.b "int") boot_int (pa_cons (pe_callB c_abs rfl (T.b "abs") boot_abs (pa_cons (pv 2) pa_nil)) pa_nil)) (pe_op o_powW (pe_op o_pow pe_int pe_int) pe_int)))
      (pss_cons (ps_set (i := 4) sc__law_numbers.nd rfl (.inl rfl) (pe_op o_add (pe_op o_add (pe_op o_add (pe_op o_mul (pv 3) pe_int) (pe_op o_mul pe_int (pv 1))) (pe_op o_mul pe_int (pe_callTy c_int rfl (T.b "int") boot_int (pa_cons (pe_cmpR o_lt (pv 2) pe_int (nomark _)) pa_nil)))) pe_int))
      (pss_one (ps_ret (pe_lst (pa_cons (pe_callB (c_mx2 rfl) rfl (T.b "max") boot_max (pa_cons pe_int (pa_cons (pe_op o_sub (pv 3) (pe_op o_pow pe_int pe_int)) pa_nil))) (pa_cons (pe_op o_mod (pe_callTy c_int rfl (T.b "int") boot_int (pa_cons (pv 4) pa_nil)) pe_int) (pa_cons pe_int pa_nil))))))))), ?_⟩
    row_cond zz
    refine ⟨.ref a, (ns.map V.int).length, rfl, .inl ⟨_, ha, rfl⟩, ?_⟩
    row_cond zz
    by_cases hlt : i < ns.length
    · refine z_iteD (by rw [List.length_map]; omega) ?_
      obtain ⟨c, hc⟩ : ∃ c, ns[i]? = some c := ⟨_, List.getElem?_eq_getElem hlt⟩
      row_cond zz
      refine .inr ⟨a, _, _, .int c, rfl, rfl, ha, atI_nat (by rw [List.getElem?_map, hc]; rfl), ?_⟩
      row_cond zz
      refine p_lst (Nat.le_of_ble_eq_true rfl) fun d H1 hd s1 e1 => ?_
      exact hq _ _ s1 hd ⟨_, _, _, e1⟩
    · refine z_iteDF (by rw [List.length_map]; omega) ?_
      row_cond zz
      refine p_lst (Nat.le_of_ble_eq_true rfl) fun d H1 hd s1 e1 => ?_
      exact hq _ _ s1 hd ⟨_, _, _, e1⟩
/-! ### _law_cast -/
def spCast : Sp := fun vs H Q _ => ∃ d n, vs = [.ref d, .int n] ∧ Die H d ∧ 0 < n ∧ n < 1000000 ∧ ∀ H' r, SB d H H' → 0 ≤ r → r < n → Q (.int r) H'
theorem sc__law_cast : FnScope ["_law_die", "_law_total", "_law_found", "_law_one", "_law_two"] ["_law_die", "_law_total"] (defScope (top 53)) := ⟨rfl, rfl, rfl, by decide +kernel, rfl, by decide +kernel, by decide +kernel⟩
theorem c__law_cast (T : Txt K mg) : Cal P w K mg base 1 "_law_cast" spCast := by
  refine cal_of T 22 rfl sc__law_cast (fun _ _ _ _ _ _ us hl => match us, hl with | [_, _], _ => rfl) (fun vs H Q E h => ?_) (fun f cdv A outer s H vs Q E hr h => ?_)
  · obtain ⟨d, n, rfl, _⟩ := h
    rfl
  · obtain ⟨d, n, rfl, ⟨x, y, z, hd⟩, h0, h1, hq⟩ := h
    refine ⟨_, (pss_cons (ps_if (pt_cmpR o_gt (k_ix (K := K) rfl (pv 0) pe_int (fun _ _ => rfl)) pe_int (nomark _)) (pss_cons (ps_set (i := 2) sc__law_cast.nd rfl (.inl rfl) (pe_op o_mod (pe_callTy c_int rfl (T.b "int") boot_int (pa_cons (k_ix (K := K) rfl (pv 0) pe_int (fun _ _ => rfl)) pa_nil)) (pv 1)))
      (pss_cons (ps_asg (pe_op o_fdv (k_ix (K := K) rfl (pv 0) pe_int (fun _ _ => rfl)) (pv 1)) (pg_sub (pv 0) pe_int set_list))
      (pss_one (ps_ret (pv 2))))) pss_nil)
      (pss_cons (ps_asg (pe_op o_add (k_ix (K := K) rfl (pv 0) pe_int (fun _ _ => rfl)) pe_int) (pg_sub (pv 0) pe_int set_list))
      (pss_cons (ps_set (i := 3) sc__law_cast.nd rfl (.inl rfl) (pe_op o_mod (pe_callTy c_int rfl (T.b "int") boot_int (pa_cons (pe_op o_add (k_ix (K := K) rfl (pv 0) pe_int (fun _ _ => rfl)) (pe_op o_mul pe_int (k_ix (K := K) rfl (pv 0) pe_int (fun _ _ => rfl)))) pa_nil)) pe_int))
      (pss_cons (ps_set (i := 4) sc__law_cast.nd rfl (.inl rfl) (pe_op o_add (pe_op o_mul (pe_op o_mod (pe_callTy c_int rfl (T.b "int") boot_int (pa_cons (pe_op o_mul (pv 3) (pv 3)) pa_nil)) pe_int) (pv 3)) (pe_op o_mul pe_int (k_ix (K := K) rfl (pv 0) pe_int (fun _ _ => rfl)))))
      (pss_one (ps_ret (pe_op o_mod (pe_callTy c_int rfl (T.b "int") boot_int (pa_cons (pe_op o_fdv (pe_op o_mod (pe_callTy c_int rfl (T.b "int") boot_int (pa_cons (pe_op o_add (pv 4) (k_ix (K := K) rfl (pv 0) pe_int (fun _ _ => rfl))) pa_nil)) pe_int) pe_int) pa_nil)) (pv 1)))))))), ?_⟩
    have hn : 0 < n ∧ n < 1073741824 := ⟨h0, by omega⟩
    row_cond zz
    refine z_ite2 (fun hx => ?_) fun hx => ?_
    · row_cond zz
      refine hq _ _ sb_upd (Int.emod_nonneg _ (by omega)) (Int.emod_lt_of_pos _ h0)
    · row_cond zz
      have hone : ∀ i : Int, -(2 ^ 64) < i % 2305843009213693907 ∧ i % 2305843009213693907 < 2 ^ 64 := fun i => by
        have h1 := Int.emod_nonneg i (b := 2305843009213693907) (by decide)
        have h2 := Int.emod_lt_of_pos i (b := 2305843009213693907) (by decide)
        omega
      refine p_mulR (hone _) ?_
      row_cond zz
      refine p_mulR (hone _) ?_
      row_cond zz
      exact hq _ _ sb_upd (Int.emod_nonneg _ (by omega)) (Int.emod_lt_of_pos _ h0)
end
end Kx

/- part K17 -/
/-! # K17: picks, shuffles, subsets -/
namespace Kx
open PySem PySem.Spec PyProof.Rows L2
section
variable {X : Cx} {K : PySem.W.Frag} {o e : Expr} {es : List Expr} {to : TE} {t : TA} {name : Str} {apos cpos : Pos} {T id : String} {r : V → List V → Hp → VK → Prop}
theorem k_bm (h : X.K = K) (pa : PlainAttrs T) (slot : Slot T name id) (hty : typeOf (.builtin id) = pure (.type "method_descriptor")) (hm : MtR X id r) (ho : PE X o to) (ha : PA X (e :: es) t)
    (hbase : attributeBase o name X.env (eval o X.env) = eval o X.env := by rfl)
    (hfew : ((backTo cpos (starEach (e :: es) X.env)).all (fun x => !x.1) && (backToKw cpos (keywordEach [] X.env)).all (fun x => x.1.isSome)
      && decide ((e :: es).length + ([] : List Keyword).length + (if ([] : List Keyword).isEmpty then 0 else 1) < 30)) = true := by rfl)
    (hline : (apos.endLine == cpos.line) = true := by rfl) (hs : starEach (e :: es) X.env = (false, eval e X.env) :: starEach es X.env := by rfl) (hplain : (backTo cpos (starEach es X.env)).any (·.1) = false := by rfl) :
    PE X (.Call (.Attribute o name apos) (e :: es) [] cpos) (tBM K T r to t) := h ▸ pe_bm pa slot hty hm ho ha hbase hfew hline hs hplain
end
theorem tyL {K : PySem.W.Frag} {H : Hp} {a : Addr} {xs : List V} (h : H a = some (.lst xs)) : tyV K "list" (.ref a) H := .inl ⟨rfl, _, .inl (.inl h)⟩
theorem atI_in {xs : List V} {r : Int} (h0 : 0 ≤ r) (h1 : r < (xs.length : Nat)) : ∃ v, atI xs r = some v ∧ v ∈ xs := by
  obtain ⟨v, hv⟩ : ∃ v, xs[r.toNat]? = some v := ⟨_, List.getElem?_eq_getElem (by omega)⟩
  have h := atI_nat hv
  rw [show ((r.toNat : Nat) : Int) = r by omega] at h
  exact ⟨v, h, List.mem_of_getElem? hv⟩
theorem SB.of {d : Addr} {H H' : Hp} (D : Die H d) (s : Same H H') : SB d H H' := SB.of_same D s
theorem Die.ne0 {H : Hp} {d a : Addr} (D : Die H d) (h : H a = none) : a ≠ d := by
  obtain ⟨x, y, z, e⟩ := D
  exact (ne_of_none e h).symm
theorem erase_perm {xs : List V} {k : Nat} {y : V} (h : xs[k]? = some y) : ([y] ++ xs.eraseIdx k).Perm xs := by
  obtain ⟨hk, e⟩ := List.getElem?_eq_some_iff.mp h
  have e1 : xs = xs.take k ++ y :: xs.drop (k + 1) := by
    rw [← e, List.getElem_cons_drop, List.take_append_drop]
  rw [List.eraseIdx_eq_take_drop_succ]
  refine .trans ?_ (.of_eq e1.symm)
  show (y :: (xs.take k ++ xs.drop (k + 1))).Perm _
  exact List.perm_middle.symm
local macro_rules
  | `(tactic| row_cond hp) => `(tactic| first
    | assumption
    | exact upd_same
    | (refine Kx.Same.get (by assumption) ?_; row_cond hp)
    | (refine Kx.SB.get (by assumption) (by assumption) ?_ rfl; row_cond hp)
    | (refine Kx.SB.getL (by assumption) (by assumption) ?_; row_cond hp))
local macro_rules
  | `(tactic| row_cond zs) => `(tactic| first
    | ((with_reducible refine Kx.z_var (v := ?zval) ?zv ?zq); (case zv => rfl))
    | with_reducible refine Kx.z_c ?_
    | with_reducible refine Kx.z_cons ?_
    | with_reducible refine Kx.z_nil ?_
    | with_reducible refine Kx.z_op ?_
    | with_reducible refine Kx.z_cB ?_
    | with_reducible refine Kx.z_call ?_
    | with_reducible refine Kx.z_fld ?_
    | with_reducible refine Kx.z_tup ?_
    | with_reducible refine Kx.z_lst ?_
    | with_reducible refine Kx.z_test ?_
    | with_reducible refine Kx.z_tB ?_
    | with_reducible refine Kx.p_bl ?_
    | with_reducible refine Kx.z_iteT ?_
    | with_reducible refine Kx.z_iteF ?_
    | with_reducible refine Kx.z_seq ?_
    | with_reducible refine Kx.z_ret ?_
    | with_reducible refine Kx.z_set ?_
    | with_reducible refine Kx.z_drop ?_
    | with_reducible refine Kx.z_if ?_
    | with_reducible refine Kx.z_next ?_
    | with_reducible refine Kx.z_and ?_
    | with_reducible refine Kx.z_or ?_
    | with_reducible refine Kx.z_not ?_
    | with_reducible refine Kx.z_andV ?_
    | with_reducible refine Kx.z_orV ?_
    | with_reducible refine Kx.z_notV ?_
    | with_reducible refine Kx.z_ifE ?_
    | with_reducible refine Kx.z_chain ?_
    | with_reducible refine Kx.z_dget ?_
    | with_reducible refine Kx.z_un ?_
    | with_reducible refine Kx.z_asg ?_
    | with_reducible refine Kx.z_retN ?_
    | with_reducible refine Kx.z_iteNT ?_
    | with_reducible refine Kx.z_iteNF ?_
    | with_reducible refine Kx.p_add ?_
    | with_reducible refine Kx.p_sub ?_
    | with_reducible refine Kx.p_lt ?_
    | with_reducible refine Kx.p_le ?_
    | with_reducible refine Kx.p_gt ?_
    | with_reducible refine Kx.p_ge ?_
    | with_reducible refine Kx.p_neg ?_
    | with_reducible refine Kx.p_eqI ?_
    | with_reducible refine Kx.p_eqS ?_
    | with_reducible refine Kx.p_neI ?_
    | with_reducible refine Kx.p_eqNN ?_
    | with_reducible refine Kx.p_isN ?_
    | with_reducible refine Kx.p_isNi ?_
    | with_reducible refine Kx.p_isNr ?_
    | with_reducible refine Kx.p_notN ?_
    | with_reducible refine Kx.p_notNi ?_
    | with_reducible refine Kx.p_notNr ?_
    | with_reducible refine Kx.p_intI ?_
    | with_reducible refine Kx.p_intB ?_
    | with_reducible refine Kx.p_abs ?_
    | with_reducible refine Kx.p_mx2 ?_
    | with_reducible refine Kx.p_mn2 ?_
    | ((with_reducible refine Kx.p_ixT (xs := ?zxs) (v := ?zval) ?zh ?ze ?zq); (case zh => row_cond hp); (case ze => rfl))
    | ((with_reducible refine Kx.p_ixL (xs := ?zxs) (v := ?zval) ?zh ?ze ?zq); (case zh => row_cond hp); (case ze => rfl))
    | ((with_reducible refine Kx.p_lenT (xs := ?zxs) ?zh ?zq); (case zh => row_cond hp))
    | ((with_reducible refine Kx.p_lenL (xs := ?zxs) ?zh ?zq); (case zh => row_cond hp))
    | ((with_reducible refine Kx.p_xT (xs := ?zxs) (v := ?zval) ?zh ?ze ?zq); (case zh => row_cond hp); (case ze => rfl))
    | ((with_reducible refine Kx.p_xL (xs := ?zxs) (v := ?zval) ?zh ?ze ?zq); (case zh => row_cond hp); (case ze => rfl))
    | with_reducible refine Kx.p_qI ?_
    | with_reducible refine Kx.p_qS ?_
    | with_reducible refine Kx.p_qNI ?_
    | with_reducible refine Kx.p_ltI ?_
    | with_reducible refine Kx.q_int_int ?_
    | with_reducible refine Kx.q_int_bool ?_
    | with_reducible refine Kx.q_int_str ?_
    | with_reducible refine Kx.q_int_tuple ?_
    | with_reducible refine Kx.q_bool_int ?_
    | with_reducible refine Kx.q_bool_bool ?_
    | with_reducible refine Kx.q_bool_str ?_
    | with_reducible refine Kx.q_bool_tuple ?_
    | with_reducible refine Kx.q_str_int ?_
    | with_reducible refine Kx.q_str_bool ?_
    | with_reducible refine Kx.q_str_str ?_
    | with_reducible refine Kx.q_str_tuple ?_
    | with_reducible refine Kx.q_NoneType_int ?_
    | with_reducible refine Kx.q_NoneType_bool ?_
    | with_reducible refine Kx.q_NoneType_str ?_
    | with_reducible refine Kx.q_NoneType_tuple ?_
    | ((with_reducible refine Kx.q_tuple_int (xs := ?zxs) ?zh ?zq); (case zh => row_cond hp))
    | ((with_reducible refine Kx.q_tuple_bool (xs := ?zxs) ?zh ?zq); (case zh => row_cond hp))
    | ((with_reducible refine Kx.q_tuple_str (xs := ?zxs) ?zh ?zq); (case zh => row_cond hp))
    | ((with_reducible refine Kx.q_tuple_tuple (xs := ?zxs) ?zh ?zq); (case zh => row_cond hp))
    | ((with_reducible refine Kx.q_list_int (xs := ?zxs) ?zh ?zq); (case zh => row_cond hp))
    | ((with_reducible refine Kx.q_list_bool (xs := ?zxs) ?zh ?zq); (case zh => row_cond hp))
    | ((with_reducible refine Kx.q_list_str (xs := ?zxs) ?zh ?zq); (case zh => row_cond hp))
    | ((with_reducible refine Kx.q_list_tuple (xs := ?zxs) ?zh ?zq); (case zh => row_cond hp))
    | ((with_reducible refine Kx.q_dict_int (kvs := ?zxs) ?zh ?zq); (case zh => row_cond hp))
    | ((with_reducible refine Kx.q_dict_bool (kvs := ?zxs) ?zh ?zq); (case zh => row_cond hp))
    | ((with_reducible refine Kx.q_dict_str (kvs := ?zxs) ?zh ?zq); (case zh => row_cond hp))
    | ((with_reducible refine Kx.q_dict_tuple (kvs := ?zxs) ?zh ?zq); (case zh => row_cond hp))
    | with_reducible refine Kx.z_gn ?_
    | ((with_reducible refine Kx.z_gt2 (x := ?zx) (y := ?zy) ?zh ?zq); (case zh => row_cond hp))
    | ((with_reducible refine Kx.z_gt3 (x := ?zx) (y := ?zy) (z := ?zz) ?zh ?zq); (case zh => row_cond hp))
    | with_reducible refine Kx.z_lcT ?_
    | with_reducible refine Kx.z_lcL ?_
    | with_reducible refine Kx.z_lcS ?_
    | with_reducible refine Kx.z_lcR ?_
    | with_reducible refine Kx.z_lcZ ?_
    | with_reducible refine Kx.z_yes ?_
    | ((with_reducible refine Kx.z_wip ?zh ?zq); (case zh => rfl))
    | ((with_reducible refine Kx.z_LK ?zh ?zq); (case zh => rfl))
    | with_reducible refine Kx.z_lc2T ?_
    | with_reducible refine Kx.z_lc2L ?_
    | with_reducible refine Kx.z_inT ?_
    | with_reducible refine Kx.z_inL ?_
    | ((with_reducible refine Kx.z_LK2 ?zh ?zq); (case zh => rfl))
    | with_reducible refine Kx.z_sl ?_
    | with_reducible refine Kx.z_nop ?_
    | with_reducible refine Kx.z_part ?_
    | with_reducible refine Kx.z_exi ?_
    | with_reducible refine Kx.p_isNb ?_
    | with_reducible refine Kx.p_isNs ?_
    | with_reducible refine Kx.z_match ?_
    | ((with_reducible refine Kx.z_caseT (y := ?zy) (xs := ?zxs) ?zh ?zl ?zf ?zq); (case zh => row_cond hp); (case zl => rfl); (case zf => rfl))
    | ((with_reducible refine Kx.z_caseL (y := ?zy) (xs := ?zxs) ?zh ?zl ?zq); (case zh => row_cond hp); (case zl => (intro z; cases z)))
    | ((with_reducible refine Kx.z_caseF (y := ?zy) (xs := ?zxs) ?zh ?zf ?zq); (case zh => row_cond hp); (case zf => rfl))
    | with_reducible refine Kx.z_mnil ?_
    | with_reducible refine Kx.z_lcE ?_
    | with_reducible refine Kx.z_forT ?_
    | with_reducible refine Kx.z_forL ?_
    | with_reducible refine Kx.z_forR ?_
    | with_reducible refine Kx.z_forC ?_
    | ((with_reducible refine Kx.p_fP (dx := ?zd) (fs := ?zfs) (v := ?zv) (by assumption) ?zh ?zl ?zf ?zq); (case zh => row_cond hp); (case zl => assumption); (case zf => decide +kernel))
    | ((with_reducible refine Kx.p_fG (dx := ?zd) (fs := ?zfs) (v := ?zv) (by assumption) ?zh ?zl ?zf ?zq); (case zh => row_cond hp); (case zl => assumption); (case zf => decide +kernel))
    | ((with_reducible refine Kx.p_fR (dx := ?zd) (fs := ?zfs) (v := ?zv) (by assumption) ?zh ?zl ?zf ?zq); (case zh => row_cond hp); (case zl => assumption); (case zf => decide +kernel))
    | ((with_reducible refine Kx.p_dgetS (kvs := ?zk) (v := ?zv) ?zh ?ze ?zq); (case zh => row_cond hp); (case ze => assumption))
    | with_reducible refine Kx.z_star ?_
    | ((with_reducible refine Kx.p_star (xs := ?zxs) ?zh ?zq); (case zh => row_cond hp))
    | with_reducible refine Kx.z_bm ?_
    | with_reducible refine Kx.p_ip ?_
    | with_reducible refine Kx.z_lss ?_
    | with_reducible refine Kx.z_dcT ?_
    | with_reducible refine Kx.z_sf ?_
    | with_reducible refine Kx.z_dnew ?_
    | with_reducible refine Kx.z_mk ?_
    | with_reducible refine Kx.z_callS ?_
    | with_reducible refine Kx.z_gsub ?_
    | ((with_reducible refine Kx.p_setL (xs := ?zxs) (k := ?zk) ?zh ?ze ?zq); (case zh => row_cond hp); (case ze => rfl))
    | ((with_reducible refine Kx.p_modP ?zh ?zq); (case zh => first | assumption | decide +kernel))
    | ((with_reducible refine Kx.p_mulR ?zh ?zq); (case zh => first | assumption | decide +kernel))
    | ((with_reducible refine Kx.p_mulL ?zh ?zq); (case zh => first | assumption | decide +kernel))
    | ((with_reducible refine Kx.p_powS ?zh ?zq); (case zh => first | assumption | decide +kernel))
    | ((with_reducible refine Kx.p_powW ?zh ?zq); (case zh => first | assumption | decide +kernel))
    | ((with_reducible refine Kx.p_fdvS ?zh ?zq); (case zh => first | assumption | decide +kernel))
    | with_reducible refine Kx.z_par ?_
    | with_reducible refine Kx.p_par ?_
    | with_reducible refine Kx.z_par3 ?_
    | with_reducible refine Kx.p_par3 ?_
    | ((with_reducible refine Kx.z_gl3 (x := ?zx) (y := ?zy) (z := ?zz) ?zh ?zq); (case zh => row_cond hp))
    | ((with_reducible refine Kx.z_gtG2 (x := ?zx) (y := ?zy) ?zh ?zq); (case zh => row_cond hp))
    | with_reducible refine Kx.z_cm ?_
    | with_reducible refine Kx.p_cm ?_
    | with_reducible refine Kx.z_prs ?_
    | with_reducible refine Kx.z_prn ?_
    | dsimp only)
local macro_rules
  | `(tactic| row_cond zz) => `(tactic| repeat (row_cond zs))

section
variable {P : Program} {w : World} {K : PySem.W.Frag} {mg : Str → Option Value} {base : Heap}
def spPick : Sp := fun vs H Q _ => ∃ (d it : Addr) (xs : List V), vs = [.ref d, .ref it] ∧ Die H d ∧ it ≠ d ∧ (H it = some (.lst xs) ∨ H it = some (.tup xs)) ∧ xs ≠ [] ∧ xs.length ≤ 1000 ∧ ∀ H' x, SB d H H' → x ∈ xs → Q x H'
theorem sc__law_pick : FnScope ["_law_die", "_law_items"] ["_law_die", "_law_items"] (defScope (top 54)) := ⟨rfl, rfl, rfl, by decide +kernel, rfl, by decide +kernel, by decide +kernel⟩
theorem c__law_pick (T : Txt K mg) : Cal P w K mg base 2 "_law_pick" spPick := by
  refine cal_of T 23 rfl sc__law_pick (fun _ _ _ _ _ _ us hl => match us, hl with | [_, _], _ => rfl) (fun vs H Q E h => ?_) (fun f cdv A outer s H vs Q E hr h => ?_)
  · obtain ⟨a, ns, i, rfl, _⟩ := h
    rfl
  · obtain ⟨d, it, xs, rfl, hd, hne, hx, hxs, hl, hq⟩ := h
    have hpos := List.length_pos_iff.mpr hxs
    refine ⟨_, (pss_one (ps_ret (k_ix (K := K) rfl (pv 1) (C8.pe_c (c__law_cast T) hr (by decide) rfl (pa_cons (pv 0) (pa_cons (pe_callB (k_len (K := K) rfl) rfl (T.b "len") boot_len (pa_cons (pv 1) pa_nil)) pa_nil))) (fun _ _ => rfl)))), ?_⟩
    rcases hx with hx | hx
    · row_cond zz
      refine ⟨d, _, rfl, hd, by omega, by omega, fun H1 r s1 r0 r1 => ?_⟩
      obtain ⟨v, hv, hm⟩ := atI_in r0 r1
      exact p_xL (s1.keep _ _ hne hx) hv (hq _ _ s1 hm)
    · row_cond zz
      refine ⟨d, _, rfl, hd, by omega, by omega, fun H1 r s1 r0 r1 => ?_⟩
      obtain ⟨v, hv, hm⟩ := atI_in r0 r1
      exact p_xT (s1.keep _ _ hne hx) hv (hq _ _ s1 hm)
/-! ### _law_shuffle -/
def spShuf : Sp := fun vs H Q _ => ∃ (d it : Addr) (xs : List V), vs = [.ref d, .ref it] ∧ Die H d ∧ it ≠ d ∧ H it = some (.lst xs) ∧ xs.length ≤ 1000 ∧ ∀ H' D ys, SB d H H' → H D = none → H' D = some (.lst ys) → ys.Perm xs → Q (.ref D) H'
theorem sc__law_shuffle : FnScope ["_law_die", "_law_items", "_law_pool", "_law_turn"] ["_law_die", "_law_items"] (defScope (top 55)) := ⟨rfl, rfl, rfl, by decide +kernel, rfl, by decide +kernel, by decide +kernel⟩
theorem c__law_shuffle (T : Txt K mg) : Cal P w K mg base 2 "_law_shuffle" spShuf := by
  refine cal_of T 24 rfl sc__law_shuffle (fun _ _ _ _ _ _ us hl => match us, hl with | [_, _], _ => rfl) (fun vs H Q E h => ?_) (fun f cdv A outer s H vs Q E hr h => ?_)
  · obtain ⟨a, ns, i, rfl, _⟩ := h
    rfl
  · obtain ⟨d, it, xs, rfl, hd, hne, hx, hl, hq⟩ := h
    refine ⟨_, (pss_cons (ps_set (i := 2) sc__law_shuffle.nd rfl (.inr rfl) (pe_callTy (k_clst (K := K) rfl) rfl (T.b "list") boot_list (pa_cons (pv 1) pa_nil)))
      (pss_one (ps_ret (pe_lc rfl sc__law_shuffle.nd (pi_range1 rfl (T.b "range") (pa_cons (pe_callB (k_len (K := K) rfl) rfl (T.b "len") boot_len (pa_cons (pv 1) pa_nil)) pa_nil)) (blkOk_by (own := [(("_law_turn" : Str), 3)]) (by kernel_rfl)) (fun _ _ _ _ _ => (pg_name (i := 3) sc__law_shuffle.nd rfl (.inl rfl) (.inr rfl))) (fun _ _ _ _ _ => pts_nil) (fun _ _ _ _ _ => (k_bm (K := K) rfl PySem.F.plainAttrs_list PySem.F.slot_list_pop PySem.F.type_list_pop mt_popAt (pv 2) (pa_cons (C8.pe_c (c__law_cast T) hr (by decide) rfl (pa_cons (pv 0) (pa_cons (pe_callB (k_len (K := K) rfl) rfl (T.b "len") boot_len (pa_cons (pv 2) pa_nil)) pa_nil))) pa_nil))))))), ?_⟩
    row_cond zz
    refine p_lstL hx fun pl H1 hpl s1 e1 => ?_
    row_cond zz
    have hpd : pl ≠ d := hd.ne0 hpl
    refine ⟨(xs.length : Nat), rfl, by omega, by omega, fun D hD => ?_⟩
    have hDp : D ≠ pl := fun z => by
      rw [z, e1] at hD
      cases hD
    have hDd : D ≠ d := (hd.same s1).ne0 hD
    refine lc_range (fun i H' => (∀ b o, b ≠ d → b ≠ pl → b ≠ D → H1 b = some o → H' b = some o) ∧ Die H' d ∧ ∃ zs acc, H' pl = some (.lst zs) ∧ H' D = some (.lst acc) ∧ (acc ++ zs).Perm xs ∧ acc.length = i) ⟨fun b o h1 h2 h3 e => ?_, ?_, xs, [], ?_, upd_same, .refl _, rfl⟩ (fun i H2 hi hp => ?_) (fun H2 hp => ?_)
    · rw [upd_ne h3]
      exact e
    · obtain ⟨x, y, z, e⟩ := hd.same s1
      exact ⟨x, y, z, by rw [upd_ne hDd.symm]; exact e⟩
    · rw [upd_ne hDp.symm]
      exact e1
    · obtain ⟨hk, hd2, zs, acc, hz, hacc, hperm, hal⟩ := hp
      have hlen := hperm.length_eq
      rw [List.length_append] at hlen
      row_cond zz
      refine ⟨tyL hz, ?_⟩
      row_cond zz
      refine ⟨d, _, rfl, hd2, by omega, by omega, fun H3 r s3 r0 r1 => ?_⟩
      have hz3 := s3.keep _ _ hpd hz
      have hacc3 := s3.keep _ _ hDd hacc
      have hk3 : r.toNat < zs.length := by omega
      obtain ⟨y, hy⟩ : ∃ y, zs[r.toNat]? = some y := ⟨_, List.getElem?_eq_getElem hk3⟩
      row_cond zz
      refine ⟨pl, zs, r, r.toNat, y, rfl, rfl, hz3, by omega, by omega, seqIndex_of r0 r1, hy, ?_⟩
      refine ⟨acc, ?_, Nat.lt_of_le_of_lt (show acc.length ≤ 1000 by omega) (by decide), fun b o h1 h2 h3 e => ?_, ?_, zs.eraseIdx r.toNat, acc ++ [y], ?_, upd_same, ?_, ?_⟩
      · rw [upd_ne hDp]
        exact hacc3
      · rw [upd_ne h3, upd_ne h2]
        exact s3.keep _ _ h1 (hk b o h1 h2 h3 e)
      · obtain ⟨x, y, z, e⟩ := s3.die
        exact ⟨x, y, z, by rw [upd_ne hDd.symm, upd_ne hpd.symm]; exact e⟩
      · rw [upd_ne hDp.symm, upd_same]
      · refine .trans ?_ hperm
        rw [List.append_assoc]
        refine .append_left _ (erase_perm hy)
      · rw [List.length_append, hal]
        rfl
    · obtain ⟨hk, hd2, zs, acc, hz, hacc, hperm, hal⟩ := hp
      have hlen := hperm.length_eq
      rw [List.length_append] at hlen
      have hz0 : zs = [] := List.eq_nil_of_length_eq_zero (by omega)
      subst hz0
      rw [List.append_nil] at hperm
      refine hq _ _ _ ⟨hd2, fun b o h1 e => hk b o h1 (ne_of_none e hpl) (ne_of_none (s1 _ _ e) hD) (s1 _ _ e)⟩ (Same.free s1 hD) hacc hperm
/-! ### _law_subset -/
def spSubset : Sp := fun vs H Q _ => ∃ (d : Addr) (n : Int), vs = [.ref d, .int n] ∧ Die H d ∧ 0 < n ∧ n ≤ 6 ∧ ∀ H' a ms, SB d H H' → H' a = some (.tup (ms.map V.int)) → ModesOk n ms → Q (.ref a) H'
theorem sc__law_subset : FnScope ["_law_die", "_law_total", "_law_found", "_law_mode"] ["_law_die", "_law_total"] (defScope (top 56)) := ⟨rfl, rfl, rfl, by decide +kernel, rfl, by decide +kernel, by decide +kernel⟩
theorem c__law_subset (T : Txt K mg) : Cal P w K mg base 2 "_law_subset" spSubset := by
  refine cal_of T 25 rfl sc__law_subset (fun _ _ _ _ _ _ us hl => match us, hl with | [_, _], _ => rfl) (fun vs H Q E h => ?_) (fun f cdv A outer s H vs Q E hr h => ?_)
  · obtain ⟨a, n, rfl, _⟩ := h
    rfl
  · obtain ⟨d, n, rfl, hd, h0, h6, hq⟩ := h
    refine ⟨_, (pss_cons (ps_set (i := 2) sc__law_subset.nd rfl (.inl rfl) (pe_callTy (k_ctup (K := K) rfl) rfl (T.b "tuple") boot_tuple (pa_cons (pe_lc rfl sc__law_subset.nd (pi_range1 rfl (T.b "range") (pa_cons (pv 1) pa_nil)) (blkOk_by (own := [(("_law_mode" : Str), 3)]) (by kernel_rfl)) (fun _ _ _ _ _ => (pg_name (i := 3) sc__law_subset.nd rfl (.inl rfl) (.inr rfl))) (fun _ _ _ _ _ => (pts_one (pt_cmpR o_gt (C8.pe_c (c__law_cast T) hr (by decide) rfl (pa_cons (pv 0) (pa_cons pe_int pa_nil))) pe_int (nomark _)))) (fun _ _ _ _ _ => (pv 3))) pa_nil)))
      (pss_one (ps_ret (pe_ifExp (pt_cmpR (k_neA (K := K) rfl hr.units) (pv 2) (pe_tup pa_nil) (nomark _)) (pv 2) (pe_tup (pa_cons (C8.pe_c (c__law_cast T) hr (by decide) rfl (pa_cons (pv 0) (pa_cons (pv 1) pa_nil))) pa_nil)))))), ?_⟩
    row_cond zz
    refine p_lcR (SB d) (fun i acc _ => ∃ ms : List Int, acc = ms.map V.int ∧ ms.Pairwise (· < ·) ∧ ∀ m ∈ ms, 0 ≤ m ∧ m < (i : Nat)) (fun _ _ _ _ _ h => h) (okD hd) (by omega) (by omega) ⟨[], rfl, .nil, fun m hm => by cases hm⟩ (fun i acc H1 hi s1 R1 => ?_) (fun D H1 ys hD s1 e1 R1 => ?_)
    · intro D Nx put skip
      obtain ⟨ms, rfl, hp, hb⟩ := R1
      row_cond zz
      refine ⟨d, 3, rfl, s1.die, by decide, by decide, fun H2 r s2 r0 r1 => ?_⟩
      row_cond zz
      refine z_ite2 (fun _ => ?_) fun _ => ?_
      · row_cond zz
        refine put _ _ s2 ⟨ms ++ [0 + ((i : Nat) : Int)], by rw [List.map_append]; rfl, ?_, fun m hm => ?_⟩
        · rw [List.pairwise_append]
          refine ⟨hp, List.pairwise_singleton _ _, fun a ha b hb2 => ?_⟩
          rw [List.mem_singleton.mp hb2]
          have := (hb a ha).2
          omega
        · rcases List.mem_append.mp hm with h | h
          · have := hb m h
            omega
          · rw [List.mem_singleton.mp h]
            omega
      · exact skip _ s2 ⟨ms, rfl, hp, fun m hm => by have := hb m hm; omega⟩
    · obtain ⟨ms, rfl, hp, hb⟩ := R1
      row_cond zz
      refine p_tupL e1 fun t H2 ht s2 e2 => ?_
      row_cond zz
      refine p_tup (Nat.le_of_ble_eq_true rfl) fun q H3 hq3 s3 e3 => ?_
      row_cond zz
      refine p_n0 (ds := ms.map PyData.int) (.tup (Kx.Same.get s3 e2) (TDs.ints ms)) (sh_ok sh_modes (by decide)) e3 ?_
      have s13 : SB d H H3 := s1.same (s2.trans s3)
      cases hms : ms with
      | nil =>
        rw [show (!(([] : List Int).map PyData.int).isEmpty) = false from rfl]
        row_cond zz
        refine ⟨d, n, rfl, s13.die, h0, by omega, fun H4 r s4 r0 r1 => ?_⟩
        row_cond zz
        refine p_tup (Nat.le_of_ble_eq_true rfl) fun q5 H5 hq5 s5 e5 => ?_
        exact hq _ _ [r] ((s13.trans s4).same s5) e5 ⟨by simp, List.pairwise_singleton _ _, fun m hm => by rw [List.mem_singleton.mp hm]; exact ⟨r0, r1⟩⟩
      | cons m0 mr =>
        rw [show (!((m0 :: mr).map PyData.int).isEmpty) = true from rfl]
        row_cond zz
        refine hq _ _ ms s13 (Kx.Same.get s3 e2) ⟨by rw [hms]; simp, hp, fun m hm => ?_⟩
        have := hb m hm
        omega
end
end Kx

/- part K18 -/
/-! # K18: drawn moves -/
namespace Kx
open PySem PySem.Spec PyProof.Rows L2
section
variable {X : Cx} {K : PySem.W.Frag} {P : Program} {w : World}
theorem k_sortT (h : X.K = K) (hp : X.prog = P) (hw : X.w = w) (hc : X.calm = true) : CallR X (.builtin "sorted") (rSortedT K P w) := by
  subst h hp hw
  exact cr_sortedT hc
theorem k_setT (h : X.K = K) (hp : X.prog = P) (hw : X.w = w) (hc : X.calm = true) (hu : X.A.units + 64 < cLine) : CallR X (.type "set") (rSetOfT K P w) := by
  subst h hp hw
  exact cr_setOfT hc hu
end
def pPar (i j : Nat) (D : Ends) (σ : L2.St) : List V → Hp → Prop := fun vs H1 => ∃ v w, vs = [v, w] ∧ D.nx ((σ.set i (some v)).set j (some w)) H1
def pPar3 (i j l : Nat) (D : Ends) (σ : L2.St) : List V → Hp → Prop := fun vs H1 => ∃ u v w, vs = [u, v, w] ∧ D.nx (((σ.set i (some u)).set j (some v)).set l (some w)) H1
section
variable {i j l : Nat} {D : Ends} {σ : L2.St} {H : Hp} {u v w : V} {ta : TA}
theorem z_par (h : ta σ H (pPar i j D σ)) : tPar i j ta D σ H := h
theorem p_par (q : D.nx ((σ.set i (some v)).set j (some w)) H) : pPar i j D σ [v, w] H := ⟨v, w, rfl, q⟩
theorem z_par3 (h : ta σ H (pPar3 i j l D σ)) : tPar3 i j l ta D σ H := h
theorem p_par3 (q : D.nx (((σ.set i (some u)).set j (some v)).set l (some w)) H) : pPar3 i j l D σ [u, v, w] H := ⟨u, v, w, rfl, q⟩
end
theorem td_vO {H : Hp} (c : Option Int) : TD H (vO c) (eCaught c) := by
  cases c with
  | none => exact .non
  | some c => exact .int c
/-- sorted pairs of ints -/
theorem pairs_of {H : Hp} {tot : Int} {L : List (Addr × List Int)} (h : ∀ p ∈ L, H p.1 = some (.tup (p.2.map V.int)) ∧ ∃ x y, p.2 = [x, y] ∧ In0 tot x ∧ In0 tot y) (hne : L ≠ []) (hnd : (L.map (·.2)).Nodup) (hpw : L.Pairwise (fun q r => TS.code 10 q.2 ≤ TS.code 10 r.2)) (ht : tot ≤ 10) :
    ∃ ps, TDs H (L.map fun q => V.ref q.1) (ps.map ePair) ∧ PairsOk tot ps := by
  refine ⟨L.map fun p => (p.2.getD 0 0, p.2.getD 1 0), ?_, by simpa using hne, ?_, fun q hq => ?_⟩
  · clear hne hnd hpw
    induction L with
    | nil => exact .nil
    | cons p L ih =>
      obtain ⟨h1, x, y, e, _⟩ := h p List.mem_cons_self
      refine .cons ?_ (ih fun q hq => h q (List.mem_cons_of_mem _ hq))
      show TD H (V.ref p.1) (ePair (p.2.getD 0 0, p.2.getD 1 0))
      rw [e] at h1 ⊢
      exact .tup h1 (.cons (.int _) (.cons (.int _) .nil))
  · rw [List.pairwise_map]
    have hnd : L.Pairwise (fun q r => q.2 ≠ r.2) := by
      have := hnd
      unfold List.Nodup at this
      rw [List.pairwise_map] at this
      exact this
    refine (hnd.and hpw).imp_of_mem fun {a b} ha hb hab => ?_
    obtain ⟨_, x, y, e, h1, h2⟩ := h a ha
    obtain ⟨_, x', y', e', h1', h2'⟩ := h b hb
    rw [e, e'] at hab ⊢
    obtain ⟨n, c⟩ := hab
    have c : x * 10 ^ 1 + (y * 10 ^ 0 + 0) ≤ x' * 10 ^ 1 + (y' * 10 ^ 0 + 0) := c
    show x < x' ∨ (x = x' ∧ y < y')
    obtain ⟨u1, u2⟩ := h2
    obtain ⟨u3, u4⟩ := h2'
    have n2 : ¬ (x = x' ∧ y = y') := fun z => n (by rw [z.1, z.2])
    omega
  · obtain ⟨p, hp, rfl⟩ := List.mem_map.mp hq
    obtain ⟨_, x, y, e, h1, h2⟩ := h p hp
    rw [e]
    exact ⟨⟨h1.1, h1.2⟩, h2.1, h2.2⟩
local macro_rules
  | `(tactic| row_cond hp) => `(tactic| first
    | assumption
    | exact upd_same
    | (refine Kx.Same.get (by assumption) ?_; row_cond hp)
    | (refine Kx.SB.get (by assumption) (by assumption) ?_ rfl; row_cond hp)
    | (refine Kx.SB.getL (by assumption) (by assumption) ?_; row_cond hp))
local macro_rules
  | `(tactic| row_cond zs) => `(tactic| first
    | ((with_reducible refine Kx.z_var (v := ?zval) ?zv ?zq); (case zv => rfl))
    | with_reducible refine Kx.z_c ?_
    | with_reducible refine Kx.z_cons ?_
    | with_reducible refine Kx.z_nil ?_
    | with_reducible refine Kx.z_op ?_
    | with_reducible refine Kx.z_cB ?_
    | with_reducible refine Kx.z_call ?_
    | with_reducible refine Kx.z_fld ?_
    | with_reducible refine Kx.z_tup ?_
    | with_reducible refine Kx.z_lst ?_
    | with_reducible refine Kx.z_test ?_
    | with_reducible refine Kx.z_tB ?_
    | with_reducible refine Kx.p_bl ?_
    | with_reducible refine Kx.z_iteT ?_
    | with_reducible refine Kx.z_iteF ?_
    | with_reducible refine Kx.z_seq ?_
    | with_reducible refine Kx.z_ret ?_
    | with_reducible refine Kx.z_set ?_
    | with_reducible refine Kx.z_drop ?_
    | with_reducible refine Kx.z_if ?_
    | with_reducible refine Kx.z_next ?_
    | with_reducible refine Kx.z_and ?_
    | with_reducible refine Kx.z_or ?_
    | with_reducible refine Kx.z_not ?_
    | with_reducible refine Kx.z_andV ?_
    | with_reducible refine Kx.z_orV ?_
    | with_reducible refine Kx.z_notV ?_
    | with_reducible refine Kx.z_ifE ?_
    | with_reducible refine Kx.z_chain ?_
    | with_reducible refine Kx.z_dget ?_
    | with_reducible refine Kx.z_un ?_
    | with_reducible refine Kx.z_asg ?_
    | with_reducible refine Kx.z_retN ?_
    | with_reducible refine Kx.z_iteNT ?_
    | with_reducible refine Kx.z_iteNF ?_
    | with_reducible refine Kx.p_add ?_
    | with_reducible refine Kx.p_sub ?_
    | with_reducible refine Kx.p_lt ?_
    | with_reducible refine Kx.p_le ?_
    | with_reducible refine Kx.p_gt ?_
    | with_reducible refine Kx.p_ge ?_
    | with_reducible refine Kx.p_neg ?_
    | with_reducible refine Kx.p_eqI ?_
    | with_reducible refine Kx.p_eqS ?_
    | with_reducible refine Kx.p_neI ?_
    | with_reducible refine Kx.p_eqNN ?_
    | with_reducible refine Kx.p_isN ?_
    | with_reducible refine Kx.p_isNi ?_
    | with_reducible refine Kx.p_isNr ?_
    | with_reducible refine Kx.p_notN ?_
    | with_reducible refine Kx.p_notNi ?_
    | with_reducible refine Kx.p_notNr ?_
    | with_reducible refine Kx.p_intI ?_
    | with_reducible refine Kx.p_intB ?_
    | with_reducible refine Kx.p_abs ?_
    | with_reducible refine Kx.p_mx2 ?_
    | with_reducible refine Kx.p_mn2 ?_
    | ((with_reducible refine Kx.p_ixT (xs := ?zxs) (v := ?zval) ?zh ?ze ?zq); (case zh => row_cond hp); (case ze => rfl))
    | ((with_reducible refine Kx.p_ixL (xs := ?zxs) (v := ?zval) ?zh ?ze ?zq); (case zh => row_cond hp); (case ze => rfl))
    | ((with_reducible refine Kx.p_lenT (xs := ?zxs) ?zh ?zq); (case zh => row_cond hp))
    | ((with_reducible refine Kx.p_lenL (xs := ?zxs) ?zh ?zq); (case zh => row_cond hp))
    | ((with_reducible refine Kx.p_xT (xs := ?zxs) (v := ?zval) ?zh ?ze ?zq); (case zh => row_cond hp); (case ze => rfl))
    | ((with_reducible refine Kx.p_xL (xs := ?zxs) (v := ?zval) ?zh ?ze ?zq); (case zh => row_cond hp); (case ze => rfl))
    | with_reducible refine Kx.p_qI ?_
    | with_reducible refine Kx.p_qS ?_
    | with_reducible refine Kx.p_qNI ?_
    | with_reducible refine Kx.p_ltI ?_
    | with_reducible refine Kx.q_int_int ?_
    | with_reducible refine Kx.q_int_bool ?_
    | with_reducible refine Kx.q_int_str ?_
    | with_reducible refine Kx.q_int_tuple ?_
    | with_reducible refine Kx.q_bool_int ?_
    | with_reducible refine Kx.q_bool_bool ?_
    | with_reducible refine Kx.q_bool_str ?_
    | with_reducible refine Kx.q_bool_tuple ?_
    | with_reducible refine Kx.q_str_int ?_
    | with_reducible refine Kx.q_str_bool ?_
    | with_reducible refine Kx.q_str_str ?_
    | with_reducible refine Kx.q_str_tuple ?_
    | with_reducible refine Kx.q_NoneType_int ?_
    | with_reducible refine Kx.q_NoneType_bool ?_
    | with_reducible refine Kx.q_NoneType_str ?_
    | with_reducible refine Kx.q_NoneType_tuple ?_
    | ((with_reducible refine Kx.q_tuple_int (xs := ?zxs) ?zh ?zq); (case zh => row_cond hp))
    | ((with_reducible refine Kx.q_tuple_bool (xs := ?zxs) ?zh ?zq); (case zh => row_cond hp))
    | ((with_reducible refine Kx.q_tuple_str (xs := ?zxs) ?zh ?zq); (case zh => row_cond hp))
    | ((with_reducible refine Kx.q_tuple_tuple (xs := ?zxs) ?zh ?zq); (case zh => row_cond hp))
    | ((with_reducible refine Kx.q_list_int (xs := ?zxs) ?zh ?zq); (case zh => row_cond hp))
    | ((with_reducible refine Kx.q_list_bool (xs := ?zxs) ?zh ?zq); (case zh => row_cond hp))
    | ((with_reducible refine Kx.q_list_str (xs := ?zxs) ?zh ?zq); (case zh => row_cond hp))
    | ((with_reducible refine Kx.q_list_tuple (xs := ?zxs) ?zh ?zq); (case zh => row_cond hp))
    | ((with_reducible refine Kx.q_dict_int (kvs := ?zxs) ?zh ?zq); (case zh => row_cond hp))
    | ((with_reducible refine Kx.q_dict_bool (kvs := ?zxs) ?zh ?zq); (case zh => row_cond hp))
    | ((with_reducible refine Kx.q_dict_str (kvs := ?zxs) ?zh ?zq); (case zh => row_cond hp))
    | ((with_reducible refine Kx.q_dict_tuple (kvs := ?zxs) ?zh ?zq); (case zh => row_cond hp))
    | with_reducible refine Kx.z_gn ?_
    | ((with_reducible refine Kx.z_gt2 (x := ?zx) (y := ?zy) ?zh ?zq); (case zh => row_cond hp))
    | ((with_reducible refine Kx.z_gt3 (x := ?zx) (y := ?zy) (z := ?zz) ?zh ?zq); (case zh => row_cond hp))
    | with_reducible refine Kx.z_lcT ?_
    | with_reducible refine Kx.z_lcL ?_
    | with_reducible refine Kx.z_lcS ?_
    | with_reducible refine Kx.z_lcR ?_
    | with_reducible refine Kx.z_lcZ ?_
    | with_reducible refine Kx.z_yes ?_
    | ((with_reducible refine Kx.z_wip ?zh ?zq); (case zh => rfl))
    | ((with_reducible refine Kx.z_LK ?zh ?zq); (case zh => rfl))
    | with_reducible refine Kx.z_lc2T ?_
    | with_reducible refine Kx.z_lc2L ?_
    | with_reducible refine Kx.z_inT ?_
    | with_reducible refine Kx.z_inL ?_
    | ((with_reducible refine Kx.z_LK2 ?zh ?zq); (case zh => rfl))
    | with_reducible refine Kx.z_sl ?_
    | with_reducible refine Kx.z_nop ?_
    | with_reducible refine Kx.z_part ?_
    | with_reducible refine Kx.z_exi ?_
    | with_reducible refine Kx.p_isNb ?_
    | with_reducible refine Kx.p_isNs ?_
    | with_reducible refine Kx.z_match ?_
    | ((with_reducible refine Kx.z_caseT (y := ?zy) (xs := ?zxs) ?zh ?zl ?zf ?zq); (case zh => row_cond hp); (case zl => rfl); (case zf => rfl))
    | ((with_reducible refine Kx.z_caseL (y := ?zy) (xs := ?zxs) ?zh ?zl ?zq); (case zh => row_cond hp); (case zl => (intro z; cases z)))
    | ((with_reducible refine Kx.z_caseF (y := ?zy) (xs := ?zxs) ?zh ?zf ?zq); (case zh => row_cond hp); (case zf => rfl))
    | with_reducible refine Kx.z_mnil ?_
    | with_reducible refine Kx.z_lcE ?_
    | with_reducible refine Kx.z_forT ?_
    | with_reducible refine Kx.z_forL ?_
    | with_reducible refine Kx.z_forR ?_
    | with_reducible refine Kx.z_forC ?_
    | ((with_reducible refine Kx.p_fP (dx := ?zd) (fs := ?zfs) (v := ?zv) (by assumption) ?zh ?zl ?zf ?zq); (case zh => row_cond hp); (case zl => assumption); (case zf => decide +kernel))
    | ((with_reducible refine Kx.p_fG (dx := ?zd) (fs := ?zfs) (v := ?zv) (by assumption) ?zh ?zl ?zf ?zq); (case zh => row_cond hp); (case zl => assumption); (case zf => decide +kernel))
    | ((with_reducible refine Kx.p_fR (dx := ?zd) (fs := ?zfs) (v := ?zv) (by assumption) ?zh ?zl ?zf ?zq); (case zh => row_cond hp); (case zl => assumption); (case zf => decide +kernel))
    | ((with_reducible refine Kx.p_dgetS (kvs := ?zk) (v := ?zv) ?zh ?ze ?zq); (case zh => row_cond hp); (case ze => assumption))
    | with_reducible refine Kx.z_star ?_
    | ((with_reducible refine Kx.p_star (xs := ?zxs) ?zh ?zq); (case zh => row_cond hp))
    | with_reducible refine Kx.z_bm ?_
    | with_reducible refine Kx.p_ip ?_
    | with_reducible refine Kx.z_lss ?_
    | with_reducible refine Kx.z_dcT ?_
    | with_reducible refine Kx.z_sf ?_
    | with_reducible refine Kx.z_dnew ?_
    | with_reducible refine Kx.z_mk ?_
    | with_reducible refine Kx.z_callS ?_
    | with_reducible refine Kx.z_gsub ?_
    | ((with_reducible refine Kx.p_setL (xs := ?zxs) (k := ?zk) ?zh ?ze ?zq); (case zh => row_cond hp); (case ze => rfl))
    | ((with_reducible refine Kx.p_modP ?zh ?zq); (case zh => first | assumption | decide +kernel))
    | ((with_reducible refine Kx.p_mulR ?zh ?zq); (case zh => first | assumption | decide +kernel))
    | ((with_reducible refine Kx.p_mulL ?zh ?zq); (case zh => first | assumption | decide +kernel))
    | ((with_reducible refine Kx.p_powS ?zh ?zq); (case zh => first | assumption | decide +kernel))
    | ((with_reducible refine Kx.p_powW ?zh ?zq); (case zh => first | assumption | decide +kernel))
    | ((with_reducible refine Kx.p_fdvS ?zh ?zq); (case zh => first | assumption | decide +kernel))
    | with_reducible refine Kx.z_par ?_
    | with_reducible refine Kx.p_par ?_
    | with_reducible refine Kx.z_par3 ?_
    | with_reducible refine Kx.p_par3 ?_
    | ((with_reducible refine Kx.z_gl3 (x := ?zx) (y := ?zy) (z := ?zz) ?zh ?zq); (case zh => row_cond hp))
    | ((with_reducible refine Kx.z_gtG2 (x := ?zx) (y := ?zy) ?zh ?zq); (case zh => row_cond hp))
    | with_reducible refine Kx.z_cm ?_
    | with_reducible refine Kx.p_cm ?_
    | with_reducible refine Kx.z_prs ?_
    | with_reducible refine Kx.z_prn ?_
    | dsimp only)
local macro_rules
  | `(tactic| row_cond zz) => `(tactic| repeat (row_cond zs))

section
variable {P : Program} {w : World} {K : PySem.W.Frag} {mg : Str → Option Value} {base : Heap}
def spMove : Sp := fun vs H Q _ => ∃ (d : Addr) (tot pts : Int) (nl : Addr) (nm : List Str), vs = [.ref d, .int tot, .int pts, .ref nl] ∧ Die H d ∧ nl ≠ d ∧ H nl = some (.lst (nm.map V.str)) ∧ nm ≠ [] ∧ nm.length ≤ 100 ∧ 0 < tot ∧ tot ≤ 6 ∧ 0 < pts ∧ pts ≤ 8 ∧
  ∀ H' a m, SB d H H' → TD H' (.ref a) (eMv m) → MvOk tot pts nm m → Q (.ref a) H'
theorem sc__law_a_move : FnScope ["_law_die", "_law_total", "_law_points", "_law_names", "_law_here", "_law_there", "_law_way", "_law_some", "_law_caught", "_law_pairs", "_law_turn"] ["_law_die", "_law_total", "_law_points", "_law_names"] (defScope (top 57)) := ⟨rfl, rfl, rfl, by decide +kernel, rfl, by decide +kernel, by decide +kernel⟩
theorem c__law_a_move (T : Txt K mg) : Cal P w K mg base 3 "_law_a_move" spMove := by
  refine cal_of T 26 rfl sc__law_a_move (fun _ _ _ _ _ _ us hl => match us, hl with | [_, _, _, _], _ => rfl) (fun vs H Q E h => ?_) (fun f cdv A outer s H vs Q E hr h => ?_)
  · obtain ⟨d, tot, pts, nl, nm, rfl, _⟩ := h
    rfl
  · obtain ⟨d, tot, pts, nl, nm, rfl, hd, hne, hnl, hnm, hnml, t0, t6, p0, p8, hq⟩ := h
    refine ⟨_, (pss_cons (ps_par (i := 4) (j := 5) rfl sc__law_a_move.nd rfl rfl (by decide) rfl rfl (pa_cons (C8.pe_c (c__law_pick T) hr (by decide) rfl (pa_cons (pv 0) (pa_cons (pe_lst (pa_cons pe_int (pa_cons (C8.pe_c (c__law_cast T) hr (by decide) rfl (pa_cons (pv 0) (pa_cons (pv 2) pa_nil))) pa_nil))) pa_nil))) (pa_cons (C8.pe_c (c__law_cast T) hr (by decide) rfl (pa_cons (pv 0) (pa_cons (pv 2) pa_nil))) pa_nil)) rfl)
      (pss_cons (ps_par (i := 6) (j := 7) rfl sc__law_a_move.nd rfl rfl (by decide) rfl rfl (pa_cons (C8.pe_c (c__law_cast T) hr (by decide) rfl (pa_cons (pv 0) (pa_cons pe_int pa_nil))) (pa_cons (C8.pe_c (c__law_subset T) hr (by decide) rfl (pa_cons (pv 0) (pa_cons (pv 1) pa_nil))) pa_nil)) rfl)
      (pss_cons (ps_if (pt_cmpR o_lt (pv 6) pe_int (nomark _)) (pss_cons (ps_set (i := 8) sc__law_a_move.nd rfl (.inl rfl) (C8.pe_c (c__law_pick T) hr (by decide) rfl (pa_cons (pv 0) (pa_cons (pe_lst (pa_cons pe_non (pa_cons (C8.pe_c (c__law_cast T) hr (by decide) rfl (pa_cons (pv 0) (pa_cons (pv 2) pa_nil))) pa_nil))) pa_nil))))
      (pss_one (ps_ret (pe_tup (pa_cons pe_str (pa_cons (pv 4) (pa_cons (pv 5) (pa_cons (C8.pe_c (c__law_pick T) hr (by decide) rfl (pa_cons (pv 0) (pa_cons (pv 3) pa_nil))) (pa_cons (pv 7) (pa_cons (pv 8) pa_nil)))))))))) pss_nil)
      (pss_cons (ps_if (pt_cmpR o_lt (pv 6) pe_int (nomark _)) (pss_one (ps_ret (pe_tup (pa_cons (C8.pe_c (c__law_pick T) hr (by decide) rfl (pa_cons (pv 0) (pa_cons (pe_lst (pa_cons pe_str (pa_cons pe_str (pa_cons pe_str pa_nil)))) pa_nil))) (pa_cons (pv 4) (pa_cons (pv 7) pa_nil)))))) pss_nil)
      (pss_cons (ps_set (i := 9) sc__law_a_move.nd rfl (.inl rfl) (pe_lst pa_nil))
      (pss_cons (ps_for PassesOwn.never rfl (pi_range1 rfl (T.b "range") (pa_cons (pe_op o_add pe_int (C8.pe_c (c__law_cast T) hr (by decide) rfl (pa_cons (pv 0) (pa_cons pe_int pa_nil)))) pa_nil)) (pg_name (i := 10) sc__law_a_move.nd rfl (.inl rfl) (.inr rfl)) (pss_one (ps_expr (pe_bm PySem.F.plainAttrs_list PySem.F.slot_list_append PySem.F.type_list_append mt_append (pv 9) (pa_cons (pe_tup (pa_cons (C8.pe_c (c__law_cast T) hr (by decide) rfl (pa_cons (pv 0) (pa_cons (pv 1) pa_nil))) (pa_cons (C8.pe_c (c__law_cast T) hr (by decide) rfl (pa_cons (pv 0) (pa_cons (pv 1) pa_nil))) pa_nil))) pa_nil)))))
      (pss_one (ps_ret (pe_tup (pa_cons pe_str (pa_cons (pv 4) (pa_cons (pv 5) (pa_cons (pe_callTy (k_ctup (K := K) rfl) rfl (T.b "tuple") boot_tuple (pa_cons (pe_callB (k_sortT (K := K) (P := P) (w := w) rfl rfl rfl rfl) rfl (T.b "sorted") boot_sorted (pa_cons (pe_callTy (k_setT (K := K) (P := P) (w := w) rfl rfl rfl rfl hr.units) rfl (T.b "set") boot_set (pa_cons (pv 9) pa_nil)) pa_nil)) pa_nil)) pa_nil))))))))))))), ?_⟩
    row_cond zz
    refine ⟨d, pts, rfl, hd, p0, by omega, fun H1 r1 s1 a1 b1 => ?_⟩
    row_cond zz
    refine p_lst (Nat.le_of_ble_eq_true rfl) fun l1 H2 hl1 s2 e2 => ?_
    row_cond zz
    refine ⟨d, l1, _, rfl, s1.die.same s2, s1.die.ne0 hl1, .inl e2, by simp, by simp, fun H3 x s3 hx => ?_⟩
    obtain ⟨h0, rfl, i0⟩ : ∃ h0, x = .int h0 ∧ In0 pts h0 := by
      simp only [List.mem_cons, List.not_mem_nil, or_false] at hx
      rcases hx with rfl | rfl
      · exact ⟨0, rfl, by decide, p0⟩
      · exact ⟨r1, rfl, a1, b1⟩
    row_cond zz
    refine ⟨d, pts, rfl, s3.die, p0, by omega, fun H4 th s4 a4 b4 => ?_⟩
    row_cond zz
    refine ⟨d, 10, rfl, s4.die, by decide, by decide, fun H5 way s5 a5 b5 => ?_⟩
    row_cond zz
    refine ⟨d, tot, rfl, s5.die, t0, t6, fun H6 sa ms s6 e6 okms => ?_⟩
    have s06 : SB d H H6 := ((((s1.same s2).trans s3).trans s4).trans s5).trans s6
    have i1 : In0 pts th := ⟨a4, b4⟩
    row_cond zz
    refine z_ite2 (fun _ => ?_) fun _ => ?_
    · row_cond zz
      refine ⟨d, pts, rfl, s6.die, p0, by omega, fun H7 r7 s7 a7 b7 => ?_⟩
      row_cond zz
      refine p_lst (Nat.le_of_ble_eq_true rfl) fun l8 H8 hl8 s8 e8 => ?_
      row_cond zz
      refine ⟨d, l8, _, rfl, s7.die.same s8, s7.die.ne0 hl8, .inl e8, by simp, by simp, fun H9 x s9 hx => ?_⟩
      obtain ⟨c, rfl, hc⟩ : ∃ c, x = vO c ∧ ∀ y, c = some y → In0 pts y := by
        simp only [List.mem_cons, List.not_mem_nil, or_false] at hx
        rcases hx with rfl | rfl
        · exact ⟨none, rfl, fun y hy => by cases hy⟩
        · exact ⟨some r7, rfl, fun y hy => by cases hy; exact ⟨a7, b7⟩⟩
      have s09 : SB d H H9 := ((s06.trans s7).same s8).trans s9
      have hnl9 := s09.keep _ _ hne hnl
      row_cond zz
      refine ⟨d, nl, _, rfl, s9.die, hne, .inl hnl9, by simpa using hnm, by rw [List.length_map]; omega, fun HA x sA hx => ?_⟩
      obtain ⟨n, hn, rfl⟩ := List.mem_map.mp hx
      row_cond zz
      refine p_tup (Nat.le_of_ble_eq_true rfl) fun q HB hqB sB eB => ?_
      have s6B : SB d H6 HB := (((s7.same s8).trans s9).trans sA).same sB
      have e6B : HB sa = some (.tup (ms.map V.int)) := s6B.get s6.die e6 rfl
      refine hq HB q (.call h0 th n ms c) ((s09.trans sA).same sB) ?_ ⟨i0, i1, hn, okms, hc⟩
      refine .tup eB (.cons (.str _) (.cons (.int _) (.cons (.int _) (.cons (.str _) (.cons (.tup e6B (TDs.ints ms)) (.cons (td_vO c) .nil))))))
    · row_cond zz
      refine z_ite2 (fun _ => ?_) fun _ => ?_
      · row_cond zz
        refine p_lst (Nat.le_of_ble_eq_true rfl) fun l8 H8 hl8 s8 e8 => ?_
        row_cond zz
        refine ⟨d, l8, _, rfl, s6.die.same s8, s6.die.ne0 hl8, .inl e8, by simp, by simp, fun H9 x s9 hx => ?_⟩
        have hx : x = .str "leave" ∨ x = .str "fail" := by
          simp only [List.mem_cons, List.not_mem_nil, or_false] at hx
          rcases hx with rfl | rfl | rfl
          · exact .inl rfl
          · exact .inl rfl
          · exact .inr rfl
        row_cond zz
        refine p_tup (Nat.le_of_ble_eq_true rfl) fun q HB hqB sB eB => ?_
        have s6B : SB d H6 HB := ((SB.of s6.die s8).trans s9).same sB
        have e6B : HB sa = some (.tup (ms.map V.int)) := s6B.get s6.die e6 rfl
        have s0B := s06.trans s6B
        rcases hx with rfl | rfl
        · exact hq HB q (.leave h0 ms) s0B (.tup eB (.cons (.str _) (.cons (.int _) (.cons (.tup e6B (TDs.ints ms)) .nil)))) ⟨i0, okms⟩
        · exact hq HB q (.fail h0 ms) s0B (.tup eB (.cons (.str _) (.cons (.int _) (.cons (.tup e6B (TDs.ints ms)) .nil)))) ⟨i0, okms⟩
      · row_cond zz
        refine p_lst (Nat.le_of_ble_eq_true rfl) fun pl H7 hpl s7 e7 => ?_
        have hpd : pl ≠ d := s6.die.ne0 hpl
        row_cond zz
        refine ⟨d, 3, rfl, s6.die.same s7, by decide, by decide, fun H8 r8 s8 a8 b8 => ?_⟩
        row_cond zz
        refine p_forR (fun i σ H' => ∃ (v : Option V) (ks : List (Addr × List Int)), σ = [some (.ref d), some (.int tot), some (.int pts), some (.ref nl), some (.int h0), some (.int th), some (.int way), some (.ref sa), none, some (.ref pl), v] ∧ SB d H6 H' ∧ H' pl = some (.lst (ks.map fun p : Addr × List Int => V.ref p.1)) ∧ (∀ p ∈ ks, H' p.1 = some (.tup (p.2.map V.int)) ∧ ∃ x y, p.2 = [x, y] ∧ In0 tot x ∧ In0 tot y) ∧ ks.length = i) (by omega) (by omega) ⟨none, [], rfl, (SB.of s6.die s7).trans s8, s8.keep _ _ hpd e7, fun p hp => (by cases hp), rfl⟩ (fun i σ H9 hi hp => ?_) (fun σ H9 hp => ?_)
        · obtain ⟨v, ks, rfl, s69, epl, hks, hkl⟩ := hp
          row_cond zz
          refine ⟨tyL epl, ?_⟩
          row_cond zz
          refine ⟨d, tot, rfl, s69.die, t0, by omega, fun HA x sA ax bx => ?_⟩
          row_cond zz
          refine ⟨d, tot, rfl, sA.die, t0, by omega, fun HB y sB ay by_ => ?_⟩
          row_cond zz
          refine p_tup (Nat.le_of_ble_eq_true rfl) fun q HC hqC sC eC => ?_
          have s9C : SB d H9 HC := (sA.trans sB).same sC
          have eplC := s9C.keep _ _ hpd epl
          row_cond zz
          refine p_append eplC (by rw [List.length_map]; omega) ?_
          refine ⟨_, ks ++ [(q, [x, y])], rfl, ⟨?_, fun b o n e => ?_⟩, ?_, fun p hp => ?_, ?_⟩
          · obtain ⟨x, y, z, e⟩ := s9C.die
            exact ⟨x, y, z, by rw [upd_ne hpd.symm]; exact e⟩
          · rw [upd_ne (ne_of_none e hpl)]
            exact (s69.trans s9C).keep _ _ n e
          · rw [upd_same, List.map_append]
            rfl
          · rcases List.mem_append.mp hp with h | h
            · obtain ⟨h1, h2⟩ := hks p h
              exact ⟨nk_upd eplC _ _ rfl (s9C.get s69.die h1 rfl), h2⟩
            · rw [List.mem_singleton.mp h]
              exact ⟨nk_upd eplC _ _ rfl eC, x, y, rfl, ⟨ax, bx⟩, ay, by_⟩
          · rw [List.length_append, hkl]
            rfl
        · obtain ⟨v, ks, rfl, s69, epl, hks, hkl⟩ := hp
          have hkp : 0 < ks.length := by omega
          row_cond zz
          refine ⟨pl, ks, rfl, .inl (.inl epl), fun p hp => .inl (.inl (hks p hp).1), by omega, fun sn L hsn hL1 hL2 => ?_⟩
          have sS : Same H9 (upd H9 sn (SetTO P w sn L)) := same_new hsn
          have hL : ∀ p ∈ L, upd H9 sn (SetTO P w sn L) p.1 = some (.tup (p.2.map V.int)) ∧ ∃ x y, p.2 = [x, y] ∧ In0 tot x ∧ In0 tot y := fun p hp => by
            obtain ⟨h1, h2⟩ := hks p (hL1 p hp)
            exact ⟨sS _ _ h1, h2⟩
          row_cond zz
          refine ⟨sn, L, 2, 10, rfl, upd_same, fun p hp => .inl (.inl (hL p hp).1), by decide, fun p hp => ?_, fun L' ql hperm hnd hlen hpw hql => ?_⟩
          · obtain ⟨_, x, y, e, h1, h2⟩ := hL p hp
            rw [e]
            refine ⟨rfl, fun m hm => ?_⟩
            simp only [List.mem_cons, List.not_mem_nil, or_false] at hm
            rcases hm with rfl | rfl
            · exact ⟨h1.1, by have := h1.2; omega⟩
            · exact ⟨h2.1, by have := h2.2; omega⟩
          have sQ : Same (upd H9 sn (SetTO P w sn L)) (upd (upd H9 sn (SetTO P w sn L)) ql (.lst (L'.map fun q => V.ref q.1))) := same_new hql
          row_cond zz
          refine p_tupL upd_same fun t HD ht sD eD => ?_
          row_cond zz
          refine p_tup (Nat.le_of_ble_eq_true rfl) fun q HE hqE sE eE => ?_
          have s9E : Same H9 HE := sS.trans (sQ.trans (sD.trans sE))
          have hL' : ∀ p ∈ L', HE p.1 = some (.tup (p.2.map V.int)) ∧ ∃ x y, p.2 = [x, y] ∧ In0 tot x ∧ In0 tot y := fun p hp => by
            obtain ⟨h1, h2⟩ := hL p (hperm.mem_iff.mp hp)
            exact ⟨(sQ.trans (sD.trans sE)) _ _ h1, h2⟩
          have hne' : L' ≠ [] := fun z => by
            obtain ⟨p, hp⟩ := List.exists_mem_of_ne_nil ks (List.length_pos_iff.mp hkp)
            have := hL2 p hp
            obtain ⟨p', hp', _⟩ := List.mem_map.mp this
            have := hperm.mem_iff.mpr hp'
            rw [z] at this
            cases this
          obtain ⟨ps, tps, okps⟩ := pairs_of hL' hne' hnd hpw (by omega)
          refine hq HE q (.go h0 th ps) ((s06.trans s69).same s9E) (.tup eE (.cons (.str _) (.cons (.int _) (.cons (.int _) (.cons (.tup (Kx.Same.get sE eD) tps) .nil))))) ⟨i0, i1, okps⟩
end
end Kx

/- part K19 -/
/-! # K19: drawn programs -/
namespace Kx
open PySem PySem.Spec PyProof.Rows L2
theorem p_slL {K : PySem.W.Frag} {H : Hp} {Q : VK} {p : Addr} {xs : List V} {lo hi : Option Int} (h : H p = some (.lst xs)) (q : ∀ l H2, H l = none → Same H H2 → H2 l = some (.lst (cutV xs lo hi)) → Q (.ref l) H2) : rSlL K (.ref p) lo hi H Q :=
  ⟨p, xs, rfl, .inl (.inl h), fun l hl => q l _ hl (same_new hl) upd_same⟩
/-- a row: name, points, moves -/
def RowAt (H : Hp) (x : V) (r : Str × Int × List Mv) (no : Addr → Prop) : Prop := ∃ a mv, x = .ref a ∧ no a ∧ H a = some (.lst [.str r.1, .int r.2.1, .ref mv]) ∧ TD H (.ref mv) (eMvs r.2.2)
structure RowsAt (H : Hp) (xs : List V) (ps : List (Str × Int × List Mv)) (no : Addr → Prop) : Prop where
  len : xs.length = ps.length
  at_ : ∀ (j : Nat) x r, xs[j]? = some x → ps[j]? = some r → RowAt H x r no
theorem RowsAt.imp {H H' : Hp} {xs : List V} {ps : List (Str × Int × List Mv)} {no no' : Addr → Prop} (h : RowsAt H xs ps no) (tk : TK H H') (hk : ∀ a o, no a → H a = some (.lst o) → no' a ∧ H' a = some (.lst o)) : RowsAt H' xs ps no' := ⟨h.len, fun j x r e1 e2 => by
  obtain ⟨a, mv, rfl, n, h1, h2⟩ := h.at_ j x r e1 e2
  obtain ⟨n', h1'⟩ := hk a _ n h1
  exact ⟨a, mv, rfl, n', h1', TD.mono tk _ _ h2⟩⟩
theorem RowsAt.snoc {H : Hp} {xs : List V} {ps : List (Str × Int × List Mv)} {no : Addr → Prop} {x : V} {r : Str × Int × List Mv} (h : RowsAt H xs ps no) (h1 : RowAt H x r no) : RowsAt H (xs ++ [x]) (ps ++ [r]) no := by
  refine ⟨by rw [List.length_append, List.length_append, h.len]; rfl, fun j y s e1 e2 => ?_⟩
  by_cases hj : j < xs.length
  · rw [List.getElem?_append_left hj] at e1
    rw [List.getElem?_append_left (by rw [← h.len]; exact hj)] at e2
    exact h.at_ j y s e1 e2
  · rw [List.getElem?_append_right (by omega)] at e1
    rw [List.getElem?_append_right (by rw [← h.len]; omega), ← h.len] at e2
    have : j - xs.length = 0 := by
      have := (List.getElem?_eq_some_iff.mp e1).1
      rw [List.length_singleton] at this
      omega
    rw [this] at e1 e2
    cases e1
    cases e2
    exact h1
/-- the law's plain form of a program -/
def PlainAt (H : Hp) (a : Addr) (p : Prg) : Prop := ∃ (st rw_ : Addr) (xs : List V), H a = some (.lst [.int p.total, .ref st, .ref rw_]) ∧ H st = some (.tup (p.starts.map V.int)) ∧ H rw_ = some (.lst xs) ∧ RowsAt H xs p.procs (fun _ => True)
theorem in_2321 {x : V} (h : x ∈ [V.int 2, V.int 3, V.int 2, V.int 1]) : ∃ n : Int, x = .int n ∧ 0 < n ∧ n ≤ 3 := by
  simp only [List.mem_cons, List.not_mem_nil, or_false] at h
  rcases h with rfl | rfl | rfl | rfl <;> exact ⟨_, rfl, by decide, by decide⟩
theorem in_2132 {x : V} (h : x ∈ [V.int 2, V.int 1, V.int 3, V.int 2]) : ∃ n : Int, x = .int n ∧ 0 < n ∧ n ≤ 3 := by
  simp only [List.mem_cons, List.not_mem_nil, or_false] at h
  rcases h with rfl | rfl | rfl | rfl <;> exact ⟨_, rfl, by decide, by decide⟩
theorem in_2312 {x : V} (h : x ∈ [V.int 2, V.int 3, V.int 1, V.int 2]) : ∃ n : Nat, x = .int (n : Nat) ∧ 0 < n ∧ n ≤ 3 := by
  simp only [List.mem_cons, List.not_mem_nil, or_false] at h
  rcases h with rfl | rfl | rfl | rfl
  · exact ⟨2, rfl, by decide, by decide⟩
  · exact ⟨3, rfl, by decide, by decide⟩
  · exact ⟨1, rfl, by decide, by decide⟩
  · exact ⟨2, rfl, by decide, by decide⟩
theorem str_list : ∀ {xs : List V} {ss : List Str}, xs.Perm (ss.map V.str) → ∃ ns : List Str, xs = ns.map V.str ∧ ns.Perm ss := by
  intro xs ss h
  have e : ∀ x ∈ xs, ∃ n, x = V.str n := fun x hx => by
    obtain ⟨n, _, rfl⟩ := List.mem_map.mp (h.mem_iff.mp hx)
    exact ⟨n, rfl⟩
  have e2 : ∃ ns : List Str, xs = ns.map V.str := by
    clear h
    induction xs with
    | nil => exact ⟨[], rfl⟩
    | cons x xs ih =>
      obtain ⟨n, rfl⟩ := e x List.mem_cons_self
      obtain ⟨ns, rfl⟩ := ih fun y hy => e y (List.mem_cons_of_mem _ hy)
      exact ⟨n :: ns, rfl⟩
  obtain ⟨ns, rfl⟩ := e2
  refine ⟨ns, rfl, ?_⟩
  have h2 := h.map (fun v => match v with | V.str n => n | _ => (Str.empty))
  rw [List.map_map, List.map_map] at h2
  have e3 : ∀ l : List Str, l.map ((fun v => match v with | V.str n => n | _ => (Str.empty)) ∘ V.str) = l := fun l => by
    induction l with
    | nil => rfl
    | cons n l ih =>
      rw [List.map_cons, ih]
      rfl
  rw [e3, e3] at h2
  exact h2
local macro_rules
  | `(tactic| row_cond hp) => `(tactic| first
    | assumption
    | exact upd_same
    | (refine Kx.Same.get (by assumption) ?_; row_cond hp)
    | (refine Kx.SB.get (by assumption) (by assumption) ?_ rfl; row_cond hp)
    | (refine Kx.SB.getL (by assumption) (by assumption) ?_; row_cond hp))
local macro_rules
  | `(tactic| row_cond zs) => `(tactic| first
    | ((with_reducible refine Kx.z_var (v := ?zval) ?zv ?zq); (case zv => rfl))
    | with_reducible refine Kx.z_c ?_
    | with_reducible refine Kx.z_cons ?_
    | with_reducible refine Kx.z_nil ?_
    | with_reducible refine Kx.z_op ?_
    | with_reducible refine Kx.z_cB ?_
    | with_reducible refine Kx.z_call ?_
    | with_reducible refine Kx.z_fld ?_
    | with_reducible refine Kx.z_tup ?_
    | with_reducible refine Kx.z_lst ?_
    | with_reducible refine Kx.z_test ?_
    | with_reducible refine Kx.z_tB ?_
    | with_reducible refine Kx.p_bl ?_
    | with_reducible refine Kx.z_iteT ?_
    | with_reducible refine Kx.z_iteF ?_
    | with_reducible refine Kx.z_seq ?_
    | with_reducible refine Kx.z_ret ?_
    | with_reducible refine Kx.z_set ?_
    | with_reducible refine Kx.z_drop ?_
    | with_reducible refine Kx.z_if ?_
    | with_reducible refine Kx.z_next ?_
    | with_reducible refine Kx.z_and ?_
    | with_reducible refine Kx.z_or ?_
    | with_reducible refine Kx.z_not ?_
    | with_reducible refine Kx.z_andV ?_
    | with_reducible refine Kx.z_orV ?_
    | with_reducible refine Kx.z_notV ?_
    | with_reducible refine Kx.z_ifE ?_
    | with_reducible refine Kx.z_chain ?_
    | with_reducible refine Kx.z_dget ?_
    | with_reducible refine Kx.z_un ?_
    | with_reducible refine Kx.z_asg ?_
    | with_reducible refine Kx.z_retN ?_
    | with_reducible refine Kx.z_iteNT ?_
    | with_reducible refine Kx.z_iteNF ?_
    | with_reducible refine Kx.p_add ?_
    | with_reducible refine Kx.p_sub ?_
    | with_reducible refine Kx.p_lt ?_
    | with_reducible refine Kx.p_le ?_
    | with_reducible refine Kx.p_gt ?_
    | with_reducible refine Kx.p_ge ?_
    | with_reducible refine Kx.p_neg ?_
    | with_reducible refine Kx.p_eqI ?_
    | with_reducible refine Kx.p_eqS ?_
    | with_reducible refine Kx.p_neI ?_
    | with_reducible refine Kx.p_eqNN ?_
    | with_reducible refine Kx.p_isN ?_
    | with_reducible refine Kx.p_isNi ?_
    | with_reducible refine Kx.p_isNr ?_
    | with_reducible refine Kx.p_notN ?_
    | with_reducible refine Kx.p_notNi ?_
    | with_reducible refine Kx.p_notNr ?_
    | with_reducible refine Kx.p_intI ?_
    | with_reducible refine Kx.p_intB ?_
    | with_reducible refine Kx.p_abs ?_
    | with_reducible refine Kx.p_mx2 ?_
    | with_reducible refine Kx.p_mn2 ?_
    | ((with_reducible refine Kx.p_ixT (xs := ?zxs) (v := ?zval) ?zh ?ze ?zq); (case zh => row_cond hp); (case ze => rfl))
    | ((with_reducible refine Kx.p_ixL (xs := ?zxs) (v := ?zval) ?zh ?ze ?zq); (case zh => row_cond hp); (case ze => rfl))
    | ((with_reducible refine Kx.p_lenT (xs := ?zxs) ?zh ?zq); (case zh => row_cond hp))
    | ((with_reducible refine Kx.p_lenL (xs := ?zxs) ?zh ?zq); (case zh => row_cond hp))
    | ((with_reducible refine Kx.p_xT (xs := ?zxs) (v := ?zval) ?zh ?ze ?zq); (case zh => row_cond hp); (case ze => rfl))
    | ((with_reducible refine Kx.p_xL (xs := ?zxs) (v := ?zval) ?zh ?ze ?zq); (case zh => row_cond hp); (case ze => rfl))
    | with_reducible refine Kx.p_qI ?_
    | with_reducible refine Kx.p_qS ?_
    | with_reducible refine Kx.p_qNI ?_
    | with_reducible refine Kx.p_ltI ?_
    | with_reducible refine Kx.q_int_int ?_
    | with_reducible refine Kx.q_int_bool ?_
    | with_reducible refine Kx.q_int_str ?_
    | with_reducible refine Kx.q_int_tuple ?_
    | with_reducible refine Kx.q_bool_int ?_
    | with_reducible refine Kx.q_bool_bool ?_
    | with_reducible refine Kx.q_bool_str ?_
    | with_reducible refine Kx.q_bool_tuple ?_
    | with_reducible refine Kx.q_str_int ?_
    | with_reducible refine Kx.q_str_bool ?_
    | with_reducible refine Kx.q_str_str ?_
    | with_reducible refine Kx.q_str_tuple ?_
    | with_reducible refine Kx.q_NoneType_int ?_
    | with_reducible refine Kx.q_NoneType_bool ?_
    | with_reducible refine Kx.q_NoneType_str ?_
    | with_reducible refine Kx.q_NoneType_tuple ?_
    | ((with_reducible refine Kx.q_tuple_int (xs := ?zxs) ?zh ?zq); (case zh => row_cond hp))
    | ((with_reducible refine Kx.q_tuple_bool (xs := ?zxs) ?zh ?zq); (case zh => row_cond hp))
    | ((with_reducible refine Kx.q_tuple_str (xs := ?zxs) ?zh ?zq); (case zh => row_cond hp))
    | ((with_reducible refine Kx.q_tuple_tuple (xs := ?zxs) ?zh ?zq); (case zh => row_cond hp))
    | ((with_reducible refine Kx.q_list_int (xs := ?zxs) ?zh ?zq); (case zh => row_cond hp))
    | ((with_reducible refine Kx.q_list_bool (xs := ?zxs) ?zh ?zq); (case zh => row_cond hp))
    | ((with_reducible refine Kx.q_list_str (xs := ?zxs) ?zh ?zq); (case zh => row_cond hp))
    | ((with_reducible refine Kx.q_list_tuple (xs := ?zxs) ?zh ?zq); (case zh => row_cond hp))
    | ((with_reducible refine Kx.q_dict_int (kvs := ?zxs) ?zh ?zq); (case zh => row_cond hp))
    | ((with_reducible refine Kx.q_dict_bool (kvs := ?zxs) ?zh ?zq); (case zh => row_cond hp))
    | ((with_reducible refine Kx.q_dict_str (kvs := ?zxs) ?zh ?zq); (case zh => row_cond hp))
    | ((with_reducible refine Kx.q_dict_tuple (kvs := ?zxs) ?zh ?zq); (case zh => row_cond hp))
    | with_reducible refine Kx.z_gn ?_
    | ((with_reducible refine Kx.z_gt2 (x := ?zx) (y := ?zy) ?zh ?zq); (case zh => row_cond hp))
    | ((with_reducible refine Kx.z_gt3 (x := ?zx) (y := ?zy) (z := ?zz) ?zh ?zq); (case zh => row_cond hp))
    | with_reducible refine Kx.z_lcT ?_
    | with_reducible refine Kx.z_lcL ?_
    | with_reducible refine Kx.z_lcS ?_
    | with_reducible refine Kx.z_lcR ?_
    | with_reducible refine Kx.z_lcZ ?_
    | with_reducible refine Kx.z_yes ?_
    | ((with_reducible refine Kx.z_wip ?zh ?zq); (case zh => rfl))
    | ((with_reducible refine Kx.z_LK ?zh ?zq); (case zh => rfl))
    | with_reducible refine Kx.z_lc2T ?_
    | with_reducible refine Kx.z_lc2L ?_
    | with_reducible refine Kx.z_inT ?_
    | with_reducible refine Kx.z_inL ?_
    | ((with_reducible refine Kx.z_LK2 ?zh ?zq); (case zh => rfl))
    | with_reducible refine Kx.z_sl ?_
    | with_reducible refine Kx.z_nop ?_
    | with_reducible refine Kx.z_part ?_
    | with_reducible refine Kx.z_exi ?_
    | with_reducible refine Kx.p_isNb ?_
    | with_reducible refine Kx.p_isNs ?_
    | with_reducible refine Kx.z_match ?_
    | ((with_reducible refine Kx.z_caseT (y := ?zy) (xs := ?zxs) ?zh ?zl ?zf ?zq); (case zh => row_cond hp); (case zl => rfl); (case zf => rfl))
    | ((with_reducible refine Kx.z_caseL (y := ?zy) (xs := ?zxs) ?zh ?zl ?zq); (case zh => row_cond hp); (case zl => (intro z; cases z)))
    | ((with_reducible refine Kx.z_caseF (y := ?zy) (xs := ?zxs) ?zh ?zf ?zq); (case zh => row_cond hp); (case zf => rfl))
    | with_reducible refine Kx.z_mnil ?_
    | with_reducible refine Kx.z_lcE ?_
    | with_reducible refine Kx.z_forT ?_
    | with_reducible refine Kx.z_forL ?_
    | with_reducible refine Kx.z_forR ?_
    | with_reducible refine Kx.z_forC ?_
    | ((with_reducible refine Kx.p_fP (dx := ?zd) (fs := ?zfs) (v := ?zv) (by assumption) ?zh ?zl ?zf ?zq); (case zh => row_cond hp); (case zl => assumption); (case zf => decide +kernel))
    | ((with_reducible refine Kx.p_fG (dx := ?zd) (fs := ?zfs) (v := ?zv) (by assumption) ?zh ?zl ?zf ?zq); (case zh => row_cond hp); (case zl => assumption); (case zf => decide +kernel))
    | ((with_reducible refine Kx.p_fR (dx := ?zd) (fs := ?zfs) (v := ?zv) (by assumption) ?zh ?zl ?zf ?zq); (case zh => row_cond hp); (case zl => assumption); (case zf => decide +kernel))
    | ((with_reducible refine Kx.p_dgetS (kvs := ?zk) (v := ?zv) ?zh ?ze ?zq); (case zh => row_cond hp); (case ze => assumption))
    | with_reducible refine Kx.z_star ?_
    | ((with_reducible refine Kx.p_star (xs := ?zxs) ?zh ?zq); (case zh => row_cond hp))
    | with_reducible refine Kx.z_bm ?_
    | with_reducible refine Kx.p_ip ?_
    | with_reducible refine Kx.z_lss ?_
    | with_reducible refine Kx.z_dcT ?_
    | with_reducible refine Kx.z_sf ?_
    | with_reducible refine Kx.z_dnew ?_
    | with_reducible refine Kx.z_mk ?_
    | with_reducible refine Kx.z_callS ?_
    | with_reducible refine Kx.z_gsub ?_
    | ((with_reducible refine Kx.p_setL (xs := ?zxs) (k := ?zk) ?zh ?ze ?zq); (case zh => row_cond hp); (case ze => rfl))
    | ((with_reducible refine Kx.p_modP ?zh ?zq); (case zh => first | assumption | decide +kernel))
    | ((with_reducible refine Kx.p_mulR ?zh ?zq); (case zh => first | assumption | decide +kernel))
    | ((with_reducible refine Kx.p_mulL ?zh ?zq); (case zh => first | assumption | decide +kernel))
    | ((with_reducible refine Kx.p_powS ?zh ?zq); (case zh => first | assumption | decide +kernel))
    | ((with_reducible refine Kx.p_powW ?zh ?zq); (case zh => first | assumption | decide +kernel))
    | ((with_reducible refine Kx.p_fdvS ?zh ?zq); (case zh => first | assumption | decide +kernel))
    | with_reducible refine Kx.z_par ?_
    | with_reducible refine Kx.p_par ?_
    | with_reducible refine Kx.z_par3 ?_
    | with_reducible refine Kx.p_par3 ?_
    | ((with_reducible refine Kx.z_gl3 (x := ?zx) (y := ?zy) (z := ?zz) ?zh ?zq); (case zh => row_cond hp))
    | ((with_reducible refine Kx.z_gtG2 (x := ?zx) (y := ?zy) ?zh ?zq); (case zh => row_cond hp))
    | with_reducible refine Kx.z_cm ?_
    | with_reducible refine Kx.p_cm ?_
    | with_reducible refine Kx.z_prs ?_
    | with_reducible refine Kx.z_prn ?_
    | dsimp only)
local macro_rules
  | `(tactic| row_cond zz) => `(tactic| repeat (row_cond zs))

section
variable {P : Program} {w : World} {K : PySem.W.Frag} {mg : Str → Option Value} {base : Heap}
def spPlain : Sp := fun vs H Q _ => ∃ (d : Addr), vs = [.ref d] ∧ Die H d ∧ ∀ H' a p, SB d H H' → PlainAt H' a p → PrgOk p → Q (.ref a) H'
theorem sc__law_any_plain : FnScope ["_law_die", "_law_total", "_law_rows", "_law_names", "_law_name", "_law_points", "_law_moves", "_law_turn"] ["_law_die"] (defScope (top 58)) := ⟨rfl, rfl, rfl, by decide +kernel, rfl, by decide +kernel, by decide +kernel⟩
theorem c__law_any_plain (T : Txt K mg) : Cal P w K mg base 4 "_law_any_plain" spPlain := by
  refine cal_of T 27 rfl sc__law_any_plain (fun _ _ _ _ _ _ us hl => match us, hl with | [_], _ => rfl) (fun vs H Q E h => ?_) (fun f cdv A outer s H vs Q E hr h => ?_)
  · obtain ⟨d, rfl, _⟩ := h
    rfl
  · obtain ⟨d, rfl, hd, hq⟩ := h
    refine ⟨_, (pss_cons (ps_par (i := 1) (j := 2) rfl sc__law_any_plain.nd rfl rfl (by decide) rfl rfl (pa_cons (C8.pe_c (c__law_pick T) hr (by decide) rfl (pa_cons (pv 0) (pa_cons (pe_lst (pa_cons pe_int (pa_cons pe_int (pa_cons pe_int (pa_cons pe_int pa_nil))))) pa_nil))) (pa_cons (pe_lst pa_nil) pa_nil)) rfl)
      (pss_cons (ps_set (i := 3) sc__law_any_plain.nd rfl (.inl rfl) (pe_slice (k_slL (K := K) rfl) (C8.pe_c (c__law_shuffle T) hr (by decide) rfl (pa_cons (pv 0) (pa_cons (pe_lst (pa_cons pe_str (pa_cons pe_str (pa_cons pe_str pa_nil)))) pa_nil))) po_none (po_some (C8.pe_c (c__law_pick T) hr (by decide) rfl (pa_cons (pv 0) (pa_cons (pe_lst (pa_cons pe_int (pa_cons pe_int (pa_cons pe_int (pa_cons pe_int pa_nil))))) pa_nil))))))
      (pss_cons (ps_for PassesOwn.never rfl (k_lst (K := K) rfl (pv 3)) (pg_name (i := 4) sc__law_any_plain.nd rfl (.inl rfl) (.inr rfl)) (pss_cons (ps_par (i := 5) (j := 6) rfl sc__law_any_plain.nd rfl rfl (by decide) rfl rfl (pa_cons (C8.pe_c (c__law_pick T) hr (by decide) rfl (pa_cons (pv 0) (pa_cons (pe_lst (pa_cons pe_int (pa_cons pe_int (pa_cons pe_int (pa_cons pe_int pa_nil))))) pa_nil))) (pa_cons (pe_lst pa_nil) pa_nil)) rfl)
      (pss_cons (ps_for PassesOwn.never rfl (pi_range1 rfl (T.b "range") (pa_cons (pe_op o_add pe_int (C8.pe_c (c__law_cast T) hr (by decide) rfl (pa_cons (pv 0) (pa_cons pe_int pa_nil)))) pa_nil)) (pg_name (i := 7) sc__law_any_plain.nd rfl (.inl rfl) (.inr rfl)) (pss_one (ps_expr (pe_bm PySem.F.plainAttrs_list PySem.F.slot_list_append PySem.F.type_list_append mt_append (pv 6) (pa_cons (C8.pe_c (c__law_a_move T) hr (by decide) rfl (pa_cons (pv 0) (pa_cons (pv 1) (pa_cons (pv 5) (pa_cons (pv 3) pa_nil))))) pa_nil)))))
      (pss_one (ps_expr (pe_bm PySem.F.plainAttrs_list PySem.F.slot_list_append PySem.F.type_list_append mt_append (pv 2) (pa_cons (pe_lst (pa_cons (pv 4) (pa_cons (pv 5) (pa_cons (pe_callTy (k_ctup (K := K) rfl) rfl (T.b "tuple") boot_tuple (pa_cons (pv 6) pa_nil)) pa_nil)))) pa_nil)))))))
      (pss_one (ps_ret (pe_lst (pa_cons (pv 1) (pa_cons (C8.pe_c (c__law_subset T) hr (by decide) rfl (pa_cons (pv 0) (pa_cons (pv 1) pa_nil))) (pa_cons (pv 2) pa_nil))))))))), ?_⟩
    row_cond zz
    refine p_lst (Nat.le_of_ble_eq_true rfl) fun l1 H1 hl1 s1 e1 => ?_
    row_cond zz
    refine ⟨d, l1, _, rfl, hd.same s1, hd.ne0 hl1, .inl e1, by simp, by simp, fun H2 x s2 hx => ?_⟩
    obtain ⟨tot, rfl, t0, t3⟩ := in_2321 hx
    row_cond zz
    refine p_lst (Nat.le_of_ble_eq_true rfl) fun rw_ H3 hrw s3 e3 => ?_
    have hrd : rw_ ≠ d := s2.die.ne0 hrw
    row_cond zz
    refine p_lst (Nat.le_of_ble_eq_true rfl) fun l4 H4 hl4 s4 e4 => ?_
    have d4 := s2.die.same (s3.trans s4)
    row_cond zz
    refine ⟨d, l4, _, rfl, d4, (s2.die.same s3).ne0 hl4, e4, by simp, fun H5 sh ys s5 hsh e5 hperm => ?_⟩
    have hshd : sh ≠ d := d4.ne0 hsh
    obtain ⟨ns, rfl, hnp⟩ := str_list (ss := ["main", "p", "q"]) hperm
    row_cond zz
    refine p_lst (Nat.le_of_ble_eq_true rfl) fun l6 H6 hl6 s6 e6 => ?_
    row_cond zz
    refine ⟨d, l6, _, rfl, s5.die.same s6, s5.die.ne0 hl6, .inl e6, by simp, by simp, fun H7 x s7 hx => ?_⟩
    obtain ⟨cnt, rfl, c0, c3⟩ := in_2312 hx
    row_cond zz
    refine p_slL (s7.keep _ _ hshd (Kx.Same.get s6 e5)) fun ln H8 hln s8 e8 => ?_
    rw [cut_to, ← List.map_take] at e8
    have hnl : (ns.take cnt).length = cnt := by
      have := hnp.length_eq
      rw [List.length_take]
      have : ns.length = 3 := this
      omega
    have hnd : (ns.take cnt).Nodup := ((hnp.nodup_iff).mpr (by decide +kernel)).sublist (List.take_sublist _ _)
    have hok : ∀ n ∈ ns.take cnt, n ∈ okNames := fun n hn => hnp.mem_iff.mp (List.mem_of_mem_take hn)
    generalize ns.take cnt = nm at e8 hnl hnd hok
    have hld : ln ≠ d := s7.die.ne0 hln
    have er8 : H8 rw_ = some (.lst []) := Kx.Same.get s8 (s7.keep _ _ hrd (Kx.Same.get s6 (s5.keep _ _ hrd (Kx.Same.get s4 e3))))
    have hlr : ln ≠ rw_ := fun z => by
      rw [← z] at er8
      have := s7.keep _ _ hrd (Kx.Same.get s6 (s5.keep _ _ hrd (Kx.Same.get s4 e3)))
      rw [← z, hln] at this
      cases this
    have s08 : SB d H H8 := ((((((SB.of hd s1).trans s2).same (s3.trans s4)).trans s5).same s6).trans s7).same s8
    have hrw0 : H rw_ = none := by
      cases hh : H rw_ with
      | none => rfl
      | some o =>
        have := ((SB.of hd s1).trans s2).keep _ _ hrd hh
        rw [hrw] at this
        cases this
    row_cond zz
    refine p_forL (fun i σ H' => ∃ (v4 v5 v6 v7 : Option V) (xs : List V) (ps : List (Str × Int × List Mv)), σ = [some (.ref d), some (.int tot), some (.ref rw_), some (.ref ln), v4, v5, v6, v7] ∧ SB d H H' ∧ H' rw_ = some (.lst xs) ∧ H' ln = some (.lst (nm.map V.str)) ∧ RowsAt H' xs ps (fun a => a ≠ d ∧ a ≠ rw_) ∧ (∀ r ∈ ps, ProcOk tot nm r) ∧ ps.map (·.1) = nm.take i) e8 ⟨none, none, none, none, [], [], rfl, s08, er8, e8, ⟨rfl, fun j x r h => (by cases h)⟩, fun r hr => (by cases hr), rfl⟩ (fun i σ H9 hp => ?_) (fun i x σ H9 hx hi hp => ?_) (fun σ H9 hp => ?_)
    · obtain ⟨v4, v5, v6, v7, xs, ps, _, _, _, e, _⟩ := hp
      exact e
    · obtain ⟨v4, v5, v6, v7, xs, ps, rfl, s09, er9, el9, hrows, hprs, hpn⟩ := hp
      obtain ⟨n, hn, rfl⟩ : ∃ n, nm[i]? = some n ∧ x = .str n := by
        rw [List.getElem?_map] at hx
        obtain ⟨n, hn, rfl⟩ := Option.map_eq_some_iff.mp hx
        exact ⟨n, hn, rfl⟩
      rw [List.length_map] at hi
      row_cond zz
      refine p_lst (Nat.le_of_ble_eq_true rfl) fun lA HA hlA sA eA => ?_
      row_cond zz
      refine ⟨d, lA, _, rfl, s09.die.same sA, s09.die.ne0 hlA, .inl eA, by simp, by simp, fun HB x sB hx => ?_⟩
      obtain ⟨pts, rfl, p0, p3⟩ := in_2132 hx
      row_cond zz
      refine p_lst (Nat.le_of_ble_eq_true rfl) fun ml HC hml sC eC => ?_
      have hmd : ml ≠ d := sB.die.ne0 hml
      have dB := sB.die
      row_cond zz
      refine ⟨d, 4, rfl, dB.same sC, by decide, by decide, fun HD r sD r0 r4 => ?_⟩
      have sBD : SB d HB HD := (SB.of dB sC).trans sD
      row_cond zz
      have s9B : SB d H9 HB := (SB.of s09.die sA).trans sB
      have s0B := s09.trans s9B
      refine p_forR (fun j σ H' => ∃ (v7 : Option V) (ms : List V) (l : List Mv), σ = [some (.ref d), some (.int tot), some (.ref rw_), some (.ref ln), some (.str n), some (.int pts), some (.ref ml), v7] ∧ SB d HB H' ∧ H' ml = some (.lst ms) ∧ TDs H' ms (l.map eMv) ∧ (∀ m ∈ l, MvOk tot pts nm m) ∧ l.length = j) (by omega) (by omega) ⟨v7, [], [], rfl, sBD, sD.keep _ _ hmd eC, .nil, fun m hm => (by cases hm), rfl⟩ (fun j σ HE hj hp => ?_) (fun σ HE hp => ?_)
      · obtain ⟨v7, ms, l, rfl, sBE, eml, tms, hms, hll⟩ := hp
        have hmsl : ms.length = l.length := by rw [tms.length, List.length_map]
        have elE := (s9B.trans sBE).keep _ _ hld el9
        row_cond zz
        refine ⟨tyL eml, ?_⟩
        row_cond zz
        refine ⟨d, tot, pts, ln, nm, rfl, sBE.die, hld, elE, fun z => (by rw [z] at hn; cases hn), by omega, t0, by omega, p0, by omega, fun HF a m sF tm okm => ?_⟩
        have emlF := sF.keep _ _ hmd eml
        row_cond zz
        refine p_append emlF (by omega) ?_
        refine ⟨_, _, l ++ [m], rfl, ⟨?_, fun b o nb e => ?_⟩, upd_same, ?_, fun m' hm' => ?_, ?_⟩
        · obtain ⟨x, y, z, e⟩ := sF.die
          exact ⟨x, y, z, by rw [upd_ne hmd.symm]; exact e⟩
        · rw [upd_ne (ne_of_none e hml)]
          exact (sBE.trans sF).keep _ _ nb e
        · rw [List.map_append]
          exact TDs.nk (nk_upd emlF) ((tms.nk (sF.nk sBE.die)).append (.cons tm .nil))
        · rcases List.mem_append.mp hm' with h | h
          · exact hms m' h
          · rw [List.mem_singleton.mp h]
            exact okm
        · rw [List.length_append, hll]
          rfl
      · obtain ⟨v7, ms, l, rfl, sBE, eml, tms, hms, hll⟩ := hp
        have s9E := s9B.trans sBE
        have erE := s9E.keep _ _ hrd er9
        have elE := s9E.keep _ _ hld el9
        have hxsl : xs.length = i := by
          have h1 := hrows.len
          have h2 := congrArg List.length hpn
          rw [List.length_map, List.length_take] at h2
          omega
        row_cond zz
        refine ⟨tyL erE, ?_⟩
        row_cond zz
        refine p_tupL eml fun t HF ht sF eF => ?_
        row_cond zz
        refine p_lst (Nat.le_of_ble_eq_true rfl) fun ra HG hra sG eG => ?_
        have hrad : ra ≠ d := (sBE.die.same sF).ne0 hra
        have erF := Kx.Same.get sF erE
        have hrar : ra ≠ rw_ := fun z => by
          rw [z, erF] at hra
          cases hra
        have erG := Kx.Same.get sG erF
        have tl : TD HG (.ref t) (eMvs l) := .tup (Kx.Same.get sG eF) (tms.sm (sF.trans sG))
        row_cond zz
        refine p_append erG (by omega) ?_
        have s0G : SB d H HG := (s09.trans s9E).same (sF.trans sG)
        have nku := nk_upd (ys := xs ++ [V.ref ra]) erG
        refine ⟨_, _, _, _, _, ps ++ [(n, pts, l)], rfl, ⟨?_, fun b o nb e => ?_⟩, upd_same, ?_, ?_, fun r hr => ?_, ?_⟩
        · obtain ⟨x, y, z, e⟩ := s0G.die
          exact ⟨x, y, z, by rw [upd_ne hrd.symm]; exact e⟩
        · rw [upd_ne (ne_of_none e hrw0)]
          exact s0G.keep _ _ nb e
        · rw [upd_ne hlr]
          exact Kx.Same.get (sF.trans sG) elE
        · refine RowsAt.snoc (hrows.imp (NK.tk ((s9E.nk s09.die).trans ((Kx.Same.nk (sF.trans sG)).trans nku))) fun a o na e => ⟨na, ?_⟩) ⟨ra, t, rfl, ⟨hrad, hrar⟩, ?_, tl.nk nku⟩
          · rw [upd_ne na.2]
            exact Kx.Same.get (sF.trans sG) (s9E.keep _ _ na.1 e)
          · rw [upd_ne hrar]
            exact eG
        · rcases List.mem_append.mp hr with h | h
          · exact hprs r h
          · rw [List.mem_singleton.mp h]
            exact ⟨⟨p0, by show pts ≤ 8; omega⟩, by show l.length ≤ 16; omega, hms⟩
        · rw [List.map_append, hpn, List.take_succ, hn]
          rfl
    · obtain ⟨v4, v5, v6, v7, xs, ps, rfl, s09, er9, el9, hrows, hprs, hpn⟩ := hp
      rw [List.length_map, List.take_length] at hpn
      have hpl : ps.length = nm.length := by rw [← hpn, List.length_map]
      row_cond zz
      refine ⟨d, tot, rfl, s09.die, t0, by omega, fun HA sa ms sA eA okms => ?_⟩
      row_cond zz
      refine p_lst (Nat.le_of_ble_eq_true rfl) fun a HB ha sB eB => ?_
      have s9B : SB d H9 HB := sA.same sB
      refine hq HB a ⟨tot, ms, ps⟩ (s09.trans s9B) ⟨sa, rw_, xs, eB, Kx.Same.get sB eA, s9B.keep _ _ hrd er9, hrows.imp (NK.tk (s9B.nk s09.die)) fun a o na e => ⟨trivial, s9B.keep _ _ na.1 e⟩⟩ ⟨⟨t0, by show tot ≤ 6; omega⟩, okms, fun z => ?_, by show ps.length ≤ 6; omega, ?_, fun n hn => ?_, fun r hr => ?_⟩
      · have z : ps = [] := z
        rw [z] at hpl
        rw [hnl] at hpl
        have : 0 = cnt := hpl
        omega
      · show (ps.map (·.1)).Nodup
        rw [hpn]
        exact hnd
      · have hn : n ∈ ps.map (·.1) := hn
        rw [hpn] at hn
        exact hok n hn
      · show ProcOk tot (ps.map (·.1)) r
        rw [hpn]
        exact hprs r hr
end
end Kx

/- part K20 -/
/-! # K20: the drawn program, made and coded -/
namespace Kx
open PySem PySem.Spec PyProof.Rows L2
theorem k_gl {X : Cx} {K : PySem.W.Frag} {es : List Expr} {k : Nat} {u : TGs} {n : Nat} {pos : Pos} (h : X.K = K) (hc : X.calm = true) (hp : PGs X es u) (hn : (assignEach es X.env).length = n := by rfl) (hst : (assignEach es X.env).findIdx? (·.1) = none := by rfl) : PG X (.Tuple es k pos) (gLst K n u) := h ▸ pg_lst hc hp hn hst
def pCm (C : Addr) (sp : Sp) (E : XK) (t : TA) (σ : L2.St) (Q : VK) : VK := fun x H1 => x = .ref C ∧ t σ H1 fun vs H2 => sp (.ref C :: vs) H2 Q E
section
variable {K : PySem.W.Frag} {H : Hp} {Q : VK} {a C : Addr} {x y z v : V} {σ : L2.St} {QS : L2.St → Hp → Prop} {g1 g2 : TG} {sp : Sp} {E : XK} {ta : TE} {t : TA} {tk tv : TE} {r : List (TE × TE)} {QP : List (V × V) → Hp → Prop}
theorem z_gl3 {n m l : Nat} (h : H a = some (.lst [x, y, z])) (q : QS (((σ.set n (some x)).set m (some y)).set l (some z)) H) : gLst K 3 (gCons (gName n) (gCons (gName m) (gCons (gName l) gNil))) (.ref a) σ H QS :=
  ⟨a, _, rfl, .inl (.inl h), rfl, x, _, rfl, y, _, rfl, z, _, rfl, rfl, q⟩
theorem z_gtG2 (h : H a = some (.tup [x, y])) (q : g1 x σ H fun σ1 H1 => g2 y σ1 H1 QS) : gTup K 2 (gCons g1 (gCons g2 gNil)) (.ref a) σ H QS := ⟨a, _, rfl, .inl (.inl h), rfl, x, _, rfl, by
  show g1 x σ H fun σ' H' => gCons g2 gNil [y] σ' H' QS
  have e : (fun σ' H' => gCons g2 gNil [y] σ' H' QS) = fun σ1 H1 => g2 y σ1 H1 QS := by
    funext σ' H'
    unfold gCons gNil
    apply propext
    constructor
    · rintro ⟨v, r, e, h⟩
      cases e
      have e2 : (fun σ' H' => ([] : List V) = [] ∧ QS σ' H') = QS := by
        funext a b
        simp
      rw [e2] at h
      exact h
    · intro h
      refine ⟨y, [], rfl, ?_⟩
      have e2 : (fun σ' H' => ([] : List V) = [] ∧ QS σ' H') = QS := by
        funext a b
        simp
      rw [e2]
      exact h
  rw [e]
  exact q⟩
theorem z_cm (h : ta σ H (pCm C sp E t σ Q)) : ClX.tCMeth C sp E ta t σ H Q := h
theorem p_cm (h : t σ H fun vs H2 => sp (.ref C :: vs) H2 Q E) : pCm C sp E t σ Q (.ref C) H := ⟨rfl, h⟩
theorem z_prs (h : tk σ H fun x H1 => tv σ H1 fun y H2 => tPairs r σ H2 fun ps H3 => QP ((x, y) :: ps) H3) : tPairs ((tk, tv) :: r) σ H QP := h
theorem z_prn (h : QP [] H) : tPairs [] σ H QP := h
theorem p_setD {s : Str} {kvs : List (Key × V)} (h : H a = some (.dK kvs)) (hl : kvs.length < 100000) (q : QS σ (upd H a (.dK (putK kvs (.inr s) v)))) : pSub rSetD v σ QS (.ref a) (.str s) H := ⟨a, _, rfl, DPut.k (k := .inr s) h (Nat.lt_of_lt_of_le hl (by decide)), q⟩
end
/-- the law's code of a program, as far as the law reads it -/
def CodeAt (H : Hp) (c : Addr) (p : Prg) : Prop := ∃ (kvs : List (Key × V)) (md st : Addr) (kvm : List (Key × V)), H c = some (.dK kvs) ∧ valV kvs (.inr "starts") = some (.ref st) ∧ H st = some (.tup (p.starts.map V.int)) ∧ valV kvs (.inr "main") = some (.str p.main) ∧ valV kvs (.inr "moves") = some (.ref md) ∧ H md = some (.dK kvm) ∧
  ∀ n pts l, p.procs.lookup n = some (pts, l) → ∃ v, valV kvm (.inr n) = some (.ref v) ∧ TD H (.ref v) (eMvs l)
theorem CodeAt.nk {H H' : Hp} {c : Addr} {p : Prg} (s : NK H H') (h : CodeAt H c p) : CodeAt H' c p := by
  obtain ⟨kvs, md, st, kvm, h1, h2, h3, h4, h5, h6, h7⟩ := h
  refine ⟨kvs, md, st, kvm, s _ _ rfl h1, h2, s _ _ rfl h3, h4, h5, s _ _ rfl h6, fun n pts l e => ?_⟩
  obtain ⟨v, q1, q2⟩ := h7 n pts l e
  exact ⟨v, q1, q2.nk s⟩
local macro_rules
  | `(tactic| row_cond hp) => `(tactic| first
    | assumption
    | exact upd_same
    | (refine Kx.Same.get (by assumption) ?_; row_cond hp)
    | (refine Kx.SB.get (by assumption) (by assumption) ?_ rfl; row_cond hp)
    | (refine Kx.SB.getL (by assumption) (by assumption) ?_; row_cond hp))
local macro_rules
  | `(tactic| row_cond zs) => `(tactic| first
    | ((with_reducible refine Kx.z_var (v := ?zval) ?zv ?zq); (case zv => rfl))
    | with_reducible refine Kx.z_c ?_
    | with_reducible refine Kx.z_cons ?_
    | with_reducible refine Kx.z_nil ?_
    | with_reducible refine Kx.z_op ?_
    | with_reducible refine Kx.z_cB ?_
    | with_reducible refine Kx.z_call ?_
    | with_reducible refine Kx.z_fld ?_
    | with_reducible refine Kx.z_tup ?_
    | with_reducible refine Kx.z_lst ?_
    | with_reducible refine Kx.z_test ?_
    | with_reducible refine Kx.z_tB ?_
    | with_reducible refine Kx.p_bl ?_
    | with_reducible refine Kx.z_iteT ?_
    | with_reducible refine Kx.z_iteF ?_
    | with_reducible refine Kx.z_seq ?_
    | with_reducible refine Kx.z_ret ?_
    | with_reducible refine Kx.z_set ?_
    | with_reducible refine Kx.z_drop ?_
    | with_reducible refine Kx.z_if ?_
    | with_reducible refine Kx.z_next ?_
    | with_reducible refine Kx.z_and ?_
    | with_reducible refine Kx.z_or ?_
    | with_reducible refine Kx.z_not ?_
    | with_reducible refine Kx.z_andV ?_
    | with_reducible refine Kx.z_orV ?_
    | with_reducible refine Kx.z_notV ?_
    | with_reducible refine Kx.z_ifE ?_
    | with_reducible refine Kx.z_chain ?_
    | with_reducible refine Kx.z_dget ?_
    | with_reducible refine Kx.z_un ?_
    | with_reducible refine Kx.z_asg ?_
    | with_reducible refine Kx.z_retN ?_
    | with_reducible refine Kx.z_iteNT ?_
    | with_reducible refine Kx.z_iteNF ?_
    | with_reducible refine Kx.p_add ?_
    | with_reducible refine Kx.p_sub ?_
    | with_reducible refine Kx.p_lt ?_
    | with_reducible refine Kx.p_le ?_
    | with_reducible refine Kx.p_gt ?_
    | with_reducible refine Kx.p_ge ?_
    | with_reducible refine Kx.p_neg ?_
    | with_reducible refine Kx.p_eqI ?_
    | with_reducible refine Kx.p_eqS ?_
    | with_reducible refine Kx.p_neI ?_
    | with_reducible refine Kx.p_eqNN ?_
    | with_reducible refine Kx.p_isN ?_
    | with_reducible refine Kx.p_isNi ?_
    | with_reducible refine Kx.p_isNr ?_
    | with_reducible refine Kx.p_notN ?_
    | with_reducible refine Kx.p_notNi ?_
    | with_reducible refine Kx.p_notNr ?_
    | with_reducible refine Kx.p_intI ?_
    | with_reducible refine Kx.p_intB ?_
    | with_reducible refine Kx.p_abs ?_
    | with_reducible refine Kx.p_mx2 ?_
    | with_reducible refine Kx.p_mn2 ?_
    | ((with_reducible refine Kx.p_ixT (xs := ?zxs) (v := ?zval) ?zh ?ze ?zq); (case zh => row_cond hp); (case ze => rfl))
    | ((with_reducible refine Kx.p_ixL (xs := ?zxs) (v := ?zval) ?zh ?ze ?zq); (case zh => row_cond hp); (case ze => rfl))
    | ((with_reducible refine Kx.p_lenT (xs := ?zxs) ?zh ?zq); (case zh => row_cond hp))
    | ((with_reducible refine Kx.p_lenL (xs := ?zxs) ?zh ?zq); (case zh => row_cond hp))
    | ((with_reducible refine Kx.p_xT (xs := ?zxs) (v := ?zval) ?zh ?ze ?zq); (case zh => row_cond hp); (case ze => rfl))
    | ((with_reducible refine Kx.p_xL (xs := ?zxs) (v := ?zval) ?zh ?ze ?zq); (case zh => row_cond hp); (case ze => rfl))
    | with_reducible refine Kx.p_qI ?_
    | with_reducible refine Kx.p_qS ?_
    | with_reducible refine Kx.p_qNI ?_
    | with_reducible refine Kx.p_ltI ?_
    | with_reducible refine Kx.q_int_int ?_
    | with_reducible refine Kx.q_int_bool ?_
    | with_reducible refine Kx.q_int_str ?_
    | with_reducible refine Kx.q_int_tuple ?_
    | with_reducible refine Kx.q_bool_int ?_
    | with_reducible refine Kx.q_bool_bool ?_
    | with_reducible refine Kx.q_bool_str ?_
    | with_reducible refine Kx.q_bool_tuple ?_
    | with_reducible refine Kx.q_str_int ?_
    | with_reducible refine Kx.q_str_bool ?_
    | with_reducible refine Kx.q_str_str ?_
    | with_reducible refine Kx.q_str_tuple ?_
    | with_reducible refine Kx.q_NoneType_int ?_
    | with_reducible refine Kx.q_NoneType_bool ?_
    | with_reducible refine Kx.q_NoneType_str ?_
    | with_reducible refine Kx.q_NoneType_tuple ?_
    | ((with_reducible refine Kx.q_tuple_int (xs := ?zxs) ?zh ?zq); (case zh => row_cond hp))
    | ((with_reducible refine Kx.q_tuple_bool (xs := ?zxs) ?zh ?zq); (case zh => row_cond hp))
    | ((with_reducible refine Kx.q_tuple_str (xs := ?zxs) ?zh ?zq); (case zh => row_cond hp))
    | ((with_reducible refine Kx.q_tuple_tuple (xs := ?zxs) ?zh ?zq); (case zh => row_cond hp))
    | ((with_reducible refine Kx.q_list_int (xs := ?zxs) ?zh ?zq); (case zh => row_cond hp))
    | ((with_reducible refine Kx.q_list_bool (xs := ?zxs) ?zh ?zq); (case zh => row_cond hp))
    | ((with_reducible refine Kx.q_list_str (xs := ?zxs) ?zh ?zq); (case zh => row_cond hp))
    | ((with_reducible refine Kx.q_list_tuple (xs := ?zxs) ?zh ?zq); (case zh => row_cond hp))
    | ((with_reducible refine Kx.q_dict_int (kvs := ?zxs) ?zh ?zq); (case zh => row_cond hp))
    | ((with_reducible refine Kx.q_dict_bool (kvs := ?zxs) ?zh ?zq); (case zh => row_cond hp))
    | ((with_reducible refine Kx.q_dict_str (kvs := ?zxs) ?zh ?zq); (case zh => row_cond hp))
    | ((with_reducible refine Kx.q_dict_tuple (kvs := ?zxs) ?zh ?zq); (case zh => row_cond hp))
    | with_reducible refine Kx.z_gn ?_
    | ((with_reducible refine Kx.z_gt2 (x := ?zx) (y := ?zy) ?zh ?zq); (case zh => row_cond hp))
    | ((with_reducible refine Kx.z_gt3 (x := ?zx) (y := ?zy) (z := ?zz) ?zh ?zq); (case zh => row_cond hp))
    | with_reducible refine Kx.z_lcT ?_
    | with_reducible refine Kx.z_lcL ?_
    | with_reducible refine Kx.z_lcS ?_
    | with_reducible refine Kx.z_lcR ?_
    | with_reducible refine Kx.z_lcZ ?_
    | with_reducible refine Kx.z_yes ?_
    | ((with_reducible refine Kx.z_wip ?zh ?zq); (case zh => rfl))
    | ((with_reducible refine Kx.z_LK ?zh ?zq); (case zh => rfl))
    | with_reducible refine Kx.z_lc2T ?_
    | with_reducible refine Kx.z_lc2L ?_
    | with_reducible refine Kx.z_inT ?_
    | with_reducible refine Kx.z_inL ?_
    | ((with_reducible refine Kx.z_LK2 ?zh ?zq); (case zh => rfl))
    | with_reducible refine Kx.z_sl ?_
    | with_reducible refine Kx.z_nop ?_
    | with_reducible refine Kx.z_part ?_
    | with_reducible refine Kx.z_exi ?_
    | with_reducible refine Kx.p_isNb ?_
    | with_reducible refine Kx.p_isNs ?_
    | with_reducible refine Kx.z_match ?_
    | ((with_reducible refine Kx.z_caseT (y := ?zy) (xs := ?zxs) ?zh ?zl ?zf ?zq); (case zh => row_cond hp); (case zl => rfl); (case zf => rfl))
    | ((with_reducible refine Kx.z_caseL (y := ?zy) (xs := ?zxs) ?zh ?zl ?zq); (case zh => row_cond hp); (case zl => (intro z; cases z)))
    | ((with_reducible refine Kx.z_caseF (y := ?zy) (xs := ?zxs) ?zh ?zf ?zq); (case zh => row_cond hp); (case zf => rfl))
    | with_reducible refine Kx.z_mnil ?_
    | with_reducible refine Kx.z_lcE ?_
    | with_reducible refine Kx.z_forT ?_
    | with_reducible refine Kx.z_forL ?_
    | with_reducible refine Kx.z_forR ?_
    | with_reducible refine Kx.z_forC ?_
    | ((with_reducible refine Kx.p_fP (dx := ?zd) (fs := ?zfs) (v := ?zv) (by assumption) ?zh ?zl ?zf ?zq); (case zh => row_cond hp); (case zl => assumption); (case zf => decide +kernel))
    | ((with_reducible refine Kx.p_fG (dx := ?zd) (fs := ?zfs) (v := ?zv) (by assumption) ?zh ?zl ?zf ?zq); (case zh => row_cond hp); (case zl => assumption); (case zf => decide +kernel))
    | ((with_reducible refine Kx.p_fR (dx := ?zd) (fs := ?zfs) (v := ?zv) (by assumption) ?zh ?zl ?zf ?zq); (case zh => row_cond hp); (case zl => assumption); (case zf => decide +kernel))
    | ((with_reducible refine Kx.p_dgetS (kvs := ?zk) (v := ?zv) ?zh ?ze ?zq); (case zh => row_cond hp); (case ze => assumption))
    | with_reducible refine Kx.z_star ?_
    | ((with_reducible refine Kx.p_star (xs := ?zxs) ?zh ?zq); (case zh => row_cond hp))
    | with_reducible refine Kx.z_bm ?_
    | with_reducible refine Kx.p_ip ?_
    | with_reducible refine Kx.z_lss ?_
    | with_reducible refine Kx.z_dcT ?_
    | with_reducible refine Kx.z_sf ?_
    | with_reducible refine Kx.z_dnew ?_
    | with_reducible refine Kx.z_mk ?_
    | with_reducible refine Kx.z_callS ?_
    | with_reducible refine Kx.z_gsub ?_
    | ((with_reducible refine Kx.p_setL (xs := ?zxs) (k := ?zk) ?zh ?ze ?zq); (case zh => row_cond hp); (case ze => rfl))
    | ((with_reducible refine Kx.p_modP ?zh ?zq); (case zh => first | assumption | decide +kernel))
    | ((with_reducible refine Kx.p_mulR ?zh ?zq); (case zh => first | assumption | decide +kernel))
    | ((with_reducible refine Kx.p_mulL ?zh ?zq); (case zh => first | assumption | decide +kernel))
    | ((with_reducible refine Kx.p_powS ?zh ?zq); (case zh => first | assumption | decide +kernel))
    | ((with_reducible refine Kx.p_powW ?zh ?zq); (case zh => first | assumption | decide +kernel))
    | ((with_reducible refine Kx.p_fdvS ?zh ?zq); (case zh => first | assumption | decide +kernel))
    | with_reducible refine Kx.z_par ?_
    | with_reducible refine Kx.p_par ?_
    | with_reducible refine Kx.z_par3 ?_
    | with_reducible refine Kx.p_par3 ?_
    | ((with_reducible refine Kx.z_gl3 (x := ?zx) (y := ?zy) (z := ?zz) ?zh ?zq); (case zh => row_cond hp))
    | ((with_reducible refine Kx.z_gtG2 (x := ?zx) (y := ?zy) ?zh ?zq); (case zh => row_cond hp))
    | with_reducible refine Kx.z_cm ?_
    | with_reducible refine Kx.p_cm ?_
    | with_reducible refine Kx.z_prs ?_
    | with_reducible refine Kx.z_prn ?_
    | dsimp only)
local macro_rules
  | `(tactic| row_cond zz) => `(tactic| repeat (row_cond zs))

section
variable {P : Program} {w : World} {K : PySem.W.Frag} {mg : Str → Option Value} {base : Heap}
def spMade (K : PySem.W.Frag) : Sp := fun vs H Q _ => ∃ (a : Addr) (p : Prg), vs = [.ref a] ∧ PlainAt H a p ∧ PrgOk p ∧ ∀ H' g, Same H H' → PgAt K H' g p → Q (.ref g) H'
theorem sc__law_made_of : FnScope ["_law_plain", "_law_some", "_law_band"] ["_law_plain"] (defScope (top 59)) := ⟨rfl, rfl, rfl, by decide +kernel, rfl, by decide +kernel, by decide +kernel⟩
theorem c__law_made_of (T : Txt K mg) : Cal P w K mg base 9 "_law_made_of" (spMade K) := by
  refine cal_of T 28 rfl sc__law_made_of (fun _ _ _ _ _ _ us hl => match us, hl with | [_], _ => rfl) (fun vs H Q E h => ?_) (fun f cdv A outer s H vs Q E hr h => ?_)
  · obtain ⟨d, p, rfl, _⟩ := h
    rfl
  · obtain ⟨a, p, rfl, ⟨st, rw_, xs, ha, hst, hrw, hrows⟩, okp, hq⟩ := h
    have hxl := hrows.len
    have hpl := okp.len
    refine ⟨_, (pss_cons (ps_setLc (i := 1) rfl sc__law_made_of.nd rfl rfl (sw_true rfl rfl rfl rfl) (k_lst (K := K) rfl (k_ix (K := K) rfl (pv 0) pe_int (fun _ _ => rfl))) (blkOk_by (own := [(("_law_band" : Str), 2)]) (by kernel_rfl)) (fun _ _ _ _ _ => (pg_name (i := 2) sc__law_made_of.nd rfl (.inl rfl) (.inr rfl))) (fun _ _ _ _ _ => pts_nil) (fun _ _ _ _ _ => (ClX.pe_cmeth (C8.pe_gc rfl (v := .ref (aP K)) ⟨_, T.cP.g, rfl⟩) T.cP.rd T.cP.cm (f_Procedure_of T) (hr.mono (by decide)) pass0 (pa_cons (k_ix (K := K) rfl (pv 2) pe_int (fun _ _ => rfl)) (pa_cons (k_ix (K := K) rfl (pv 2) pe_int (fun _ _ => rfl)) (pa_cons (k_ix (K := K) rfl (pv 2) pe_int (fun _ _ => rfl)) pa_nil))))))
      (pss_one (ps_ret (ClX.pe_cmeth (C8.pe_gc rfl (v := .ref (aG K)) ⟨_, T.cG.g, rfl⟩) T.cG.rd T.cG.cm (f_Program_of T) (hr.mono (by decide)) pass0 (pa_cons (k_ix (K := K) rfl (pv 0) pe_int (fun _ _ => rfl)) (pa_cons (k_ix (K := K) rfl (pv 0) pe_int (fun _ _ => rfl)) (pa_cons (pe_callTy (k_ctup (K := K) rfl) rfl (T.b "tuple") boot_tuple (pa_cons (pv 1) pa_nil)) pa_nil))))))), ?_⟩
    row_cond zz
    refine p_lcL Same (fun i acc H => ∃ as : List Addr, acc = as.map V.ref ∧ as.length = i ∧ ∀ (j : Nat) b r, as[j]? = some b → p.procs[j]? = some r → ProcAt K H b r) (fun i acc H H' nk h => ?_) okS hrw (fun H' s => Kx.Same.get s hrw) (by omega) ⟨[], rfl, rfl, fun j b r h => by cases h⟩ (fun i x acc H1 hx hi s1 R1 => ?_) (fun D H1 ys hD s1 e1 R1 => ?_)
    · obtain ⟨as, h1, h2, h3⟩ := h
      exact ⟨as, h1, h2, fun j b r e1 e2 => (h3 j b r e1 e2).nk nk⟩
    · intro D Nx put skip
      obtain ⟨as, rfl, hal, has⟩ := R1
      obtain ⟨r, hr2⟩ : ∃ r, p.procs[i]? = some r := ⟨_, List.getElem?_eq_getElem (by omega)⟩
      obtain ⟨b, mv, rfl, _, hb, tmv⟩ := hrows.at_ i x r hx hr2
      have hb1 := Kx.Same.get s1 hb
      have hmem := List.mem_of_getElem? hr2
      row_cond zz
      refine ⟨r.1, r.2.1, mv, r.2.2, p.total, p.names, rfl, tmv.sm s1, okp.prs r hmem, okp.nms _ (List.mem_map.mpr ⟨r, hmem, rfl⟩), okp.tot.2, okp.nms, fun H2 c s2 hc => ?_⟩
      refine put _ _ s2 ⟨as ++ [c], by rw [List.map_append]; rfl, by rw [List.length_append, hal]; rfl, fun j b r' e1 e2 => ?_⟩
      by_cases hj : j < as.length
      · rw [List.getElem?_append_left hj] at e1
        exact (has j b r' e1 e2).sm s2
      · rw [List.getElem?_append_right (by omega)] at e1
        have : j - as.length = 0 := by
          have := (List.getElem?_eq_some_iff.mp e1).1
          rw [List.length_singleton] at this
          omega
        have hji : j = i := by omega
        subst hji
        rw [this] at e1
        cases e1
        rw [hr2] at e2
        cases e2
        exact hc
    · obtain ⟨as, rfl, hal, has⟩ := R1
      have ha1 := Kx.Same.get s1 ha
      row_cond zz
      refine p_tupL e1 fun t H2 ht s2 e2 => ?_
      row_cond zz
      refine ⟨st, t, as, p, rfl, okp, .tup (Kx.Same.get (s1.trans s2) hst) (TDs.ints _), e2, ⟨by omega, fun j b r e3 e4 => (has j b r e3 e4).sm s2⟩, fun H3 g s3 hg => ?_⟩
      exact hq H3 g (s1.trans (s2.trans s3)) hg
/-! ### _law_coded -/
def spCoded : Sp := fun vs H Q _ => ∃ (a : Addr) (p : Prg), vs = [.ref a] ∧ PlainAt H a p ∧ PrgOk p ∧ ∀ H' c, Same H H' → CodeAt H' c p → Q (.ref c) H'
theorem sc__law_coded : FnScope ["_law_plain", "_law_code", "_law_name", "_law_points", "_law_moves"] ["_law_plain"] (defScope (top 60)) := ⟨rfl, rfl, rfl, by decide +kernel, rfl, by decide +kernel, by decide +kernel⟩
theorem c__law_coded (T : Txt K mg) : Cal P w K mg base 1 "_law_coded" spCoded := by
  refine cal_of T 29 rfl sc__law_coded (fun _ _ _ _ _ _ us hl => match us, hl with | [_], _ => rfl) (fun vs H Q E h => ?_) (fun f cdv A outer s H vs Q E hr h => ?_)
  · obtain ⟨d, p, rfl, _⟩ := h
    rfl
  · obtain ⟨a, p, rfl, ⟨st, rw_, xs, ha, hst, hrw, hrows⟩, okp, hq⟩ := h
    have hxl := hrows.len
    have hpl := okp.len
    refine ⟨_, (pss_cons (ps_set (i := 1) sc__law_coded.nd rfl (.inl rfl) (pe_disp (pps_cons pe_str (k_ix (K := K) rfl (pv 0) pe_int (fun _ _ => rfl)) (pps_cons pe_str (k_ix (K := K) rfl (pv 0) pe_int (fun _ _ => rfl)) (pps_cons pe_str (k_ix (K := K) rfl (k_ix (K := K) rfl (k_ix (K := K) rfl (pv 0) pe_int (fun _ _ => rfl)) pe_int (fun _ _ => rfl)) pe_int (fun _ _ => rfl)) pps_nil))) rfl rfl (by intro z; cases z) (by decide)))
      (pss_cons (ps_asg (pe_tup (pa_cons pe_dnewK (pa_cons pe_dnewK pa_nil))) (k_gt (K := K) (n := 2) rfl rfl (pgs_cons (pg_sub (pv 1) pe_str (set_dict (u1 hr))) (pgs_cons (pg_sub (pv 1) pe_str (set_dict (u1 hr))) pgs_nil))))
      (pss_cons (ps_for PassesOwn.never rfl (k_lst (K := K) rfl (k_ix (K := K) rfl (pv 0) pe_int (fun _ _ => rfl))) (k_gl (K := K) (n := 3) rfl rfl (pgs_cons (pg_name (i := 2) sc__law_coded.nd rfl (.inl rfl) (.inr rfl)) (pgs_cons (pg_name (i := 3) sc__law_coded.nd rfl (.inl rfl) (.inr rfl)) (pgs_cons (pg_name (i := 4) sc__law_coded.nd rfl (.inl rfl) (.inr rfl)) pgs_nil)))) (pss_one (ps_asg (pe_tup (pa_cons (pv 4) (pa_cons (pv 3) pa_nil))) (k_gt (K := K) (n := 2) rfl rfl (pgs_cons (pg_sub (pe_dget (u1 hr) (pv 1) pe_str (fun _ _ => rfl)) (pv 2) (set_dict (u1 hr))) (pgs_cons (pg_sub (pe_dget (u1 hr) (pv 1) pe_str (fun _ _ => rfl)) (pv 2) (set_dict (u1 hr))) pgs_nil))))))
      (pss_one (ps_ret (pv 1)))))), ?_⟩
    obtain ⟨r0, hr0⟩ : ∃ r, p.procs[0]? = some r := ⟨_, List.getElem?_eq_getElem (List.length_pos_iff.mpr okp.ne)⟩
    obtain ⟨x0, hx0⟩ : ∃ x, xs[0]? = some x := ⟨_, List.getElem?_eq_getElem (by rw [hxl]; exact List.length_pos_iff.mpr okp.ne)⟩
    obtain ⟨b0, mv0, rfl, _, hb0, _⟩ := hrows.at_ 0 x0 r0 hx0 hr0
    have hmain : p.main = r0.1 := by
      unfold Prg.main
      cases hpp : p.procs with
      | nil => exact absurd hpp okp.ne
      | cons q qs =>
        rw [hpp] at hr0
        cases hr0
        rfl
    row_cond zz
    intro c hc
    have s1 : Same H (upd H c (.dK [])) := same_new hc
    have e1 : upd H c (.dK []) c = some (.dK []) := upd_same
    generalize hH1 : upd H c (.dK []) = H1 at s1 e1 ⊢
    row_cond zz
    refine p_xL (Kx.Same.get s1 hrw) (atI_nat (j := 0) hx0) ?_
    row_cond zz
    refine ⟨e1, [(.inr "total", .int p.total), (.inr "starts", .ref st), (.inr "main", .str r0.1)], rfl, by simp, ?_⟩
    have hcs : valV (mergeK [] [(Sum.inr "total", V.int p.total), (Sum.inr "starts", .ref st), (Sum.inr "main", .str r0.1)]) (Sum.inr ("starts" : Str)) = some (.ref st) := rfl
    have hcm : valV (mergeK [] [(Sum.inr "total", V.int p.total), (Sum.inr "starts", .ref st), (Sum.inr "main", .str r0.1)]) (Sum.inr ("main" : Str)) = some (.str r0.1) := rfl
    have hcl : (mergeK [] [(Sum.inr ("total" : Str), V.int p.total), (Sum.inr "starts", .ref st), (Sum.inr "main", .str r0.1)]).length ≤ 3 := length_mergeK _ _
    generalize mergeK [] [(Sum.inr ("total" : Str), V.int p.total), (Sum.inr "starts", .ref st), (Sum.inr "main", .str r0.1)] = kv0 at hcs hcm hcl ⊢
    have s2 : Same H (upd H1 c (.dK kv0)) := fun b o e => by
      rw [upd_ne (ne_of_none e hc)]
      exact s1 b o e
    have e2 : upd H1 c (.dK kv0) c = some (.dK kv0) := upd_same
    generalize hH2 : upd H1 c (.dK kv0) = H2 at s2 e2 ⊢
    row_cond zz
    refine p_dnew fun md H3 hmd s3 e3 => ?_
    row_cond zz
    refine p_dnew fun pd H4 hpd s4 e4 => ?_
    row_cond zz
    refine p_tup (Nat.le_of_ble_eq_true rfl) fun q H5 hq5 s5 e5 => ?_
    have hmc : md ≠ c := fun z => by
      rw [z, e2] at hmd
      cases hmd
    have hpc : pd ≠ c := fun z => by
      rw [z, Kx.Same.get s3 e2] at hpd
      cases hpd
    have hpm : pd ≠ md := fun z => by
      rw [z, e3] at hpd
      cases hpd
    have hmd0 : H md = none := Same.free s2 hmd
    have hpd0 : H pd = none := Same.free (s2.trans s3) hpd
    row_cond zz
    refine p_setD (Kx.Same.get (s3.trans (s4.trans s5)) e2) (by omega) ?_
    row_cond zz
    refine p_setD upd_same (by have := length_putK kv0 (Sum.inr ("moves" : Str)) (V.ref md); omega) ?_
    rw [upd_upd]
    have h2s : valV (putK (putK kv0 (Sum.inr ("moves" : Str)) (.ref md)) (Sum.inr ("points" : Str)) (.ref pd)) (Sum.inr ("starts" : Str)) = some (.ref st) := by
      rw [valV_put, if_neg (by decide +kernel), valV_put, if_neg (by decide +kernel)]
      exact hcs
    have h2n : valV (putK (putK kv0 (Sum.inr ("moves" : Str)) (.ref md)) (Sum.inr ("points" : Str)) (.ref pd)) (Sum.inr ("main" : Str)) = some (.str r0.1) := by
      rw [valV_put, if_neg (by decide +kernel), valV_put, if_neg (by decide +kernel)]
      exact hcm
    have h2m : valV (putK (putK kv0 (Sum.inr ("moves" : Str)) (.ref md)) (Sum.inr ("points" : Str)) (.ref pd)) (Sum.inr ("moves" : Str)) = some (.ref md) := by
      rw [valV_put, if_neg (by decide +kernel), valV_put, if_pos rfl]
    have h2p : valV (putK (putK kv0 (Sum.inr ("moves" : Str)) (.ref md)) (Sum.inr ("points" : Str)) (.ref pd)) (Sum.inr ("points" : Str)) = some (.ref pd) := by
      rw [valV_put, if_pos rfl]
    generalize putK (putK kv0 (Sum.inr ("moves" : Str)) (.ref md)) (Sum.inr ("points" : Str)) (.ref pd) = kv2 at h2s h2n h2m h2p ⊢
    have s6 : Same H (upd H5 c (.dK kv2)) := fun b o e => by
      rw [upd_ne (ne_of_none e hc)]
      exact (s3.trans (s4.trans s5)) b o (s2 b o e)
    have e6 : upd H5 c (.dK kv2) c = some (.dK kv2) := upd_same
    have em6 : upd H5 c (.dK kv2) md = some (.dK []) := by
      rw [upd_ne hmc]
      exact Kx.Same.get (s4.trans s5) e3
    have ep6 : upd H5 c (.dK kv2) pd = some (.dK []) := by
      rw [upd_ne hpc]
      exact Kx.Same.get s5 e4
    generalize hH6 : upd H5 c (.dK kv2) = H6 at s6 e6 em6 ep6 ⊢
    row_cond zz
    refine p_forL (fun i σ H' => ∃ (v2 v3 v4 : Option V) (kvm kvp : List (Key × V)), σ = [some (.ref a), some (.ref c), v2, v3, v4] ∧ Same H H' ∧ H' c = some (.dK kv2) ∧ H' md = some (.dK kvm) ∧ H' pd = some (.dK kvp) ∧ kvm.length ≤ i ∧ kvp.length ≤ i ∧ ∀ (j : Nat) r, j < i → p.procs[j]? = some r → ∃ v, valV kvm (.inr r.1) = some (.ref v) ∧ TD H (.ref v) (eMvs r.2.2)) (Kx.Same.get s6 hrw)
      ⟨none, none, none, [], [], rfl, s6, e6, em6, ep6, Nat.le_refl _, Nat.le_refl _, fun j r h => absurd h (Nat.not_lt_zero _)⟩ (fun i σ H7 hp => ?_) (fun i x σ H7 hx hi hp => ?_) (fun σ H7 hp => ?_)
    · obtain ⟨v2, v3, v4, kvm, kvp, _, s7, _⟩ := hp
      exact Kx.Same.get s7 hrw
    · obtain ⟨v2, v3, v4, kvm, kvp, rfl, s7, e7, em7, ep7, lm, lp, hv⟩ := hp
      obtain ⟨r, hr2⟩ : ∃ r, p.procs[i]? = some r := ⟨_, List.getElem?_eq_getElem (by omega)⟩
      obtain ⟨b, mv, rfl, _, hb, tmv⟩ := hrows.at_ i x r hx hr2
      have hb7 := Kx.Same.get s7 hb
      row_cond zz
      refine p_tup (Nat.le_of_ble_eq_true rfl) fun q H8 hq8 s8 e8 => ?_
      row_cond zz
      refine p_setD (Kx.Same.get s8 em7) (by omega) ?_
      have e9 : upd H8 md (.dK (putK kvm (.inr r.1) (.ref mv))) c = some (.dK kv2) := by
        rw [upd_ne hmc.symm]
        exact Kx.Same.get s8 e7
      have ep9 : upd H8 md (.dK (putK kvm (.inr r.1) (.ref mv))) pd = some (.dK kvp) := by
        rw [upd_ne hpm]
        exact Kx.Same.get s8 ep7
      row_cond zz
      refine p_setD ep9 (by omega) ?_
      refine ⟨_, _, _, putK kvm (.inr r.1) (.ref mv), _, rfl, fun b o e => ?_, ?_, ?_, upd_same, Nat.le_trans (length_putK _ _ _) (Nat.add_le_add_right lm 1), Nat.le_trans (length_putK _ _ _) (Nat.add_le_add_right lp 1), fun j r' hj hr' => ?_⟩
      · rw [upd_ne (ne_of_none e hpd0), upd_ne (ne_of_none e hmd0)]
        exact s8 _ _ (s7 _ _ e)
      · rw [upd_ne hpc.symm]
        exact e9
      · rw [upd_ne hpm.symm, upd_same]
      · rw [valV_put]
        by_cases hji : j = i
        · subst hji
          rw [hr2] at hr'
          cases hr'
          rw [if_pos rfl]
          exact ⟨mv, rfl, tmv⟩
        · rw [if_neg fun z => hji (names_inj okp hr' hr2 (by injection z))]
          exact hv j r' (by omega) hr'
    · obtain ⟨v2, v3, v4, kvm, kvp, rfl, s7, e7, em7, ep7, lm, lp, hv⟩ := hp
      row_cond zz
      refine hq H7 c s7 ⟨kv2, md, st, kvm, e7, h2s, Kx.Same.get s7 hst, by rw [hmain]; exact h2n, h2m, em7, fun n pts l hl => ?_⟩
      obtain ⟨j, hj⟩ := lookup_at hl
      obtain ⟨v, q1, q2⟩ := hv j _ (by rw [hxl]; exact (List.getElem?_eq_some_iff.mp hj).1) hj
      exact ⟨v, q1, q2.sm s7⟩
end
end Kx

/- part K21 -/
/-! # K21: the law's own runs: fallen, by_move -/
namespace Kx
open PySem PySem.Spec PyProof.Rows L2
def rCatE (K : PySem.W.Frag) : R2 := fun x y H Q => ∃ a b ys, x = .ref a ∧ y = .ref b ∧ SqT K H a [] ∧ SqT K H b ys ∧ Q (.ref b) H
theorem op_catE {X : Cx} : OpR X (binaryOp .Add) (rCatE X.K) := by
  intro pins s σ H x y v u Q I rx ry h
  obtain ⟨a, b, ys, rfl, rfl, ha, hb, q⟩ := h
  cases rx
  cases ry
  obtain ⟨its, r1, p1, _⟩ := I.tuple ha
  obtain ⟨its2, r2, p2, _⟩ := I.tuple hb
  cases r1
  obtain ⟨⟨cls, dd, data, sl⟩, ho, hc, n, hd⟩ := id p1
  obtain ⟨⟨cls2, dd2, data2, sl2⟩, ho2, hc2, n2, hd2⟩ := id p2
  simp only at hc hd hc2 hd2
  subst hc hd hc2 hd2
  exact concat_meets ⟨_, ho, rfl⟩ ⟨_, ho2, rfl⟩ noFill_tuple_add seq_tuple_add PySem.F.slot_tuple_add PySem.F.entry_tuple_add (PySem.F.args_tuple_add_2 _ _)
    (tuple_addW0 a b _ its2.toArray n n2 dd dd2 sl sl2 (by rfl)) ⟨ho, ho2, ⟨.ref b, H, I, rfl, q⟩⟩
def rCatA (K : PySem.W.Frag) : R2 := fun x y H Q => rCatT K x y H Q ∨ rCatE K x y H Q
theorem k_catT {X : Cx} {K : PySem.W.Frag} (h : X.K = K) : OpR X (binaryOp .Add) (rCatA K) := h ▸ (OpR.or op_catT op_catE)
theorem p_cat {K : PySem.W.Frag} {H : Hp} {Q : VK} {a b : Addr} {xs : List V} {z : V} (ha : H a = some (.tup xs)) (hb : H b = some (.tup [z])) (hl : xs.length ≤ 1000) (q : ∀ r H2, Same H H2 → H2 r = some (.tup (xs ++ [z])) → Q (.ref r) H2) : rCatA K (.ref a) (.ref b) H Q := by
  cases xs with
  | nil => exact .inr ⟨a, b, _, rfl, rfl, .inl (.inl ha), .inl (.inl hb), q b H (Same.refl _) hb⟩
  | cons x xs =>
    refine .inl ⟨a, b, _, _, rfl, rfl, .inl (.inl ha), .inl (.inl hb), by simp, Nat.le_trans (Nat.add_le_add_right hl 1) (by decide), fun z => (by cases z), fun _ p hp => q p _ (same_new hp) upd_same⟩
theorem CodeAt.moves {H : Hp} {c : Addr} {p : Prg} {n : Str} (h : CodeAt H c p) (hn : n ∈ p.names) : ∃ kvs md kvm v xs, H c = some (.dK kvs) ∧ valV kvs (.inr ("moves" : Str)) = some (.ref md) ∧ H md = some (.dK kvm) ∧ valV kvm (.inr n) = some (.ref v) ∧ H v = some (.tup xs) ∧ TDs H xs ((p.mvs n).map eMv) := by
  obtain ⟨kvs, md, st, kvm, h1, h2, h3, h4, h5, h6, h7⟩ := h
  obtain ⟨pts, l, e, _⟩ := lookup_name hn
  obtain ⟨v, q1, q2⟩ := h7 n pts l e
  obtain ⟨xs, hv, ts⟩ := TD.tupR q2
  rw [mvs_of e]
  exact ⟨kvs, md, kvm, v, xs, h1, h5, h6, q1, hv, ts⟩
theorem CodeAt.sm {H H' : Hp} {c : Addr} {p : Prg} (s : Same H H') (h : CodeAt H c p) : CodeAt H' c p := h.nk (Kx.Same.nk s)
theorem d_gg : decide (("go" : Str) = "go") = true := by decide +kernel
theorem d_cg : decide (("call" : Str) = "go") = false := by decide +kernel
theorem d_lg : decide (("leave" : Str) = "go") = false := by decide +kernel
theorem d_fg : decide (("fail" : Str) = "go") = false := by decide +kernel
theorem d_cc : decide (("call" : Str) = "call") = true := by decide +kernel
theorem d_lc : decide (("leave" : Str) = "call") = false := by decide +kernel
theorem d_fc : decide (("fail" : Str) = "call") = false := by decide +kernel
theorem d_ff : decide (("fail" : Str) = "fail") = true := by decide +kernel
theorem d_lf : decide (("leave" : Str) = "fail") = false := by decide +kernel
local macro_rules
  | `(tactic| row_cond hp) => `(tactic| first
    | assumption
    | exact upd_same
    | (refine Kx.Same.get (by assumption) ?_; row_cond hp)
    | (refine Kx.SB.get (by assumption) (by assumption) ?_ rfl; row_cond hp)
    | (refine Kx.SB.getL (by assumption) (by assumption) ?_; row_cond hp))
local macro_rules
  | `(tactic| row_cond zs) => `(tactic| first
    | ((with_reducible refine Kx.z_var (v := ?zval) ?zv ?zq); (case zv => rfl))
    | with_reducible refine Kx.z_c ?_
    | with_reducible refine Kx.z_cons ?_
    | with_reducible refine Kx.z_nil ?_
    | with_reducible refine Kx.z_op ?_
    | with_reducible refine Kx.z_cB ?_
    | with_reducible refine Kx.z_call ?_
    | with_reducible refine Kx.z_fld ?_
    | with_reducible refine Kx.z_tup ?_
    | with_reducible refine Kx.z_lst ?_
    | with_reducible refine Kx.z_test ?_
    | with_reducible refine Kx.z_tB ?_
    | with_reducible refine Kx.p_bl ?_
    | with_reducible refine Kx.z_iteT ?_
    | with_reducible refine Kx.z_iteF ?_
    | with_reducible refine Kx.z_seq ?_
    | with_reducible refine Kx.z_ret ?_
    | with_reducible refine Kx.z_set ?_
    | with_reducible refine Kx.z_drop ?_
    | with_reducible refine Kx.z_if ?_
    | with_reducible refine Kx.z_next ?_
    | with_reducible refine Kx.z_and ?_
    | with_reducible refine Kx.z_or ?_
    | with_reducible refine Kx.z_not ?_
    | with_reducible refine Kx.z_andV ?_
    | with_reducible refine Kx.z_orV ?_
    | with_reducible refine Kx.z_notV ?_
    | with_reducible refine Kx.z_ifE ?_
    | with_reducible refine Kx.z_chain ?_
    | with_reducible refine Kx.z_dget ?_
    | with_reducible refine Kx.z_un ?_
    | with_reducible refine Kx.z_asg ?_
    | with_reducible refine Kx.z_retN ?_
    | with_reducible refine Kx.z_iteNT ?_
    | with_reducible refine Kx.z_iteNF ?_
    | with_reducible refine Kx.p_add ?_
    | with_reducible refine Kx.p_sub ?_
    | with_reducible refine Kx.p_lt ?_
    | with_reducible refine Kx.p_le ?_
    | with_reducible refine Kx.p_gt ?_
    | with_reducible refine Kx.p_ge ?_
    | with_reducible refine Kx.p_neg ?_
    | with_reducible refine Kx.p_eqI ?_
    | with_reducible refine Kx.p_eqS ?_
    | with_reducible refine Kx.p_neI ?_
    | with_reducible refine Kx.p_eqNN ?_
    | with_reducible refine Kx.p_isN ?_
    | with_reducible refine Kx.p_isNi ?_
    | with_reducible refine Kx.p_isNr ?_
    | with_reducible refine Kx.p_notN ?_
    | with_reducible refine Kx.p_notNi ?_
    | with_reducible refine Kx.p_notNr ?_
    | with_reducible refine Kx.p_intI ?_
    | with_reducible refine Kx.p_intB ?_
    | with_reducible refine Kx.p_abs ?_
    | with_reducible refine Kx.p_mx2 ?_
    | with_reducible refine Kx.p_mn2 ?_
    | ((with_reducible refine Kx.p_ixT (xs := ?zxs) (v := ?zval) ?zh ?ze ?zq); (case zh => row_cond hp); (case ze => rfl))
    | ((with_reducible refine Kx.p_ixL (xs := ?zxs) (v := ?zval) ?zh ?ze ?zq); (case zh => row_cond hp); (case ze => rfl))
    | ((with_reducible refine Kx.p_lenT (xs := ?zxs) ?zh ?zq); (case zh => row_cond hp))
    | ((with_reducible refine Kx.p_lenL (xs := ?zxs) ?zh ?zq); (case zh => row_cond hp))
    | ((with_reducible refine Kx.p_xT (xs := ?zxs) (v := ?zval) ?zh ?ze ?zq); (case zh => row_cond hp); (case ze => rfl))
    | ((with_reducible refine Kx.p_xL (xs := ?zxs) (v := ?zval) ?zh ?ze ?zq); (case zh => row_cond hp); (case ze => rfl))
    | with_reducible refine Kx.p_qI ?_
    | with_reducible refine Kx.p_qS ?_
    | with_reducible refine Kx.p_qNI ?_
    | with_reducible refine Kx.p_ltI ?_
    | with_reducible refine Kx.q_int_int ?_
    | with_reducible refine Kx.q_int_bool ?_
    | with_reducible refine Kx.q_int_str ?_
    | with_reducible refine Kx.q_int_tuple ?_
    | with_reducible refine Kx.q_bool_int ?_
    | with_reducible refine Kx.q_bool_bool ?_
    | with_reducible refine Kx.q_bool_str ?_
    | with_reducible refine Kx.q_bool_tuple ?_
    | with_reducible refine Kx.q_str_int ?_
    | with_reducible refine Kx.q_str_bool ?_
    | with_reducible refine Kx.q_str_str ?_
    | with_reducible refine Kx.q_str_tuple ?_
    | with_reducible refine Kx.q_NoneType_int ?_
    | with_reducible refine Kx.q_NoneType_bool ?_
    | with_reducible refine Kx.q_NoneType_str ?_
    | with_reducible refine Kx.q_NoneType_tuple ?_
    | ((with_reducible refine Kx.q_tuple_int (xs := ?zxs) ?zh ?zq); (case zh => row_cond hp))
    | ((with_reducible refine Kx.q_tuple_bool (xs := ?zxs) ?zh ?zq); (case zh => row_cond hp))
    | ((with_reducible refine Kx.q_tuple_str (xs := ?zxs) ?zh ?zq); (case zh => row_cond hp))
    | ((with_reducible refine Kx.q_tuple_tuple (xs := ?zxs) ?zh ?zq); (case zh => row_cond hp))
    | ((with_reducible refine Kx.q_list_int (xs := ?zxs) ?zh ?zq); (case zh => row_cond hp))
    | ((with_reducible refine Kx.q_list_bool (xs := ?zxs) ?zh ?zq); (case zh => row_cond hp))
    | ((with_reducible refine Kx.q_list_str (xs := ?zxs) ?zh ?zq); (case zh => row_cond hp))
    | ((with_reducible refine Kx.q_list_tuple (xs := ?zxs) ?zh ?zq); (case zh => row_cond hp))
    | ((with_reducible refine Kx.q_dict_int (kvs := ?zxs) ?zh ?zq); (case zh => row_cond hp))
    | ((with_reducible refine Kx.q_dict_bool (kvs := ?zxs) ?zh ?zq); (case zh => row_cond hp))
    | ((with_reducible refine Kx.q_dict_str (kvs := ?zxs) ?zh ?zq); (case zh => row_cond hp))
    | ((with_reducible refine Kx.q_dict_tuple (kvs := ?zxs) ?zh ?zq); (case zh => row_cond hp))
    | with_reducible refine Kx.z_gn ?_
    | ((with_reducible refine Kx.z_gt2 (x := ?zx) (y := ?zy) ?zh ?zq); (case zh => row_cond hp))
    | ((with_reducible refine Kx.z_gt3 (x := ?zx) (y := ?zy) (z := ?zz) ?zh ?zq); (case zh => row_cond hp))
    | with_reducible refine Kx.z_lcT ?_
    | with_reducible refine Kx.z_lcL ?_
    | with_reducible refine Kx.z_lcS ?_
    | with_reducible refine Kx.z_lcR ?_
    | with_reducible refine Kx.z_lcZ ?_
    | with_reducible refine Kx.z_yes ?_
    | ((with_reducible refine Kx.z_wip ?zh ?zq); (case zh => rfl))
    | ((with_reducible refine Kx.z_LK ?zh ?zq); (case zh => rfl))
    | with_reducible refine Kx.z_lc2T ?_
    | with_reducible refine Kx.z_lc2L ?_
    | with_reducible refine Kx.z_inT ?_
    | with_reducible refine Kx.z_inL ?_
    | ((with_reducible refine Kx.z_LK2 ?zh ?zq); (case zh => rfl))
    | with_reducible refine Kx.z_sl ?_
    | with_reducible refine Kx.z_nop ?_
    | with_reducible refine Kx.z_part ?_
    | with_reducible refine Kx.z_exi ?_
    | with_reducible refine Kx.p_isNb ?_
    | with_reducible refine Kx.p_isNs ?_
    | with_reducible refine Kx.z_match ?_
    | ((with_reducible refine Kx.z_caseT (y := ?zy) (xs := ?zxs) ?zh ?zl ?zf ?zq); (case zh => row_cond hp); (case zl => rfl); (case zf => rfl))
    | ((with_reducible refine Kx.z_caseL (y := ?zy) (xs := ?zxs) ?zh ?zl ?zq); (case zh => row_cond hp); (case zl => (intro z; cases z)))
    | ((with_reducible refine Kx.z_caseF (y := ?zy) (xs := ?zxs) ?zh ?zf ?zq); (case zh => row_cond hp); (case zf => rfl))
    | with_reducible refine Kx.z_mnil ?_
    | with_reducible refine Kx.z_lcE ?_
    | with_reducible refine Kx.z_forT ?_
    | with_reducible refine Kx.z_forL ?_
    | with_reducible refine Kx.z_forR ?_
    | with_reducible refine Kx.z_forC ?_
    | ((with_reducible refine Kx.p_fP (dx := ?zd) (fs := ?zfs) (v := ?zv) (by assumption) ?zh ?zl ?zf ?zq); (case zh => row_cond hp); (case zl => assumption); (case zf => decide +kernel))
    | ((with_reducible refine Kx.p_fG (dx := ?zd) (fs := ?zfs) (v := ?zv) (by assumption) ?zh ?zl ?zf ?zq); (case zh => row_cond hp); (case zl => assumption); (case zf => decide +kernel))
    | ((with_reducible refine Kx.p_fR (dx := ?zd) (fs := ?zfs) (v := ?zv) (by assumption) ?zh ?zl ?zf ?zq); (case zh => row_cond hp); (case zl => assumption); (case zf => decide +kernel))
    | ((with_reducible refine Kx.p_dgetS (kvs := ?zk) (v := ?zv) ?zh ?ze ?zq); (case zh => row_cond hp); (case ze => assumption))
    | with_reducible refine Kx.z_star ?_
    | ((with_reducible refine Kx.p_star (xs := ?zxs) ?zh ?zq); (case zh => row_cond hp))
    | with_reducible refine Kx.z_bm ?_
    | with_reducible refine Kx.p_ip ?_
    | with_reducible refine Kx.z_lss ?_
    | with_reducible refine Kx.z_dcT ?_
    | with_reducible refine Kx.z_sf ?_
    | with_reducible refine Kx.z_dnew ?_
    | with_reducible refine Kx.z_mk ?_
    | with_reducible refine Kx.z_callS ?_
    | with_reducible refine Kx.z_gsub ?_
    | ((with_reducible refine Kx.p_setL (xs := ?zxs) (k := ?zk) ?zh ?ze ?zq); (case zh => row_cond hp); (case ze => rfl))
    | ((with_reducible refine Kx.p_modP ?zh ?zq); (case zh => first | assumption | decide +kernel))
    | ((with_reducible refine Kx.p_mulR ?zh ?zq); (case zh => first | assumption | decide +kernel))
    | ((with_reducible refine Kx.p_mulL ?zh ?zq); (case zh => first | assumption | decide +kernel))
    | ((with_reducible refine Kx.p_powS ?zh ?zq); (case zh => first | assumption | decide +kernel))
    | ((with_reducible refine Kx.p_powW ?zh ?zq); (case zh => first | assumption | decide +kernel))
    | ((with_reducible refine Kx.p_fdvS ?zh ?zq); (case zh => first | assumption | decide +kernel))
    | with_reducible refine Kx.z_par ?_
    | with_reducible refine Kx.p_par ?_
    | with_reducible refine Kx.z_par3 ?_
    | with_reducible refine Kx.p_par3 ?_
    | ((with_reducible refine Kx.z_gl3 (x := ?zx) (y := ?zy) (z := ?zz) ?zh ?zq); (case zh => row_cond hp))
    | ((with_reducible refine Kx.z_gtG2 (x := ?zx) (y := ?zy) ?zh ?zq); (case zh => row_cond hp))
    | with_reducible refine Kx.z_cm ?_
    | with_reducible refine Kx.p_cm ?_
    | with_reducible refine Kx.z_prs ?_
    | with_reducible refine Kx.z_prn ?_
    | dsimp only)
local macro_rules
  | `(tactic| row_cond zz) => `(tactic| repeat (row_cond zs))

section
variable {P : Program} {w : World} {K : PySem.W.Frag} {mg : Str → Option Value} {base : Heap}
def spLFal : Sp := fun vs H Q _ => ∃ (c : Addr) (p : Prg) (m : Int) (ss : Addr) (l : List Site), vs = [.ref c, .int m, .ref ss] ∧ CodeAt H c p ∧ TD H (.ref ss) (eSites l) ∧ l.length ≤ 1000 ∧ (∀ s ∈ l, SiteOk p s) ∧ ∀ H' v, Same H H' → TD H' v (eSit (fallen p m l)) → Q v H'
theorem sc__law_fallen : FnScope ["_law_code", "_law_mode", "_law_sites", "_law_at", "_law_caught"] ["_law_code", "_law_mode", "_law_sites"] (defScope (top 61)) := ⟨rfl, rfl, rfl, by decide +kernel, rfl, by decide +kernel, by decide +kernel⟩
theorem c__law_fallen (T : Txt K mg) : Cal P w K mg base 1 "_law_fallen" spLFal := by
  refine cal_of T 30 rfl sc__law_fallen (fun _ _ _ _ _ _ us hl => match us, hl with | [_, _, _], _ => rfl) (fun vs H Q E h => ?_) (fun f cdv A outer s H vs Q E hr h => ?_)
  · obtain ⟨g, p, m, ss, l, rfl, _⟩ := h
    rfl
  · obtain ⟨g, p, m, ss, l, rfl, hg, hs, hl, hok, hq⟩ := h
    obtain ⟨xs, ha, ts⟩ := TD.tupR hs
    have hxl : xs.length = l.length := by rw [ts.length, List.length_map]
    refine ⟨_, (pss_cons (ps_for PassesOwn.never rfl (pi_range3 rfl (T.b "range") (pa_cons (pe_op o_sub (pe_callB (k_len (K := K) rfl) rfl (T.b "len") boot_len (pa_cons (pv 2) pa_nil)) pe_int) (pa_cons (pe_un o_neg pe_int) (pa_cons (pe_un o_neg pe_int) pa_nil)))) (pg_name (i := 3) sc__law_fallen.nd rfl (.inl rfl) (.inr rfl)) (pss_cons (ps_set (i := 4) sc__law_fallen.nd rfl (.inl rfl) (k_ix (K := K) rfl (k_ix (K := K) rfl (pe_dget (u1 hr) (pe_dget (u1 hr) (pv 0) pe_str (fun _ _ => rfl)) (k_ix (K := K) rfl (k_ix (K := K) rfl (pv 2) (pv 3) (fun _ _ => rfl)) pe_int (fun _ _ => rfl)) (fun _ _ => rfl)) (k_ix (K := K) rfl (k_ix (K := K) rfl (pv 2) (pv 3) (fun _ _ => rfl)) pe_int (fun _ _ => rfl)) (fun _ _ => rfl)) pe_int (fun _ _ => rfl)))
      (pss_one (ps_if (pt_cmpR o_notN (pv 4) pe_non (nomark _)) (pss_one (ps_ret (pe_tup (pa_cons (pv 1) (pa_cons (pe_slice (k_slT (K := K) rfl) (pv 2) po_none (po_some (pv 3))) (pa_cons (pe_tup (pa_cons (k_ix (K := K) rfl (k_ix (K := K) rfl (pv 2) (pv 3) (fun _ _ => rfl)) pe_int (fun _ _ => rfl)) (pa_cons (pv 4) pa_nil))) pa_nil)))))) pss_nil))))
      (pss_one (ps_ret (pe_tup (pa_cons (pv 1) (pa_cons (pe_tup pa_nil) (pa_cons pe_str pa_nil))))))), ?_⟩
    row_cond zz
    refine p_forC (fun i σ H' => ∃ a c, σ = [some (.ref g), some (.int m), some (.ref ss), a, c] ∧ Same H H' ∧ i ≤ l.length ∧ fallAt p m l (l.length - i) = fallen p m l) (by omega) (by omega) (by decide) (by decide) ⟨none, none, rfl, Same.refl _, Nat.zero_le _, rfl⟩ (fun i σ H1 hi hp => ?_) (fun σ H1 hp => ?_)
    · obtain ⟨a, c, rfl, s1, hi2, hf⟩ := hp
      have hk : i < l.length := by omega
      obtain ⟨k, hk2⟩ : ∃ k, l.length - i = k + 1 := ⟨l.length - i - 1, by omega⟩
      have hkl : k < l.length := by omega
      have e1 : ((xs.length : Nat) : Int) - 1 + (i : Nat) * (-1) = ((k : Nat) : Int) := by omega
      rw [e1]
      have hst : l[k]? = some l[k] := List.getElem?_eq_getElem hkl
      obtain ⟨hn, h0, t0, n0, ms0, c0, hmv⟩ := hok l[k] (List.getElem_mem hkl)
      obtain ⟨b, hb, hbt⟩ := sites_at ts hst
      have hbt1 := Kx.Same.get s1 hbt
      have ha1 := Kx.Same.get s1 ha
      have hfa : fallAt p m l (k + 1) = fallen p m l := by rw [← hk2]; exact hf
      unfold fallAt at hfa
      rw [getD_of hst, mv_of hmv] at hfa
      obtain ⟨kvs, md, kvm, v, zs, q1, q2, q3, q4, q5, q6⟩ := (hg.sm s1).moves hn
      obtain ⟨a1, hc1, hm1⟩ := mvs_at q6 hmv
      row_cond zz
      refine p_xT ha1 (atI_nat hb) ?_
      row_cond zz
      refine p_xT ha1 (atI_nat hb) ?_
      row_cond zz
      refine p_xT q5 (atI_nat hc1) ?_
      cases hm1 with
      | call hc1 hc2 =>
        row_cond zz
        cases c0 with
        | none =>
          dsimp only [vO]
          row_cond zz
          exact ⟨_, _, rfl, s1, by omega, by rw [show l.length - (i + 1) = k by omega]; exact hfa⟩
        | some c0 =>
          dsimp only [vO]
          row_cond zz
          refine p_slT ha1 (fun z => ?_) fun q1 H2 hq1 s2 eq1 => ?_
          · have := z.2
            rw [HT.sIx_nat] at this
            omega
          rw [cut_to] at eq1
          row_cond zz
          refine p_xT (Kx.Same.get s2 ha1) (atI_nat hb) ?_
          row_cond zz
          refine p_tup (Nat.le_of_ble_eq_true rfl) fun q2 H3 hq2 s3 eq2 => ?_
          row_cond zz
          refine p_tup (Nat.le_of_ble_eq_true rfl) fun q3 H4 hq3 s4 eq3 => ?_
          refine hq H4 _ (s1.trans (s2.trans (s3.trans s4))) ?_
          have hfa : (⟨m, l.take k, .pt l[k].1 c0⟩ : Sit) = fallen p m l := hfa
          rw [← hfa]
          refine td_sit eq3 (.tup (Kx.Same.get s4 (Kx.Same.get s3 eq1)) ?_) (td_spot (Kx.Same.get s4 eq2))
          show TDs H4 (xs.take k) ((l.take k).map eSite)
          rw [List.map_take]
          exact (TDs.sm (s1.trans (s2.trans (s3.trans s4))) ts).take k
    · obtain ⟨a, c, rfl, s1, hi2, hf⟩ := hp
      row_cond zz
      refine p_tup (Nat.le_of_ble_eq_true rfl) fun q2 H3 hq2 s3 eq2 => ?_
      row_cond zz
      refine p_tup (Nat.le_of_ble_eq_true rfl) fun q3 H4 hq3 s4 eq3 => ?_
      refine hq H4 _ (s1.trans (s3.trans s4)) ?_
      rw [← hf, show l.length - ((((xs.length : Nat) : Int) - 1) - (-1)).toNat = 0 by omega]
      exact td_sit (st := ⟨m, [], .failed⟩) eq3 (.tup (Kx.Same.get s4 eq2) .nil) (.str _)
/-! ### _law_by_move -/
def spLBy : Sp := fun vs H Q _ => ∃ (c : Addr) (p : Prg) (lim : Option Int) (sit : V) (st : Sit) (b : Addr) (n : Str) (i : Nat), vs = [.ref c, vO lim, sit, .ref b] ∧ PrgOk p ∧ CodeAt H c p ∧ TD H sit (eSit st) ∧ SitOk p st ∧ st.sites.length ≤ 900 ∧ (∃ q, st.spot = .pt n q) ∧ H b = some (.tup [.str n, .int (i : Nat)]) ∧ n ∈ p.names ∧ i < (p.mvs n).length ∧
  ∀ H' D ys, Same H H' → H D = none → H' D = some (.lst ys) → TDs H' ys ((byMove p lim st.mode st.sites (n, i)).map eSit) → Q (.ref D) H'
theorem sc__law_by_move : FnScope ["_law_code", "_law_most", "_law_situation", "_law_site", "_law_mode", "_law_sites", "_law_spot", "_law_move", "_law_inner", "_law_is_over", "_law_call", "_law_pair"] ["_law_code", "_law_most", "_law_situation", "_law_site"] (defScope (top 62)) := ⟨rfl, rfl, rfl, by decide +kernel, rfl, by decide +kernel, by decide +kernel⟩
theorem c__law_by_move (T : Txt K mg) : Cal P w K mg base 2 "_law_by_move" spLBy := by
  refine cal_of T 31 rfl sc__law_by_move (fun _ _ _ _ _ _ us hl => match us, hl with | [_, _, _, _], _ => rfl) (fun vs H Q E h => ?_) (fun f cdv A outer s H vs Q E hr h => ?_)
  · obtain ⟨g, p, lim, sit, st, b, n, i, rfl, _⟩ := h
    rfl
  · obtain ⟨g, p, lim, sit, st, b, n, i, rfl, okp, hg, tsit, oks, hl9, ⟨q, hsp⟩, hb, hn, hi, hq⟩ := h
    obtain ⟨sa, ss, sw, rfl, hsa, tss, tsw⟩ := sit_at tsit
    rw [hsp] at tsw
    obtain ⟨sp, rfl, hspt⟩ := spot_at tsw
    obtain ⟨xs, ha, ts⟩ := TD.tupR tss
    have hxl : xs.length = st.sites.length := by rw [ts.length, List.length_map]
    have hmv := idx_mv hi
    obtain ⟨kvs, md, kvm, v, zs, q1, q2, q3, q4, q5, q6⟩ := hg.moves hn
    obtain ⟨a, hc1, hm⟩ := mvs_at q6 hmv
    refine ⟨_, (pss_cons (ps_asg (pv 2) (k_gt (K := K) (n := 3) rfl rfl (pgs_cons (pg_name (i := 4) sc__law_by_move.nd rfl (.inr rfl) (.inl rfl)) (pgs_cons (pg_name (i := 5) sc__law_by_move.nd rfl (.inr rfl) (.inl rfl)) (pgs_cons (pg_name (i := 6) sc__law_by_move.nd rfl (.inr rfl) (.inl rfl)) pgs_nil)))))
      (pss_cons (ps_set (i := 7) sc__law_by_move.nd rfl (.inr rfl) (k_ix (K := K) rfl (pe_dget (u1 hr) (pe_dget (u1 hr) (pv 0) pe_str (fun _ _ => rfl)) (k_ix (K := K) rfl (pv 3) pe_int (fun _ _ => rfl)) (fun _ _ => rfl)) (k_ix (K := K) rfl (pv 3) pe_int (fun _ _ => rfl)) (fun _ _ => rfl)))
      (pss_cons (ps_if (pt_cmpR (k_eqA (K := K) rfl hr.units) (k_ix (K := K) rfl (pv 7) pe_int (fun _ _ => rfl)) pe_str (nomark _)) (pss_one (ps_ret (pe_lc rfl sc__law_by_move.nd (k_tup (K := K) rfl (k_ix (K := K) rfl (pv 7) pe_int (fun _ _ => rfl))) (blkOk_by (own := [(("_law_pair" : Str), 11)]) (by kernel_rfl)) (fun _ _ _ _ _ => (pg_name (i := 11) sc__law_by_move.nd rfl (.inl rfl) (.inr rfl))) (fun _ _ _ _ _ => (pts_one (pt_cmpR (k_eqA (K := K) rfl hr.units) (k_ix (K := K) rfl (pv 11) pe_int (fun _ _ => rfl)) (pv 4) (nomark _)))) (fun _ _ _ _ _ => (pe_tup (pa_cons (k_ix (K := K) rfl (pv 11) pe_int (fun _ _ => rfl)) (pa_cons (pv 5) (pa_cons (pe_tup (pa_cons (k_ix (K := K) rfl (pv 6) pe_int (fun _ _ => rfl)) (pa_cons (k_ix (K := K) rfl (pv 7) pe_int (fun _ _ => rfl)) pa_nil))) pa_nil)))))))) pss_nil)
      (pss_cons (ps_if (pt_cmpR (k_niA (K := K) rfl) (pv 4) (pe_ifExp (pt_cmpR (k_eqA (K := K) rfl hr.units) (k_ix (K := K) rfl (pv 7) pe_int (fun _ _ => rfl)) pe_str (nomark _)) (k_ix (K := K) rfl (pv 7) pe_int (fun _ _ => rfl)) (k_ix (K := K) rfl (pv 7) pe_int (fun _ _ => rfl))) (by with_unfolding_all rfl)) (pss_one (ps_ret (pe_lst pa_nil))) pss_nil)
      (pss_cons (ps_if (pt_cmpR (k_eqA (K := K) rfl hr.units) (k_ix (K := K) rfl (pv 7) pe_int (fun _ _ => rfl)) pe_str (nomark _)) (pss_cons (ps_set (i := 8) sc__law_by_move.nd rfl (.inl rfl) (pe_op (k_catT (K := K) rfl) (pv 5) (pe_tup (pa_cons (pv 3) pa_nil))))
      (pss_cons (ps_set (i := 9) sc__law_by_move.nd rfl (.inl rfl) (pe_and (pe_cmpR o_notN (pv 1) pe_non (nomark _)) (pe_one (pe_cmpR o_ge (pe_callB (k_len (K := K) rfl) rfl (T.b "len") boot_len (pa_cons (pv 5) pa_nil)) (pv 1) (nomark _)))))
      (pss_one (ps_ret (pe_lst (pa_cons (pe_ifExp (pt_val (pv 9)) (C8.pe_c (c__law_fallen T) hr (by decide) rfl (pa_cons (pv 0) (pa_cons (pv 4) (pa_cons (pv 8) pa_nil)))) (pe_tup (pa_cons (pv 4) (pa_cons (pv 8) (pa_cons (pe_tup (pa_cons (k_ix (K := K) rfl (pv 7) pe_int (fun _ _ => rfl)) (pa_cons pe_int pa_nil))) pa_nil))))) pa_nil)))))) pss_nil)
      (pss_cons (ps_if (pt_cmpR (k_eqA (K := K) rfl hr.units) (k_ix (K := K) rfl (pv 7) pe_int (fun _ _ => rfl)) pe_str (nomark _)) (pss_one (ps_ret (pe_lst (pa_cons (C8.pe_c (c__law_fallen T) hr (by decide) rfl (pa_cons (pv 0) (pa_cons (pv 4) (pa_cons (pv 5) pa_nil)))) pa_nil)))) pss_nil)
      (pss_cons (ps_if (pt_cmpR (k_eqA (K := K) rfl hr.units) (pv 5) (pe_tup pa_nil) (nomark _)) (pss_one (ps_ret (pe_lst (pa_cons (pe_tup (pa_cons (pv 4) (pa_cons (pe_tup pa_nil) (pa_cons pe_str pa_nil)))) pa_nil)))) pss_nil)
      (pss_cons (ps_set (i := 10) sc__law_by_move.nd rfl (.inl rfl) (k_ix (K := K) rfl (pe_dget (u1 hr) (pe_dget (u1 hr) (pv 0) pe_str (fun _ _ => rfl)) (k_ix (K := K) rfl (k_ix (K := K) rfl (pv 5) (pe_un o_neg pe_int) (fun _ _ => rfl)) pe_int (fun _ _ => rfl)) (fun _ _ => rfl)) (k_ix (K := K) rfl (k_ix (K := K) rfl (pv 5) (pe_un o_neg pe_int) (fun _ _ => rfl)) pe_int (fun _ _ => rfl)) (fun _ _ => rfl)))
      (pss_one (ps_ret (pe_lst (pa_cons (pe_tup (pa_cons (pv 4) (pa_cons (pe_slice (k_slT (K := K) rfl) (pv 5) po_none (po_some (pe_un o_neg pe_int))) (pa_cons (pe_tup (pa_cons (k_ix (K := K) rfl (k_ix (K := K) rfl (pv 5) (pe_un o_neg pe_int) (fun _ _ => rfl)) pe_int (fun _ _ => rfl)) (pa_cons (k_ix (K := K) rfl (pv 10) pe_int (fun _ _ => rfl)) pa_nil))) pa_nil)))) pa_nil)))))))))))), ?_⟩
    row_cond zz
    refine p_xT q5 (atI_nat hc1) ?_
    unfold byMove at hq
    generalize p.mv (n, i) = mv at hm hmv hq
    obtain ⟨mxs, hmx, hm0⟩ := mv_tag hm
    row_cond zz
    clear hm0 hmx mxs
    cases hm with
    | @go hh t ps b2 hm1 hm2 =>
      dsimp only at hq
      obtain ⟨zs, hz, tz⟩ := TD.tupR hm2
      have hpl : ps.length ≤ 100 := by
        obtain ⟨pts, hok2, _⟩ := mv_ok okp (s := (n, i)) hmv
        exact Nat.le_trans (pairs_len hok2.2.2 okp.tot.2) (by decide)
      have hzl : zs.length = ps.length := by rw [tz.length, List.length_map]
      row_cond zz
      rw [d_gg]
      row_cond zz
      refine p_lcT Same (fun i acc H => TDs H acc ((((ps.take i).filter fun q : Int × Int => decide (q.1 = st.mode)).map fun q : Int × Int => (⟨q.2, st.sites, .pt n t⟩ : Sit)).map eSit)) (fun i acc H H' nk h => h.nk nk) okS hz (by omega) .nil (fun i x acc H1 hx hi s1 tacc => ?_) (fun D H1 ys hD s1 e1 tacc => ?_)
      · intro D Nx put skip
        obtain ⟨pq, b3, hpq, rfl, hb3⟩ := pair_at (TDs.sm s1 tz) hx
        have htk : ps.take (i + 1) = ps.take i ++ [pq] := by
          rw [List.take_succ, hpq]
          rfl
        row_cond zz
        by_cases hmode : pq.1 = st.mode
        · refine z_iteD hmode ?_
          row_cond zz
          refine p_tup (Nat.le_of_ble_eq_true rfl) fun q2 H3 hq2 s3 eq2 => ?_
          row_cond zz
          refine p_tup (Nat.le_of_ble_eq_true rfl) fun q3 H4 hq3 s4 eq3 => ?_
          refine put _ _ (s3.trans s4) ?_
          show TDs _ _ _
          rw [htk, List.filter_append, List.map_append, List.map_append]
          refine (tacc.sm (s3.trans s4)).append ?_
          rw [show ([pq].filter fun q : Int × Int => decide (q.1 = st.mode)) = [pq] by rw [List.filter_cons_of_pos (by exact decide_eq_true hmode)]; rfl]
          exact .cons (td_sit (st := ⟨pq.2, st.sites, .pt n t⟩) eq3 (TD.sm (s1.trans (s3.trans s4)) tss) (td_spot (Kx.Same.get s4 eq2))) .nil
        · refine z_iteDF hmode ?_
          refine skip _ (Same.refl _) ?_
          show TDs _ _ _
          rw [htk, List.filter_append, show ([pq].filter fun q : Int × Int => decide (q.1 = st.mode)) = [] by rw [List.filter_cons_of_neg (by simpa using hmode)]; rfl, List.append_nil]
          exact tacc
      · refine hq _ _ _ s1 hD e1 ?_
        have tacc : TDs _ _ _ := tacc
        rw [List.take_of_length_le (by omega)] at tacc
        exact tacc
    | @call hh t nn ms cc b2 hm1 hm2 =>
      dsimp only at hq
      row_cond zz
      rw [d_cg]
      row_cond zz
      rw [d_cc]
      row_cond zz
      refine p_niT hm2 rfl (flat_ints ms) ?_
      rw [inV_ints]
      refine z_ite2' (ms.contains st.mode) (fun hin => ?_) fun hin => ?_
      · rw [if_pos hin] at hq
        rw [hin]
        row_cond zz
        rw [d_cc]
        row_cond zz
        refine p_tup (Nat.le_of_ble_eq_true rfl) fun q0 H0 hq0 s0 eq0 => ?_
        row_cond zz
        refine p_cat (Kx.Same.get s0 ha) eq0 (by omega) fun q1 H1 s1' eq1 => ?_
        have s1 := s0.trans s1'
        have tin : TD H1 (.ref q1) (eSites (st.sites ++ [(n, i)])) := by
          refine .tup eq1 ?_
          rw [List.map_append]
          exact (ts.sm s1).append (.cons (td_site (Kx.Same.get s1 hb)) .nil)
        have ha1 := Kx.Same.get s1 ha
        have key : ∀ o : Bool, over lim st.sites = o → (if o = true then
            spLFal [.ref g, .int st.mode, .ref q1] H1 (fun v H2 => pLst Q [v] H2) C8.E0
          else pTup (fun r H2 => pTup (fun v H3 => pLst Q [v] H3) [.int st.mode, .ref q1, r] H2) [.str nn, .int 0] H1) := fun o ho => by
          unfold enter at hq
          cases o with
          | true =>
            rw [if_pos ho] at hq
            rw [if_pos rfl]
            refine ⟨g, p, st.mode, q1, st.sites ++ [(n, i)], rfl, hg.sm s1, tin, by rw [List.length_append]; show _ + 1 ≤ _; omega, fun s hs => ?_, fun H2 v s2 tv => ?_⟩
            · rcases List.mem_append.mp hs with h | h
              · exact oks.sites s h
              · rw [List.mem_singleton.mp h]
                exact ⟨hn, _, _, _, _, _, hmv⟩
            · refine p_lst (Nat.le_of_ble_eq_true rfl) fun q2 H3 hq2 s3 eq2 => ?_
              exact hq _ _ _ (s1.trans (s2.trans s3)) (Same.free (s1.trans s2) hq2) eq2 (.cons (tv.sm s3) .nil)
          | false =>
            rw [if_neg (by rw [ho]; exact Bool.false_ne_true)] at hq
            rw [if_neg Bool.false_ne_true]
            refine p_tup (Nat.le_of_ble_eq_true rfl) fun q2 H2 hq2 s2 eq2 => ?_
            refine p_tup (Nat.le_of_ble_eq_true rfl) fun q3 H3 hq3 s3 eq3 => ?_
            refine p_lst (Nat.le_of_ble_eq_true rfl) fun q4 H4 hq4 s4 eq4 => ?_
            exact hq _ _ _ (s1.trans (s2.trans (s3.trans s4))) (Same.free (s1.trans (s2.trans s3)) hq4) eq4 (.cons (TD.sm s4 (td_sit (st := ⟨st.mode, st.sites ++ [(n, i)], .pt nn 0⟩) eq3 (tin.sm (s2.trans s3)) (td_spot (Kx.Same.get s3 eq2)))) .nil)
        have hm11 := Kx.Same.get s1 hm1
        cases lim with
        | none =>
          dsimp only [vO]
          have k2 := key false rfl
          rw [if_neg Bool.false_ne_true] at k2
          row_cond zz
          exact k2
        | some kk =>
          dsimp only [vO]
          row_cond zz
          have k2 := key _ rfl
          rw [over_eq, show overN (some kk) st.sites.length = decide (kk ≤ ((xs.length : Nat) : Int)) by rw [hxl]; rfl] at k2
          refine z_ite2' (decide (kk ≤ ((xs.length : Nat) : Int))) (fun hov => ?_) fun hov => ?_
          · rw [hov] at k2 ⊢
            row_cond zz
            exact k2
          · rw [hov, if_neg Bool.false_ne_true] at k2
            rw [hov]
            row_cond zz
            exact k2
      · rw [if_neg (by rw [hin]; exact Bool.false_ne_true)] at hq
        rw [hin]
        row_cond zz
        refine p_lst (Nat.le_of_ble_eq_true rfl) fun q4 H4 hq4 s4 eq4 => ?_
        exact hq _ _ _ s4 hq4 eq4 .nil
    | @leave hh ms b2 hm1 hm2 =>
      dsimp only at hq
      row_cond zz
      rw [d_lg]
      row_cond zz
      rw [d_lc]
      row_cond zz
      refine p_niT hm2 rfl (flat_ints ms) ?_
      rw [inV_ints]
      refine z_ite2' (ms.contains st.mode) (fun hin => ?_) fun hin => ?_
      · rw [if_pos hin] at hq
        rw [hin]
        row_cond zz
        rw [d_lc]
        row_cond zz
        rw [d_lf]
        row_cond zz
        refine p_tup (Nat.le_of_ble_eq_true rfl) fun q0 H1 hq0 s1 eq0 => ?_
        row_cond zz
        refine p_q0 (TD.sm s1 tss) (sh_ok (sh_sites okp oks.sites) (by decide)) eq0 ?_
        cases hgl : st.sites.getLast? with
        | none =>
          have e : st.sites = [] := List.getLast?_eq_none_iff.mp hgl
          rw [e]
          rw [show (([] : List Site).map eSite).isEmpty = true from rfl]
          row_cond zz
          refine p_tup (Nat.le_of_ble_eq_true rfl) fun q2 H3 hq2 s3 eq2 => ?_
          row_cond zz
          refine p_tup (Nat.le_of_ble_eq_true rfl) fun q3 H4 hq3 s4 eq3 => ?_
          row_cond zz
          refine p_lst (Nat.le_of_ble_eq_true rfl) fun q5 H5 hq5 s5 eq5 => ?_
          refine hq _ _ _ (s1.trans (s3.trans (s4.trans s5))) (Same.free (s1.trans (s3.trans s4)) hq5) eq5 ?_
          unfold leftBy
          rw [hgl]
          exact .cons (TD.sm s5 (td_sit (st := ⟨st.mode, [], .left⟩) eq3 (.tup (Kx.Same.get s4 eq2) .nil) (.str _))) .nil
        | some lst =>
          have hne : st.sites ≠ [] := fun e => by
            rw [e] at hgl
            cases hgl
          have hpos : 0 < st.sites.length := List.length_pos_iff.mpr hne
          rw [show (st.sites.map eSite).isEmpty = false by cases hh : st.sites with | nil => exact absurd hh hne | cons => rfl]
          have hst : st.sites[st.sites.length - 1]? = some lst := by
            rw [List.getLast?_eq_getElem?] at hgl
            exact hgl
          obtain ⟨hn2, h0, t0, n0, ms0, c0, hmv2⟩ := oks.sites lst (List.mem_of_getElem? hst)
          obtain ⟨b2, hb2, hbt⟩ := sites_at ts hst
          have hat2 : atI xs (-1) = some (.ref b2) := atI_lastN (by rw [hxl]; exact hb2) (by omega)
          have ha1 := Kx.Same.get s1 ha
          have hbt1 := Kx.Same.get s1 hbt
          obtain ⟨kvs', md', kvm', v', zs', r1, r2, r3, r4, r5, r6⟩ := (hg.sm s1).moves hn2
          obtain ⟨a2, hc2, hmm⟩ := mvs_at r6 hmv2
          row_cond zz
          refine p_xT ha1 hat2 ?_
          row_cond zz
          refine p_xT ha1 hat2 ?_
          row_cond zz
          refine p_xT r5 (atI_nat hc2) ?_
          row_cond zz
          refine p_slT ha1 (fun z => ?_) fun q1 H2 hq1 s2 eq1 => ?_
          · have := z.2
            rw [sIx_last] at this
            omega
          rw [cut_last] at eq1
          row_cond zz
          refine p_xT (Kx.Same.get s2 ha1) hat2 ?_
          cases hmm with
          | call hx1 hx2 =>
            row_cond zz
            refine p_tup (Nat.le_of_ble_eq_true rfl) fun q2 H3 hq2 s3 eq2 => ?_
            row_cond zz
            refine p_tup (Nat.le_of_ble_eq_true rfl) fun q3 H4 hq3 s4 eq3 => ?_
            row_cond zz
            refine p_lst (Nat.le_of_ble_eq_true rfl) fun q5 H5 hq5 s5 eq5 => ?_
            refine hq _ _ _ (s1.trans (s2.trans (s3.trans (s4.trans s5)))) (Same.free (s1.trans (s2.trans (s3.trans s4))) hq5) eq5 ?_
            unfold leftBy
            rw [hgl]
            refine .cons (TD.sm s5 (td_sit (st := ⟨st.mode, st.sites.dropLast, .pt lst.1 (p.mv lst).there⟩) eq3 (.tup (Kx.Same.get s4 (Kx.Same.get s3 eq1)) ?_) (td_spot (Kx.Same.get s4 ?_)))) .nil
            · rw [List.dropLast_eq_take, List.map_take, ← hxl]
              exact (TDs.sm (s1.trans (s2.trans (s3.trans s4))) ts).take _
            · rw [mv_of hmv2]
              exact eq2
      · rw [if_neg (by rw [hin]; exact Bool.false_ne_true)] at hq
        rw [hin]
        row_cond zz
        refine p_lst (Nat.le_of_ble_eq_true rfl) fun q4 H4 hq4 s4 eq4 => ?_
        exact hq _ _ _ s4 hq4 eq4 .nil
    | @fail hh ms b2 hm1 hm2 =>
      dsimp only at hq
      row_cond zz
      rw [d_fg]
      row_cond zz
      rw [d_fc]
      row_cond zz
      refine p_niT hm2 rfl (flat_ints ms) ?_
      rw [inV_ints]
      refine z_ite2' (ms.contains st.mode) (fun hin => ?_) fun hin => ?_
      · rw [if_pos hin] at hq
        rw [hin]
        row_cond zz
        rw [d_fc]
        row_cond zz
        rw [d_ff]
        row_cond zz
        refine ⟨g, p, st.mode, ss, st.sites, rfl, hg, tss, by omega, oks.sites, fun H2 v s2 tv => ?_⟩
        row_cond zz
        refine p_lst (Nat.le_of_ble_eq_true rfl) fun q2 H3 hq2 s3 eq2 => ?_
        exact hq _ _ _ (s2.trans s3) (Same.free s2 hq2) eq2 (.cons (tv.sm s3) .nil)
      · rw [if_neg (by rw [hin]; exact Bool.false_ne_true)] at hq
        rw [hin]
        row_cond zz
        refine p_lst (Nat.le_of_ble_eq_true rfl) fun q4 H4 hq4 s4 eq4 => ?_
        exact hq _ _ _ s4 hq4 eq4 .nil
end
end Kx

/- part K22 -/
/-! # K22: the law's options, gone, walked -/
namespace Kx
open PySem PySem.Spec PyProof.Rows L2
theorem p_ext {H : Hp} {Q : VK} {l b : Addr} {xs zs : List V} (h : H l = some (.lst xs)) (hb : H b = some (.lst zs)) (hl : xs.length + zs.length ≤ 100000) (q : Q .non (upd H l (.lst (xs ++ zs)))) : rExtend (.ref l) [.ref b] H Q := ⟨l, b, xs, zs, rfl, rfl, h, hb, Nat.le_trans hl (by decide), q⟩
/-- the options of the first i moves -/
def optsTo (p : Prg) (lim : Option Int) (st : Sit) (n : Str) (q : Int) (i : Nat) : List (Sit × Site) := ((List.range i).filter fun i => decide ((p.mv (n, i)).here = q)).flatMap fun i => (byMove p lim st.mode st.sites (n, i)).map fun l => (l, (n, i))
theorem optsTo_yes {p : Prg} {lim : Option Int} {st : Sit} {n : Str} {q : Int} {i : Nat} (h : (p.mv (n, i)).here = q) : optsTo p lim st n q (i + 1) = optsTo p lim st n q i ++ (byMove p lim st.mode st.sites (n, i)).map fun l => (l, (n, i)) := by
  unfold optsTo
  rw [List.range_succ, List.filter_append, List.flatMap_append, show ([i].filter fun i => decide ((p.mv (n, i)).here = q)) = [i] by rw [List.filter_cons_of_pos (by exact decide_eq_true h)]; rfl]
  simp only [List.flatMap_cons, List.flatMap_nil, List.append_nil]
theorem optsTo_no {p : Prg} {lim : Option Int} {st : Sit} {n : Str} {q : Int} {i : Nat} (h : ¬ (p.mv (n, i)).here = q) : optsTo p lim st n q (i + 1) = optsTo p lim st n q i := by
  unfold optsTo
  rw [List.range_succ, List.filter_append, show ([i].filter fun i => decide ((p.mv (n, i)).here = q)) = [] by rw [List.filter_cons_of_neg (by simpa using h)]; rfl, List.append_nil]
theorem optsTo_len {p : Prg} (okp : PrgOk p) {lim : Option Int} {st : Sit} {n : Str} {q : Int} : ∀ i, i ≤ (p.mvs n).length → (optsTo p lim st n q i).length ≤ 50 * i
  | 0, _ => Nat.zero_le _
  | i + 1, h => by
    have ih := optsTo_len okp (lim := lim) (st := st) (n := n) (q := q) i (Nat.le_of_succ_le h)
    by_cases hq : (p.mv (n, i)).here = q
    · rw [optsTo_yes hq, List.length_append, List.length_map]
      have := byMove_len okp (lim := lim) (m := st.mode) (ss := st.sites) (n := n) (i := i) h
      omega
    · rw [optsTo_no hq]
      omega
local macro_rules
  | `(tactic| row_cond hp) => `(tactic| first
    | assumption
    | exact upd_same
    | (refine Kx.Same.get (by assumption) ?_; row_cond hp)
    | (refine Kx.SB.get (by assumption) (by assumption) ?_ rfl; row_cond hp)
    | (refine Kx.SB.getL (by assumption) (by assumption) ?_; row_cond hp))
local macro_rules
  | `(tactic| row_cond zs) => `(tactic| first
    | ((with_reducible refine Kx.z_var (v := ?zval) ?zv ?zq); (case zv => rfl))
    | with_reducible refine Kx.z_c ?_
    | with_reducible refine Kx.z_cons ?_
    | with_reducible refine Kx.z_nil ?_
    | with_reducible refine Kx.z_op ?_
    | with_reducible refine Kx.z_cB ?_
    | with_reducible refine Kx.z_call ?_
    | with_reducible refine Kx.z_fld ?_
    | with_reducible refine Kx.z_tup ?_
    | with_reducible refine Kx.z_lst ?_
    | with_reducible refine Kx.z_test ?_
    | with_reducible refine Kx.z_tB ?_
    | with_reducible refine Kx.p_bl ?_
    | with_reducible refine Kx.z_iteT ?_
    | with_reducible refine Kx.z_iteF ?_
    | with_reducible refine Kx.z_seq ?_
    | with_reducible refine Kx.z_ret ?_
    | with_reducible refine Kx.z_set ?_
    | with_reducible refine Kx.z_drop ?_
    | with_reducible refine Kx.z_if ?_
    | with_reducible refine Kx.z_next ?_
    | with_reducible refine Kx.z_and ?_
    | with_reducible refine Kx.z_or ?_
    | with_reducible refine Kx.z_not ?_
    | with_reducible refine Kx.z_andV ?_
    | with_reducible refine Kx.z_orV ?_
    | with_reducible refine Kx.z_notV ?_
    | with_reducible refine Kx.z_ifE ?_
    | with_reducible refine Kx.z_chain ?_
    | with_reducible refine Kx.z_dget ?_
    | with_reducible refine Kx.z_un ?_
    | with_reducible refine Kx.z_asg ?_
    | with_reducible refine Kx.z_retN ?_
    | with_reducible refine Kx.z_iteNT ?_
    | with_reducible refine Kx.z_iteNF ?_
    | with_reducible refine Kx.p_add ?_
    | with_reducible refine Kx.p_sub ?_
    | with_reducible refine Kx.p_lt ?_
    | with_reducible refine Kx.p_le ?_
    | with_reducible refine Kx.p_gt ?_
    | with_reducible refine Kx.p_ge ?_
    | with_reducible refine Kx.p_neg ?_
    | with_reducible refine Kx.p_eqI ?_
    | with_reducible refine Kx.p_eqS ?_
    | with_reducible refine Kx.p_neI ?_
    | with_reducible refine Kx.p_eqNN ?_
    | with_reducible refine Kx.p_isN ?_
    | with_reducible refine Kx.p_isNi ?_
    | with_reducible refine Kx.p_isNr ?_
    | with_reducible refine Kx.p_notN ?_
    | with_reducible refine Kx.p_notNi ?_
    | with_reducible refine Kx.p_notNr ?_
    | with_reducible refine Kx.p_intI ?_
    | with_reducible refine Kx.p_intB ?_
    | with_reducible refine Kx.p_abs ?_
    | with_reducible refine Kx.p_mx2 ?_
    | with_reducible refine Kx.p_mn2 ?_
    | ((with_reducible refine Kx.p_ixT (xs := ?zxs) (v := ?zval) ?zh ?ze ?zq); (case zh => row_cond hp); (case ze => rfl))
    | ((with_reducible refine Kx.p_ixL (xs := ?zxs) (v := ?zval) ?zh ?ze ?zq); (case zh => row_cond hp); (case ze => rfl))
    | ((with_reducible refine Kx.p_lenT (xs := ?zxs) ?zh ?zq); (case zh => row_cond hp))
    | ((with_reducible refine Kx.p_lenL (xs := ?zxs) ?zh ?zq); (case zh => row_cond hp))
    | ((with_reducible refine Kx.p_xT (xs := ?zxs) (v := ?zval) ?zh ?ze ?zq); (case zh => row_cond hp); (case ze => rfl))
    | ((with_reducible refine Kx.p_xL (xs := ?zxs) (v := ?zval) ?zh ?ze ?zq); (case zh => row_cond hp); (case ze => rfl))
    | with_reducible refine Kx.p_qI ?_
    | with_reducible refine Kx.p_qS ?_
    | with_reducible refine Kx.p_qNI ?_
    | with_reducible refine Kx.p_ltI ?_
    | with_reducible refine Kx.q_int_int ?_
    | with_reducible refine Kx.q_int_bool ?_
    | with_reducible refine Kx.q_int_str ?_
    | with_reducible refine Kx.q_int_tuple ?_
    | with_reducible refine Kx.q_bool_int ?_
    | with_reducible refine Kx.q_bool_bool ?_
    | with_reducible refine Kx.q_bool_str ?_
    | with_reducible refine Kx.q_bool_tuple ?_
    | with_reducible refine Kx.q_str_int ?_
    | with_reducible refine Kx.q_str_bool ?_
    | with_reducible refine Kx.q_str_str ?_
    | with_reducible refine Kx.q_str_tuple ?_
    | with_reducible refine Kx.q_NoneType_int ?_
    | with_reducible refine Kx.q_NoneType_bool ?_
    | with_reducible refine Kx.q_NoneType_str ?_
    | with_reducible refine Kx.q_NoneType_tuple ?_
    | ((with_reducible refine Kx.q_tuple_int (xs := ?zxs) ?zh ?zq); (case zh => row_cond hp))
    | ((with_reducible refine Kx.q_tuple_bool (xs := ?zxs) ?zh ?zq); (case zh => row_cond hp))
    | ((with_reducible refine Kx.q_tuple_str (xs := ?zxs) ?zh ?zq); (case zh => row_cond hp))
    | ((with_reducible refine Kx.q_tuple_tuple (xs := ?zxs) ?zh ?zq); (case zh => row_cond hp))
    | ((with_reducible refine Kx.q_list_int (xs := ?zxs) ?zh ?zq); (case zh => row_cond hp))
    | ((with_reducible refine Kx.q_list_bool (xs := ?zxs) ?zh ?zq); (case zh => row_cond hp))
    | ((with_reducible refine Kx.q_list_str (xs := ?zxs) ?zh ?zq); (case zh => row_cond hp))
    | ((with_reducible refine Kx.q_list_tuple (xs := ?zxs) ?zh ?zq); (case zh => row_cond hp))
    | ((with_reducible refine Kx.q_dict_int (kvs := ?zxs) ?zh ?zq); (case zh => row_cond hp))
    | ((with_reducible refine Kx.q_dict_bool (kvs := ?zxs) ?zh ?zq); (case zh => row_cond hp))
    | ((with_reducible refine Kx.q_dict_str (kvs := ?zxs) ?zh ?zq); (case zh => row_cond hp))
    | ((with_reducible refine Kx.q_dict_tuple (kvs := ?zxs) ?zh ?zq); (case zh => row_cond hp))
    | with_reducible refine Kx.z_gn ?_
    | ((with_reducible refine Kx.z_gt2 (x := ?zx) (y := ?zy) ?zh ?zq); (case zh => row_cond hp))
    | ((with_reducible refine Kx.z_gt3 (x := ?zx) (y := ?zy) (z := ?zz) ?zh ?zq); (case zh => row_cond hp))
    | with_reducible refine Kx.z_lcT ?_
    | with_reducible refine Kx.z_lcL ?_
    | with_reducible refine Kx.z_lcS ?_
    | with_reducible refine Kx.z_lcR ?_
    | with_reducible refine Kx.z_lcZ ?_
    | with_reducible refine Kx.z_yes ?_
    | ((with_reducible refine Kx.z_wip ?zh ?zq); (case zh => rfl))
    | ((with_reducible refine Kx.z_LK ?zh ?zq); (case zh => rfl))
    | with_reducible refine Kx.z_lc2T ?_
    | with_reducible refine Kx.z_lc2L ?_
    | with_reducible refine Kx.z_inT ?_
    | with_reducible refine Kx.z_inL ?_
    | ((with_reducible refine Kx.z_LK2 ?zh ?zq); (case zh => rfl))
    | with_reducible refine Kx.z_sl ?_
    | with_reducible refine Kx.z_nop ?_
    | with_reducible refine Kx.z_part ?_
    | with_reducible refine Kx.z_exi ?_
    | with_reducible refine Kx.p_isNb ?_
    | with_reducible refine Kx.p_isNs ?_
    | with_reducible refine Kx.z_match ?_
    | ((with_reducible refine Kx.z_caseT (y := ?zy) (xs := ?zxs) ?zh ?zl ?zf ?zq); (case zh => row_cond hp); (case zl => rfl); (case zf => rfl))
    | ((with_reducible refine Kx.z_caseL (y := ?zy) (xs := ?zxs) ?zh ?zl ?zq); (case zh => row_cond hp); (case zl => (intro z; cases z)))
    | ((with_reducible refine Kx.z_caseF (y := ?zy) (xs := ?zxs) ?zh ?zf ?zq); (case zh => row_cond hp); (case zf => rfl))
    | with_reducible refine Kx.z_mnil ?_
    | with_reducible refine Kx.z_lcE ?_
    | with_reducible refine Kx.z_forT ?_
    | with_reducible refine Kx.z_forL ?_
    | with_reducible refine Kx.z_forR ?_
    | with_reducible refine Kx.z_forC ?_
    | ((with_reducible refine Kx.p_fP (dx := ?zd) (fs := ?zfs) (v := ?zv) (by assumption) ?zh ?zl ?zf ?zq); (case zh => row_cond hp); (case zl => assumption); (case zf => decide +kernel))
    | ((with_reducible refine Kx.p_fG (dx := ?zd) (fs := ?zfs) (v := ?zv) (by assumption) ?zh ?zl ?zf ?zq); (case zh => row_cond hp); (case zl => assumption); (case zf => decide +kernel))
    | ((with_reducible refine Kx.p_fR (dx := ?zd) (fs := ?zfs) (v := ?zv) (by assumption) ?zh ?zl ?zf ?zq); (case zh => row_cond hp); (case zl => assumption); (case zf => decide +kernel))
    | ((with_reducible refine Kx.p_dgetS (kvs := ?zk) (v := ?zv) ?zh ?ze ?zq); (case zh => row_cond hp); (case ze => assumption))
    | with_reducible refine Kx.z_star ?_
    | ((with_reducible refine Kx.p_star (xs := ?zxs) ?zh ?zq); (case zh => row_cond hp))
    | with_reducible refine Kx.z_bm ?_
    | with_reducible refine Kx.p_ip ?_
    | with_reducible refine Kx.z_lss ?_
    | with_reducible refine Kx.z_dcT ?_
    | with_reducible refine Kx.z_sf ?_
    | with_reducible refine Kx.z_dnew ?_
    | with_reducible refine Kx.z_mk ?_
    | with_reducible refine Kx.z_callS ?_
    | with_reducible refine Kx.z_gsub ?_
    | ((with_reducible refine Kx.p_setL (xs := ?zxs) (k := ?zk) ?zh ?ze ?zq); (case zh => row_cond hp); (case ze => rfl))
    | ((with_reducible refine Kx.p_modP ?zh ?zq); (case zh => first | assumption | decide +kernel))
    | ((with_reducible refine Kx.p_mulR ?zh ?zq); (case zh => first | assumption | decide +kernel))
    | ((with_reducible refine Kx.p_mulL ?zh ?zq); (case zh => first | assumption | decide +kernel))
    | ((with_reducible refine Kx.p_powS ?zh ?zq); (case zh => first | assumption | decide +kernel))
    | ((with_reducible refine Kx.p_powW ?zh ?zq); (case zh => first | assumption | decide +kernel))
    | ((with_reducible refine Kx.p_fdvS ?zh ?zq); (case zh => first | assumption | decide +kernel))
    | with_reducible refine Kx.z_par ?_
    | with_reducible refine Kx.p_par ?_
    | with_reducible refine Kx.z_par3 ?_
    | with_reducible refine Kx.p_par3 ?_
    | ((with_reducible refine Kx.z_gl3 (x := ?zx) (y := ?zy) (z := ?zz) ?zh ?zq); (case zh => row_cond hp))
    | ((with_reducible refine Kx.z_gtG2 (x := ?zx) (y := ?zy) ?zh ?zq); (case zh => row_cond hp))
    | with_reducible refine Kx.z_cm ?_
    | with_reducible refine Kx.p_cm ?_
    | with_reducible refine Kx.z_prs ?_
    | with_reducible refine Kx.z_prn ?_
    | dsimp only)
local macro_rules
  | `(tactic| row_cond zz) => `(tactic| repeat (row_cond zs))

section
variable {P : Program} {w : World} {K : PySem.W.Frag} {mg : Str → Option Value} {base : Heap}
def spLOpt : Sp := fun vs H Q _ => ∃ (c : Addr) (p : Prg) (lim : Option Int) (sit : V) (st : Sit), vs = [.ref c, vO lim, sit] ∧ PrgOk p ∧ CodeAt H c p ∧ TD H sit (eSit st) ∧ SitOk p st ∧ st.sites.length ≤ 900 ∧
  ∀ H' D ys, Same H H' → H D = none → H' D = some (.lst ys) → TDs H' ys ((opts p lim st).map eOpt) → Q (.ref D) H'
theorem sc__law_options_of : FnScope ["_law_code", "_law_most", "_law_situation", "_law_spot", "_law_found", "_law_moves", "_law_at", "_law_site", "_law_later"] ["_law_code", "_law_most", "_law_situation"] (defScope (top 63)) := ⟨rfl, rfl, rfl, by decide +kernel, rfl, by decide +kernel, by decide +kernel⟩
theorem c__law_options_of (T : Txt K mg) : Cal P w K mg base 3 "_law_options_of" spLOpt := by
  refine cal_of T 32 rfl sc__law_options_of (fun _ _ _ _ _ _ us hl => match us, hl with | [_, _, _], _ => rfl) (fun vs H Q E h => ?_) (fun f cdv A outer s H vs Q E hr h => ?_)
  · obtain ⟨g, p, lim, sit, st, rfl, _⟩ := h
    rfl
  · obtain ⟨g, p, lim, sit, st, rfl, okp, hg, tsit, oks, hl9, hq⟩ := h
    obtain ⟨sa, ss, sw, rfl, hsa, tss, tsw⟩ := sit_at tsit
    refine ⟨_, (pss_cons (ps_par (i := 3) (j := 4) rfl sc__law_options_of.nd rfl rfl (by decide) rfl rfl (pa_cons (k_ix (K := K) rfl (pv 2) pe_int (fun _ _ => rfl)) (pa_cons (pe_lst pa_nil) pa_nil)) rfl)
      (pss_cons (ps_if (pt_val (pe_callB c_isB rfl (T.b "isinstance") boot_isinstance (pa_cons (pv 3) (pa_cons (pe_bltn rfl (T.b "str") boot_str (v := .ty "str") rfl) pa_nil)))) (pss_one (ps_ret (pe_lst pa_nil))) pss_nil)
      (pss_cons (ps_set (i := 5) sc__law_options_of.nd rfl (.inl rfl) (pe_dget (u1 hr) (pe_dget (u1 hr) (pv 0) pe_str (fun _ _ => rfl)) (k_ix (K := K) rfl (pv 3) pe_int (fun _ _ => rfl)) (fun _ _ => rfl)))
      (pss_cons (ps_for PassesOwn.never rfl (pi_range1 rfl (T.b "range") (pa_cons (pe_callB (k_len (K := K) rfl) rfl (T.b "len") boot_len (pa_cons (pv 5) pa_nil)) pa_nil)) (pg_name (i := 6) sc__law_options_of.nd rfl (.inl rfl) (.inr rfl)) (pss_one (ps_if (pt_cmpR (k_eqA (K := K) rfl hr.units) (k_ix (K := K) rfl (k_ix (K := K) rfl (pv 5) (pv 6) (fun _ _ => rfl)) pe_int (fun _ _ => rfl)) (k_ix (K := K) rfl (pv 3) pe_int (fun _ _ => rfl)) (nomark _)) (pss_cons (ps_set (i := 7) sc__law_options_of.nd rfl (.inr rfl) (pe_tup (pa_cons (k_ix (K := K) rfl (pv 3) pe_int (fun _ _ => rfl)) (pa_cons (pv 6) pa_nil))))
      (pss_one (ps_expr (pe_bm PySem.F.plainAttrs_list PySem.F.slot_list_extend PySem.F.type_list_extend mt_extend (pv 4) (pa_cons (pe_lc rfl sc__law_options_of.nd (k_lst (K := K) rfl (C8.pe_c (c__law_by_move T) hr (by decide) rfl (pa_cons (pv 0) (pa_cons (pv 1) (pa_cons (pv 2) (pa_cons (pv 7) pa_nil)))))) (blkOk_by (own := [(("_law_later" : Str), 8)]) (by kernel_rfl)) (fun _ _ _ _ _ => (pg_name (i := 8) sc__law_options_of.nd rfl (.inl rfl) (.inr rfl))) (fun _ _ _ _ _ => pts_nil) (fun _ _ _ _ _ => (pe_tup (pa_cons (pv 8) (pa_cons (pv 7) pa_nil))))) pa_nil))))) pss_nil)))
      (pss_one (ps_ret (pv 4))))))), ?_⟩
    unfold opts at hq
    row_cond zz
    refine p_lst (Nat.le_of_ble_eq_true rfl) fun fl H1 hfl s1 efl => ?_
    cases hsp : st.spot with
    | left =>
      rw [hsp] at tsw hq
      cases tsw
      row_cond zz
      refine p_lst (Nat.le_of_ble_eq_true rfl) fun q1 H2 hq1 s2 eq1 => ?_
      exact hq _ _ _ (s1.trans s2) (Same.free s1 hq1) eq1 .nil
    | failed =>
      rw [hsp] at tsw hq
      cases tsw
      row_cond zz
      refine p_lst (Nat.le_of_ble_eq_true rfl) fun q1 H2 hq1 s2 eq1 => ?_
      exact hq _ _ _ (s1.trans s2) (Same.free s1 hq1) eq1 .nil
    | pt n q =>
      rw [hsp] at tsw hq
      dsimp only at hq
      obtain ⟨sp, rfl, hspt⟩ := spot_at tsw
      have hn := oks.spot n q hsp
      obtain ⟨kvs, md, kvm, v, xs, h1, h2, h3, h4, h5, ts⟩ := (hg.sm s1).moves hn
      have hspt1 := Kx.Same.get s1 hspt
      have hxl : xs.length = (p.mvs n).length := by rw [ts.length, List.length_map]
      have hml := mvs_len okp n
      row_cond zz
      refine p_forR (fun i σ H' => ∃ (v6 v7 v8 : Option V) (ys : List V), σ = [some (.ref g), some (vO lim), some (.ref sa), some (.ref sp), some (.ref fl), some (.ref v), v6, v7, v8] ∧ Same H H' ∧ NK H1 H' ∧ H' fl = some (.lst ys) ∧ TDs H' ys ((optsTo p lim st n q i).map eOpt)) (by omega) (by omega) ⟨none, none, none, [], rfl, s1, NK.refl, efl, .nil⟩ (fun i σ H2 hi hp => ?_) (fun σ H2 hp => ?_)
      · obtain ⟨v6, v7, v8, ys, rfl, s2, nk2, efl2, tys⟩ := hp
        have hi2 : i < (p.mvs n).length := by omega
        have hyl : ys.length ≤ 50 * i := by
          rw [tys.length, List.length_map]
          exact optsTo_len okp i (Nat.le_of_lt hi2)
        obtain ⟨a, hc, hm⟩ := mvs_at (ts.nk nk2) (idx_mv hi2)
        obtain ⟨zs, hz, hat⟩ := mv_here hm
        have h5' := nk2 _ _ rfl h5
        have hsp2 := Kx.Same.get s2 hspt
        rw [show (0 : Int) + ((i : Nat) : Int) = ((i : Nat) : Int) by omega]
        row_cond zz
        refine p_xT h5' (atI_nat hc) ?_
        row_cond zz
        refine p_xT hz hat ?_
        row_cond zz
        by_cases hqq : (p.mv (n, i)).here = q
        · refine z_iteD hqq ?_
          row_cond zz
          refine p_tup (Nat.le_of_ble_eq_true rfl) fun st3 H3 hst3 s3 e3 => ?_
          have s03 := s2.trans s3
          row_cond zz
          refine ⟨tyL (Kx.Same.get s3 efl2), ?_⟩
          row_cond zz
          refine ⟨g, p, lim, _, st, st3, n, i, rfl, okp, hg.sm s03, tsit.sm s03, oks, hl9, ⟨q, hsp⟩, e3, hn, hi2, fun H4 D ws s4 hD e4 tws => ?_⟩
          have hwl : ws.length = (byMove p lim st.mode st.sites (n, i)).length := by rw [tws.length, List.length_map]
          have hbl := byMove_len okp (lim := lim) (m := st.mode) (ss := st.sites) hi2
          row_cond zz
          refine p_lcL Same (fun k acc H => TDs H acc (((byMove p lim st.mode st.sites (n, i)).take k).map fun l => eOpt (l, (n, i)))) (fun i acc H H' nk h => h.nk nk) okS e4 (fun H' s => Kx.Same.get s e4) (by omega) .nil (fun k x acc H5 hx hk s5 tacc => ?_) (fun D2 H5 os hD2 s5 e5 tacc => ?_)
          · intro D Nx put skip
            obtain ⟨d, hd, td⟩ := tws.get hx
            rw [List.getElem?_map] at hd
            obtain ⟨l, hl, rfl⟩ := Option.map_eq_some_iff.mp hd
            row_cond zz
            refine p_tup (Nat.le_of_ble_eq_true rfl) fun q6 H6 hq6 s6 eq6 => ?_
            refine put _ _ s6 ?_
            show TDs _ _ _
            rw [List.take_succ, hl, List.map_append]
            exact (TDs.sm s6 tacc).append (.cons (.tup eq6 (.cons (TD.sm (s5.trans s6) td) (.cons (td_site (Kx.Same.get (s4.trans (s5.trans s6)) e3)) .nil))) .nil)
          · have tacc : TDs _ _ _ := tacc
            rw [hwl, List.take_length] at tacc
            have hol : os.length = (byMove p lim st.mode st.sites (n, i)).length := by rw [tacc.length, List.length_map]
            have s25 := s3.trans (s4.trans s5)
            have efl5 := Kx.Same.get s25 efl2
            row_cond zz
            refine p_ext efl5 e5 (by omega) ?_
            refine ⟨_, _, _, _, rfl, fun b o e => ?_, ?_, upd_same, ?_⟩
            · rw [upd_ne (ne_of_none e hfl)]
              exact s25 _ _ (s2 _ _ e)
            · exact nk2.trans ((Kx.Same.nk s25).trans (nk_upd efl5))
            · rw [optsTo_yes hqq, List.map_append, List.map_map]
              exact TDs.nk (nk_upd efl5) ((tys.sm s25).append tacc)
        · refine z_iteDF hqq ?_
          row_cond zz
          refine ⟨_, _, _, _, rfl, s2, nk2, efl2, ?_⟩
          rw [optsTo_no hqq]
          exact tys
      · obtain ⟨v6, v7, v8, ys, rfl, s2, nk2, efl2, tys⟩ := hp
        row_cond zz
        refine hq _ _ _ s2 hfl efl2 ?_
        rw [show (((xs.length : Nat) : Int)).toNat = (p.mvs n).length by omega] at tys
        exact tys
/-! ### _law_gone -/
def spLGone : Sp := fun vs H Q _ => ∃ (c : Addr) (p : Prg) (lim : Option Int) (m : Int) (ch : Addr) (cs : List Int), vs = [.ref c, vO lim, .int m, .ref ch] ∧ PrgOk p ∧ CodeAt H c p ∧ H ch = some (.tup (cs.map V.int)) ∧ cs.length ≤ 800 ∧ (∀ x ∈ cs, 0 ≤ x) ∧
  (wentF p lim m cs = none → ∀ H', Same H H' → Q .non H') ∧
  ∀ l k, wentF p lim m cs = some (l, k) → ∀ H' si, Same H H' → H si = none → SitL H' si l → Q (.ref si) H'
theorem sc__law_gone : FnScope ["_law_code", "_law_bound", "_law_start", "_law_choices", "_law_found", "_law_at", "_law_some"] ["_law_code", "_law_bound", "_law_start", "_law_choices"] (defScope (top 66)) := ⟨rfl, rfl, rfl, by decide +kernel, rfl, by decide +kernel, by decide +kernel⟩
theorem c__law_gone (T : Txt K mg) : Cal P w K mg base 4 "_law_gone" spLGone := by
  refine cal_of T 35 rfl sc__law_gone (fun _ _ _ _ _ _ us hl => match us, hl with | [_, _, _, _], _ => rfl) (fun vs H Q E h => ?_) (fun f cdv A outer s H vs Q E hr h => ?_)
  · obtain ⟨g, p, lim, m, ch, cs, rfl, _⟩ := h
    rfl
  · obtain ⟨g, p, lim, m, ch, cs, rfl, okp, hg, hch, hcl, hpos, qn, qs⟩ := h
    refine ⟨_, (pss_cons (ps_set (i := 4) sc__law_gone.nd rfl (.inl rfl) (pe_lst (pa_cons (pe_tup (pa_cons (pv 2) (pa_cons (pe_tup pa_nil) (pa_cons (pe_tup (pa_cons (pe_dget (u1 hr) (pv 0) pe_str (fun _ _ => rfl)) (pa_cons pe_int pa_nil))) pa_nil)))) pa_nil)))
      (pss_cons (ps_for PassesOwn.never rfl (k_tup (K := K) rfl (pv 3)) (pg_name (i := 5) sc__law_gone.nd rfl (.inl rfl) (.inr rfl)) (pss_cons (ps_set (i := 6) sc__law_gone.nd rfl (.inl rfl) (C8.pe_c (c__law_options_of T) hr (by decide) rfl (pa_cons (pv 0) (pa_cons (pv 1) (pa_cons (k_ix (K := K) rfl (pv 4) (pe_un o_neg pe_int) (fun _ _ => rfl)) pa_nil)))))
      (pss_cons (ps_if (pt_cmpR o_ge (pv 5) (pe_callB (k_len (K := K) rfl) rfl (T.b "len") boot_len (pa_cons (pv 6) pa_nil)) (nomark _)) (pss_one (ps_ret pe_non)) pss_nil)
      (pss_one (ps_expr (pe_bm PySem.F.plainAttrs_list PySem.F.slot_list_append PySem.F.type_list_append mt_append (pv 4) (pa_cons (k_ix (K := K) rfl (k_ix (K := K) rfl (pv 6) (pv 5) (fun _ _ => rfl)) pe_int (fun _ _ => rfl)) pa_nil)))))))
      (pss_one (ps_ret (pv 4))))), ?_⟩
    obtain ⟨kvs, md, stt, kvm, h1, h2, h3, h4, _⟩ := id hg
    row_cond zz
    refine p_tup (Nat.le_of_ble_eq_true rfl) fun q1 H1 hq1 s1 eq1 => ?_
    have h1' := Kx.Same.get s1 h1
    row_cond zz
    refine p_tup (Nat.le_of_ble_eq_true rfl) fun q2 H2 hq2 s2 eq2 => ?_
    row_cond zz
    refine p_tup (Nat.le_of_ble_eq_true rfl) fun q3 H3 hq3 s3 eq3 => ?_
    row_cond zz
    refine p_lst (Nat.le_of_ble_eq_true rfl) fun si H4 hsi s4 esi => ?_
    have s04 := s1.trans (s2.trans (s3.trans s4))
    have hsi0 : H si = none := Same.free (s1.trans (s2.trans s3)) hsi
    row_cond zz
    refine p_forT (fun i σ H' => ∃ (l : List Sit) (k : Nat) (ys : List V) (v5 v6 : Option V), σ = [some (.ref g), some (vO lim), some (.int m), some (.ref ch), some (.ref si), v5, v6] ∧ wentF p lim m (cs.take i) = some (l, k) ∧ Same H H' ∧ H' si = some (.lst ys) ∧ TDs H' ys (l.map eSit)) (Kx.Same.get s04 hch)
      ⟨[st0 p m], 0, [.ref q3], none, none, rfl, rfl, s04, esi, .cons (td_sit (st := st0 p m) (Kx.Same.get s4 eq3) (.tup (Kx.Same.get (s2.trans (s3.trans s4)) eq1) .nil) (td_spot (Kx.Same.get (s3.trans s4) eq2))) .nil⟩ (fun i σ H' hp => ?_) (fun i x σ H5 hx hi hp => ?_) (fun σ H5 hp => ?_)
    · obtain ⟨l, k, ys, v5, v6, _, _, s5, _, _⟩ := hp
      exact Kx.Same.get s5 hch
    · obtain ⟨l, k, ys, v5, v6, rfl, hw, s5, e5, t5⟩ := hp
      obtain ⟨c, hc, rfl⟩ : ∃ c, cs[i]? = some c ∧ x = .int c := by
        rw [List.getElem?_map] at hx
        obtain ⟨c, hc, rfl⟩ := Option.map_eq_some_iff.mp hx
        exact ⟨c, hc, rfl⟩
      have hc0 := hpos c (List.mem_of_getElem? hc)
      have hi : i < cs.length := (List.getElem?_eq_some_iff.mp hc).1
      have htk : cs.take (i + 1) = cs.take i ++ [c] := by
        rw [List.take_succ, hc]
        rfl
      have hll := went_length _ l k hw
      rw [List.length_take, Nat.min_eq_left (Nat.le_of_lt hi)] at hll
      have hyl : ys.length = l.length := by rw [t5.length, List.length_map]
      obtain ⟨st, hst⟩ : ∃ st, l[l.length - 1]? = some st := ⟨_, List.getElem?_eq_getElem (by omega)⟩
      have hlast : l.getLastD (st0 p m) = st := by
        rw [List.getLastD_eq_getLast?, List.getLast?_eq_getElem?, hst]
        rfl
      have hmem : st ∈ l := List.mem_of_getElem? hst
      have oks := went_ok okp _ l k hw st hmem
      have hsl := went_len2 _ l k hw st hmem
      rw [List.length_take] at hsl
      obtain ⟨v, hv, tv⟩ := t5.get' (i := l.length - 1) (d := eSit st) (by rw [List.getElem?_map, hst]; rfl)
      have hat : atI ys (-1) = some v := atI_lastN (by rw [hyl]; exact hv) (by omega)
      row_cond zz
      refine p_xL e5 hat ?_
      row_cond zz
      refine ⟨g, p, lim, v, st, rfl, okp, hg.sm s5, tv, oks, by omega, fun H6 D zs s6 hD e6 t6 => ?_⟩
      have hzl : zs.length = (opts p lim st).length := by rw [t6.length, List.length_map]
      row_cond zz
      by_cases hcz : ((zs.length : Nat) : Int) ≤ c
      · refine z_iteD hcz ?_
        row_cond zz
        refine qn ?_ _ (s5.trans s6)
        have hstop : stepN p lim st c = none := by
          unfold stepN
          rw [if_pos hc0, List.getElem?_eq_none]
          · rfl
          · omega
        have h1 := went_stop hw (c := c) (by rw [hlast]; exact hstop)
        rw [← htk] at h1
        have h2 := went_none (ds := cs.drop (i + 1)) h1
        rw [List.take_append_drop] at h2
        exact h2
      · refine z_iteDF hcz ?_
        obtain ⟨o, ho⟩ : ∃ o, (opts p lim st)[c.toNat]? = some o := ⟨_, List.getElem?_eq_getElem (by omega)⟩
        obtain ⟨u, hu, tu⟩ := t6.get' (i := c.toNat) (d := eOpt o) (by rw [List.getElem?_map, ho]; rfl)
        have hatu : atI zs c = some u := by
          have h := atI_nat hu
          rw [show ((c.toNat : Nat) : Int) = c by omega] at h
          exact h
        obtain ⟨b, a1, a2, rfl, hb2, ta1, ha2⟩ := opt_at tu
        row_cond zz
        refine ⟨tyL (Kx.Same.get s6 e5), ?_⟩
        row_cond zz
        refine p_xL e6 hatu ?_
        row_cond zz
        refine p_append (Kx.Same.get s6 e5) (by omega) ?_
        refine ⟨l ++ [o.1], k + refu p lim st.sites o.2, _, _, _, rfl, ?_, fun b u e => ?_, upd_same, ?_⟩
        · rw [htk]
          refine went_go hw ?_
          rw [hlast]
          unfold stepN
          rw [if_pos hc0, ho]
          rfl
        · rw [upd_ne (ne_of_none e hsi0)]
          exact (s5.trans s6) _ _ e
        · rw [List.map_append]
          exact TDs.nk (nk_upd (Kx.Same.get s6 e5)) ((t5.sm s6).append (.cons ta1 .nil))
    · obtain ⟨l, k, ys, v5, v6, rfl, hw, s5, e5, t5⟩ := hp
      rw [List.length_map, List.take_length] at hw
      row_cond zz
      exact qs l k hw _ _ s5 hsi0 ⟨ys, e5, t5⟩
end
end Kx

/- part K23 -/
/-! # K23: the law's walks -/
namespace Kx
open PySem PySem.Spec PyProof.Rows L2
/-- a list of laid items against [] -/
theorem p_nL0 {K : PySem.W.Frag} {H : Hp} {Q : VK} {a b : Addr} {xs : List V} {ds : List PyData} (h : H a = some (.lst xs)) (t : TDs H xs ds) (sh : SeqAt.shaped (.list ds) = true) (h2 : H b = some (.lst [])) (q : Q (.bl (!ds.isEmpty)) H) : rNeA K (.ref a) (.ref b) H Q := by
  refine .inr ⟨.list ds, .list [], .lst (.inl (.inl h)) (TDs.dp ds _ t), .lst (.inl (.inl h2)) .nil, sh, rfl, ?_⟩
  rw [show PyData.eqv (.list ds) (.list []) = ds.isEmpty by cases ds <;> rfl]
  exact q
local macro_rules
  | `(tactic| row_cond hp) => `(tactic| first
    | assumption
    | exact upd_same
    | (refine Kx.Same.get (by assumption) ?_; row_cond hp)
    | (refine Kx.SB.get (by assumption) (by assumption) ?_ rfl; row_cond hp)
    | (refine Kx.SB.getL (by assumption) (by assumption) ?_; row_cond hp))
local macro_rules
  | `(tactic| row_cond zs) => `(tactic| first
    | ((with_reducible refine Kx.z_var (v := ?zval) ?zv ?zq); (case zv => rfl))
    | with_reducible refine Kx.z_c ?_
    | with_reducible refine Kx.z_cons ?_
    | with_reducible refine Kx.z_nil ?_
    | with_reducible refine Kx.z_op ?_
    | with_reducible refine Kx.z_cB ?_
    | with_reducible refine Kx.z_call ?_
    | with_reducible refine Kx.z_fld ?_
    | with_reducible refine Kx.z_tup ?_
    | with_reducible refine Kx.z_lst ?_
    | with_reducible refine Kx.z_test ?_
    | with_reducible refine Kx.z_tB ?_
    | with_reducible refine Kx.p_bl ?_
    | with_reducible refine Kx.z_iteT ?_
    | with_reducible refine Kx.z_iteF ?_
    | with_reducible refine Kx.z_seq ?_
    | with_reducible refine Kx.z_ret ?_
    | with_reducible refine Kx.z_set ?_
    | with_reducible refine Kx.z_drop ?_
    | with_reducible refine Kx.z_if ?_
    | with_reducible refine Kx.z_next ?_
    | with_reducible refine Kx.z_and ?_
    | with_reducible refine Kx.z_or ?_
    | with_reducible refine Kx.z_not ?_
    | with_reducible refine Kx.z_andV ?_
    | with_reducible refine Kx.z_orV ?_
    | with_reducible refine Kx.z_notV ?_
    | with_reducible refine Kx.z_ifE ?_
    | with_reducible refine Kx.z_chain ?_
    | with_reducible refine Kx.z_dget ?_
    | with_reducible refine Kx.z_un ?_
    | with_reducible refine Kx.z_asg ?_
    | with_reducible refine Kx.z_retN ?_
    | with_reducible refine Kx.z_iteNT ?_
    | with_reducible refine Kx.z_iteNF ?_
    | with_reducible refine Kx.p_add ?_
    | with_reducible refine Kx.p_sub ?_
    | with_reducible refine Kx.p_lt ?_
    | with_reducible refine Kx.p_le ?_
    | with_reducible refine Kx.p_gt ?_
    | with_reducible refine Kx.p_ge ?_
    | with_reducible refine Kx.p_neg ?_
    | with_reducible refine Kx.p_eqI ?_
    | with_reducible refine Kx.p_eqS ?_
    | with_reducible refine Kx.p_neI ?_
    | with_reducible refine Kx.p_eqNN ?_
    | with_reducible refine Kx.p_isN ?_
    | with_reducible refine Kx.p_isNi ?_
    | with_reducible refine Kx.p_isNr ?_
    | with_reducible refine Kx.p_notN ?_
    | with_reducible refine Kx.p_notNi ?_
    | with_reducible refine Kx.p_notNr ?_
    | with_reducible refine Kx.p_intI ?_
    | with_reducible refine Kx.p_intB ?_
    | with_reducible refine Kx.p_abs ?_
    | with_reducible refine Kx.p_mx2 ?_
    | with_reducible refine Kx.p_mn2 ?_
    | ((with_reducible refine Kx.p_ixT (xs := ?zxs) (v := ?zval) ?zh ?ze ?zq); (case zh => row_cond hp); (case ze => rfl))
    | ((with_reducible refine Kx.p_ixL (xs := ?zxs) (v := ?zval) ?zh ?ze ?zq); (case zh => row_cond hp); (case ze => rfl))
    | ((with_reducible refine Kx.p_lenT (xs := ?zxs) ?zh ?zq); (case zh => row_cond hp))
    | ((with_reducible refine Kx.p_lenL (xs := ?zxs) ?zh ?zq); (case zh => row_cond hp))
    | ((with_reducible refine Kx.p_xT (xs := ?zxs) (v := ?zval) ?zh ?ze ?zq); (case zh => row_cond hp); (case ze => rfl))
    | ((with_reducible refine Kx.p_xL (xs := ?zxs) (v := ?zval) ?zh ?ze ?zq); (case zh => row_cond hp); (case ze => rfl))
    | with_reducible refine Kx.p_qI ?_
    | with_reducible refine Kx.p_qS ?_
    | with_reducible refine Kx.p_qNI ?_
    | with_reducible refine Kx.p_ltI ?_
    | with_reducible refine Kx.q_int_int ?_
    | with_reducible refine Kx.q_int_bool ?_
    | with_reducible refine Kx.q_int_str ?_
    | with_reducible refine Kx.q_int_tuple ?_
    | with_reducible refine Kx.q_bool_int ?_
    | with_reducible refine Kx.q_bool_bool ?_
    | with_reducible refine Kx.q_bool_str ?_
    | with_reducible refine Kx.q_bool_tuple ?_
    | with_reducible refine Kx.q_str_int ?_
    | with_reducible refine Kx.q_str_bool ?_
    | with_reducible refine Kx.q_str_str ?_
    | with_reducible refine Kx.q_str_tuple ?_
    | with_reducible refine Kx.q_NoneType_int ?_
    | with_reducible refine Kx.q_NoneType_bool ?_
    | with_reducible refine Kx.q_NoneType_str ?_
    | with_reducible refine Kx.q_NoneType_tuple ?_
    | ((with_reducible refine Kx.q_tuple_int (xs := ?zxs) ?zh ?zq); (case zh => row_cond hp))
    | ((with_reducible refine Kx.q_tuple_bool (xs := ?zxs) ?zh ?zq); (case zh => row_cond hp))
    | ((with_reducible refine Kx.q_tuple_str (xs := ?zxs) ?zh ?zq); (case zh => row_cond hp))
    | ((with_reducible refine Kx.q_tuple_tuple (xs := ?zxs) ?zh ?zq); (case zh => row_cond hp))
    | ((with_reducible refine Kx.q_list_int (xs := ?zxs) ?zh ?zq); (case zh => row_cond hp))
    | ((with_reducible refine Kx.q_list_bool (xs := ?zxs) ?zh ?zq); (case zh => row_cond hp))
    | ((with_reducible refine Kx.q_list_str (xs := ?zxs) ?zh ?zq); (case zh => row_cond hp))
    | ((with_reducible refine Kx.q_list_tuple (xs := ?zxs) ?zh ?zq); (case zh => row_cond hp))
    | ((with_reducible refine Kx.q_dict_int (kvs := ?zxs) ?zh ?zq); (case zh => row_cond hp))
    | ((with_reducible refine Kx.q_dict_bool (kvs := ?zxs) ?zh ?zq); (case zh => row_cond hp))
    | ((with_reducible refine Kx.q_dict_str (kvs := ?zxs) ?zh ?zq); (case zh => row_cond hp))
    | ((with_reducible refine Kx.q_dict_tuple (kvs := ?zxs) ?zh ?zq); (case zh => row_cond hp))
    | with_reducible refine Kx.z_gn ?_
    | ((with_reducible refine Kx.z_gt2 (x := ?zx) (y := ?zy) ?zh ?zq); (case zh => row_cond hp))
    | ((with_reducible refine Kx.z_gt3 (x := ?zx) (y := ?zy) (z := ?zz) ?zh ?zq); (case zh => row_cond hp))
    | with_reducible refine Kx.z_lcT ?_
    | with_reducible refine Kx.z_lcL ?_
    | with_reducible refine Kx.z_lcS ?_
    | with_reducible refine Kx.z_lcR ?_
    | with_reducible refine Kx.z_lcZ ?_
    | with_reducible refine Kx.z_yes ?_
    | ((with_reducible refine Kx.z_wip ?zh ?zq); (case zh => rfl))
    | ((with_reducible refine Kx.z_LK ?zh ?zq); (case zh => rfl))
    | with_reducible refine Kx.z_lc2T ?_
    | with_reducible refine Kx.z_lc2L ?_
    | with_reducible refine Kx.z_inT ?_
    | with_reducible refine Kx.z_inL ?_
    | ((with_reducible refine Kx.z_LK2 ?zh ?zq); (case zh => rfl))
    | with_reducible refine Kx.z_sl ?_
    | with_reducible refine Kx.z_nop ?_
    | with_reducible refine Kx.z_part ?_
    | with_reducible refine Kx.z_exi ?_
    | with_reducible refine Kx.p_isNb ?_
    | with_reducible refine Kx.p_isNs ?_
    | with_reducible refine Kx.z_match ?_
    | ((with_reducible refine Kx.z_caseT (y := ?zy) (xs := ?zxs) ?zh ?zl ?zf ?zq); (case zh => row_cond hp); (case zl => rfl); (case zf => rfl))
    | ((with_reducible refine Kx.z_caseL (y := ?zy) (xs := ?zxs) ?zh ?zl ?zq); (case zh => row_cond hp); (case zl => (intro z; cases z)))
    | ((with_reducible refine Kx.z_caseF (y := ?zy) (xs := ?zxs) ?zh ?zf ?zq); (case zh => row_cond hp); (case zf => rfl))
    | with_reducible refine Kx.z_mnil ?_
    | with_reducible refine Kx.z_lcE ?_
    | with_reducible refine Kx.z_forT ?_
    | with_reducible refine Kx.z_forL ?_
    | with_reducible refine Kx.z_forR ?_
    | with_reducible refine Kx.z_forC ?_
    | ((with_reducible refine Kx.p_fP (dx := ?zd) (fs := ?zfs) (v := ?zv) (by assumption) ?zh ?zl ?zf ?zq); (case zh => row_cond hp); (case zl => assumption); (case zf => decide +kernel))
    | ((with_reducible refine Kx.p_fG (dx := ?zd) (fs := ?zfs) (v := ?zv) (by assumption) ?zh ?zl ?zf ?zq); (case zh => row_cond hp); (case zl => assumption); (case zf => decide +kernel))
    | ((with_reducible refine Kx.p_fR (dx := ?zd) (fs := ?zfs) (v := ?zv) (by assumption) ?zh ?zl ?zf ?zq); (case zh => row_cond hp); (case zl => assumption); (case zf => decide +kernel))
    | ((with_reducible refine Kx.p_dgetS (kvs := ?zk) (v := ?zv) ?zh ?ze ?zq); (case zh => row_cond hp); (case ze => assumption))
    | with_reducible refine Kx.z_star ?_
    | ((with_reducible refine Kx.p_star (xs := ?zxs) ?zh ?zq); (case zh => row_cond hp))
    | with_reducible refine Kx.z_bm ?_
    | with_reducible refine Kx.p_ip ?_
    | with_reducible refine Kx.z_lss ?_
    | with_reducible refine Kx.z_dcT ?_
    | with_reducible refine Kx.z_sf ?_
    | with_reducible refine Kx.z_dnew ?_
    | with_reducible refine Kx.z_mk ?_
    | with_reducible refine Kx.z_callS ?_
    | with_reducible refine Kx.z_gsub ?_
    | ((with_reducible refine Kx.p_setL (xs := ?zxs) (k := ?zk) ?zh ?ze ?zq); (case zh => row_cond hp); (case ze => rfl))
    | ((with_reducible refine Kx.p_modP ?zh ?zq); (case zh => first | assumption | decide +kernel))
    | ((with_reducible refine Kx.p_mulR ?zh ?zq); (case zh => first | assumption | decide +kernel))
    | ((with_reducible refine Kx.p_mulL ?zh ?zq); (case zh => first | assumption | decide +kernel))
    | ((with_reducible refine Kx.p_powS ?zh ?zq); (case zh => first | assumption | decide +kernel))
    | ((with_reducible refine Kx.p_powW ?zh ?zq); (case zh => first | assumption | decide +kernel))
    | ((with_reducible refine Kx.p_fdvS ?zh ?zq); (case zh => first | assumption | decide +kernel))
    | with_reducible refine Kx.z_par ?_
    | with_reducible refine Kx.p_par ?_
    | with_reducible refine Kx.z_par3 ?_
    | with_reducible refine Kx.p_par3 ?_
    | ((with_reducible refine Kx.z_gl3 (x := ?zx) (y := ?zy) (z := ?zz) ?zh ?zq); (case zh => row_cond hp))
    | ((with_reducible refine Kx.z_gtG2 (x := ?zx) (y := ?zy) ?zh ?zq); (case zh => row_cond hp))
    | with_reducible refine Kx.z_cm ?_
    | with_reducible refine Kx.p_cm ?_
    | with_reducible refine Kx.z_prs ?_
    | with_reducible refine Kx.z_prn ?_
    | dsimp only)
local macro_rules
  | `(tactic| row_cond zz) => `(tactic| repeat (row_cond zs))

section
variable {P : Program} {w : World} {K : PySem.W.Frag} {mg : Str → Option Value} {base : Heap}
def spWalk : Sp := fun vs H Q _ => ∃ (d c : Addr) (p : Prg) (lim : Option Int) (n : Int), vs = [.ref d, .ref c, vO lim, .int n] ∧ Die H d ∧ PrgOk p ∧ CodeAt H c p ∧ 0 ≤ n ∧ n ≤ 100 ∧
  ∀ H' r m cs l k ch si, SB d H H' → H' r = some (.lst [.int m, .ref ch, .ref si, .int (k : Nat)]) → H' ch = some (.tup (cs.map V.int)) → SitL H' si l → si ≠ d → m ∈ p.starts → cs.length ≤ 100 → (∀ x ∈ cs, 0 ≤ x) → wentF p lim m cs = some (l, k) → Q (.ref r) H'
theorem sc__law_walked : FnScope ["_law_die", "_law_code", "_law_most", "_law_steps", "_law_start", "_law_choices", "_law_situations", "_law_over", "_law_turn", "_law_some", "_law_at", "_law_later", "_law_site", "_law_is_call", "_law_is_over"] ["_law_die", "_law_code", "_law_most", "_law_steps"] (defScope (top 64)) := ⟨rfl, rfl, rfl, by decide +kernel, rfl, by decide +kernel, by decide +kernel⟩
theorem c__law_walked (T : Txt K mg) : Cal P w K mg base 4 "_law_walked" spWalk := by
  refine cal_of T 33 rfl sc__law_walked (fun _ _ _ _ _ _ us hl => match us, hl with | [_, _, _, _], _ => rfl) (fun vs H Q E h => ?_) (fun f cdv A outer s H vs Q E hr h => ?_)
  · obtain ⟨d, c, p, lim, n, rfl, _⟩ := h
    rfl
  · obtain ⟨d, c, p, lim, n, rfl, hd, okp, hg, n0, n1, hq⟩ := h
    refine ⟨_, (pss_cons (ps_set (i := 4) sc__law_walked.nd rfl (.inl rfl) (C8.pe_c (c__law_pick T) hr (by decide) rfl (pa_cons (pv 0) (pa_cons (pe_dget (u1 hr) (pv 1) pe_str (fun _ _ => rfl)) pa_nil))))
      (pss_cons (ps_par3 (i := 5) (j := 6) (l := 7) rfl sc__law_walked.nd rfl rfl rfl (by decide) (by decide) (by decide) rfl rfl rfl (pa_cons (pe_lst pa_nil) (pa_cons (pe_lst (pa_cons (pe_tup (pa_cons (pv 4) (pa_cons (pe_tup pa_nil) (pa_cons (pe_tup (pa_cons (pe_dget (u1 hr) (pv 1) pe_str (fun _ _ => rfl)) (pa_cons pe_int pa_nil))) pa_nil)))) pa_nil)) (pa_cons pe_int pa_nil))) rfl)
      (pss_cons (ps_for PassesOwn.never rfl (pi_range1 rfl (T.b "range") (pa_cons (pv 3) pa_nil)) (pg_name (i := 8) sc__law_walked.nd rfl (.inl rfl) (.inr rfl)) (pss_cons (ps_set (i := 9) sc__law_walked.nd rfl (.inl rfl) (C8.pe_c (c__law_options_of T) hr (by decide) rfl (pa_cons (pv 1) (pa_cons (pv 2) (pa_cons (k_ix (K := K) rfl (pv 6) (pe_un o_neg pe_int) (fun _ _ => rfl)) pa_nil)))))
      (pss_one (ps_if (pt_cmpR (k_neA (K := K) rfl hr.units) (pv 9) (pe_lst pa_nil) (nomark _)) (pss_cons (ps_set (i := 10) sc__law_walked.nd rfl (.inl rfl) (C8.pe_c (c__law_cast T) hr (by decide) rfl (pa_cons (pv 0) (pa_cons (pe_callB (k_len (K := K) rfl) rfl (T.b "len") boot_len (pa_cons (pv 9) pa_nil)) pa_nil))))
      (pss_cons (ps_asg (k_ix (K := K) rfl (pv 9) (pv 10) (fun _ _ => rfl)) (k_gt (K := K) (n := 2) rfl rfl (pgs_cons (pg_name (i := 11) sc__law_walked.nd rfl (.inl rfl) (.inr rfl)) (pgs_cons (pg_name (i := 12) sc__law_walked.nd rfl (.inl rfl) (.inr rfl)) pgs_nil))))
      (pss_cons (ps_set (i := 13) sc__law_walked.nd rfl (.inl rfl) (pe_cmpR (k_eqA (K := K) rfl hr.units) (k_ix (K := K) rfl (k_ix (K := K) rfl (pe_dget (u1 hr) (pe_dget (u1 hr) (pv 1) pe_str (fun _ _ => rfl)) (k_ix (K := K) rfl (pv 12) pe_int (fun _ _ => rfl)) (fun _ _ => rfl)) (k_ix (K := K) rfl (pv 12) pe_int (fun _ _ => rfl)) (fun _ _ => rfl)) pe_int (fun _ _ => rfl)) pe_str (nomark _)))
      (pss_cons (ps_set (i := 14) sc__law_walked.nd rfl (.inl rfl) (pe_and (pe_cmpR o_notN (pv 2) pe_non (nomark _)) (pe_one (pe_cmpR o_ge (pe_callB (k_len (K := K) rfl) rfl (T.b "len") boot_len (pa_cons (k_ix (K := K) rfl (k_ix (K := K) rfl (pv 6) (pe_un o_neg pe_int) (fun _ _ => rfl)) pe_int (fun _ _ => rfl)) pa_nil)) (pv 2) (nomark _)))))
      (pss_cons (ps_set (i := 7) sc__law_walked.nd rfl (.inl rfl) (pe_op o_add (pv 7) (pe_callTy c_int rfl (T.b "int") boot_int (pa_cons (pe_and (pv 13) (pe_one (pv 14))) pa_nil))))
      (pss_cons (ps_expr (pe_bm PySem.F.plainAttrs_list PySem.F.slot_list_append PySem.F.type_list_append mt_append (pv 5) (pa_cons (pv 10) pa_nil)))
      (pss_one (ps_expr (pe_bm PySem.F.plainAttrs_list PySem.F.slot_list_append PySem.F.type_list_append mt_append (pv 6) (pa_cons (pv 11) pa_nil)))))))))) pss_nil))))
      (pss_one (ps_ret (pe_lst (pa_cons (pv 4) (pa_cons (pe_callTy (k_ctup (K := K) rfl) rfl (T.b "tuple") boot_tuple (pa_cons (pv 5) pa_nil)) (pa_cons (pv 6) (pa_cons (pv 7) pa_nil)))))))))), ?_⟩
    obtain ⟨kvs, md, stt, kvm, h1, h2, h3, h4, _⟩ := id hg
    row_cond zz
    refine ⟨d, stt, _, rfl, hd, hd.ne h3 rfl, .inr h3, ?_, ?_, fun H1 x s1 hx => ?_⟩
    · intro z
      exact okp.sts.1 (List.map_eq_nil_iff.mp z)
    · rw [List.length_map]
      exact Nat.le_trans (modes_len okp.sts okp.tot.2) (by decide)
    obtain ⟨m, hm, rfl⟩ := List.mem_map.mp hx
    have h1' := s1.get hd h1 rfl
    row_cond zz
    refine p_lst (Nat.le_of_ble_eq_true rfl) fun chl H2 hchl s2 e2 => ?_
    row_cond zz
    refine p_tup (Nat.le_of_ble_eq_true rfl) fun q1 H3 hq1 s3 eq1 => ?_
    have h13 := Kx.Same.get (s2.trans s3) h1'
    row_cond zz
    refine p_tup (Nat.le_of_ble_eq_true rfl) fun q2 H4 hq2 s4 eq2 => ?_
    row_cond zz
    refine p_tup (Nat.le_of_ble_eq_true rfl) fun q3 H5 hq3 s5 eq3 => ?_
    row_cond zz
    refine p_lst (Nat.le_of_ble_eq_true rfl) fun si H6 hsi s6 esi => ?_
    have hcd : chl ≠ d := s1.die.ne0 hchl
    have hsd : si ≠ d := (s1.die.same (s2.trans (s3.trans (s4.trans s5)))).ne0 hsi
    have hsc : si ≠ chl := fun z => by
      rw [z, Kx.Same.get (s3.trans (s4.trans s5)) e2] at hsi
      cases hsi
    have s06 : SB d H H6 := s1.same (s2.trans (s3.trans (s4.trans (s5.trans s6))))
    have nn : ∀ a : Addr, a ≠ d → H1 a = none → H a = none := fun a ha e => by
      cases hh : H a with
      | none => rfl
      | some o =>
        rw [s1.keep a o ha hh] at e
        cases e
    have hsi0 : H si = none := nn si hsd (Same.free (s2.trans (s3.trans (s4.trans s5))) hsi)
    have hch0 : H chl = none := nn chl hcd hchl
    row_cond zz
    refine p_forR (fun i σ H' => ∃ (l : List Sit) (k : Nat) (cs : List Int) (ys : List V) (v8 v9 v10 v11 v12 v13 v14 : Option V), σ = [some (.ref d), some (.ref c), some (vO lim), some (.int n), some (.int m), some (.ref chl), some (.ref si), some (.int (k : Nat)), v8, v9, v10, v11, v12, v13, v14] ∧ SB d H H' ∧ H' si = some (.lst ys) ∧ H' chl = some (.lst (cs.map V.int)) ∧ TDs H' ys (l.map eSit) ∧ wentF p lim m cs = some (l, k) ∧ cs.length ≤ i ∧ ∀ x ∈ cs, 0 ≤ x) n0 (by omega)
      ⟨[st0 p m], 0, [], [.ref q3], none, none, none, none, none, none, none, rfl, s06, esi, Kx.Same.get (s3.trans (s4.trans (s5.trans s6))) e2, .cons (td_sit (st := st0 p m) (Kx.Same.get s6 eq3) (.tup (Kx.Same.get (s4.trans (s5.trans s6)) eq1) .nil) (td_spot (Kx.Same.get (s5.trans s6) eq2))) .nil, rfl, Nat.le_refl _, fun x hx => (by cases hx)⟩ (fun i σ H7 hi hp => ?_) (fun σ H7 hp => ?_)
    · obtain ⟨l, k, cs, ys, v8, v9, v10, v11, v12, v13, v14, rfl, s7, e7, ec7, t7, hw, hcl, hpos⟩ := hp
      have hll := went_length _ l k hw
      have hyl : ys.length = l.length := by rw [t7.length, List.length_map]
      obtain ⟨st, hst⟩ : ∃ st, l[l.length - 1]? = some st := ⟨_, List.getElem?_eq_getElem (by omega)⟩
      have hlast : l.getLastD (st0 p m) = st := by
        rw [List.getLastD_eq_getLast?, List.getLast?_eq_getElem?, hst]
        rfl
      have hmem : st ∈ l := List.mem_of_getElem? hst
      have oks := went_ok okp _ l k hw st hmem
      have hsl := went_len2 _ l k hw st hmem
      obtain ⟨v, hv, tv⟩ := t7.get' (i := l.length - 1) (d := eSit st) (by rw [List.getElem?_map, hst]; rfl)
      have hat : atI ys (-1) = some v := atI_lastN (by rw [hyl]; exact hv) (by omega)
      have hg7 : CodeAt H7 c p := hg.nk (s7.nk hd)
      row_cond zz
      refine p_xL e7 hat ?_
      row_cond zz
      refine ⟨c, p, lim, v, st, rfl, okp, hg7, tv, oks, by omega, fun H8 D zs s8 hD e8 t8 => ?_⟩
      have hzl : zs.length = (opts p lim st).length := by rw [t8.length, List.length_map]
      have hol := opts_len okp lim st
      have hDd : D ≠ d := s7.die.ne0 hD
      row_cond zz
      refine p_lst (Nat.le_of_ble_eq_true rfl) fun q9 H9 hq9 s9 eq9 => ?_
      row_cond zz
      refine p_nL0 (Kx.Same.get s9 e8) (t8.sm s9) (sh_ok (n := 5) (sh_lst fun d hd => ?_) (by decide)) eq9 ?_
      · obtain ⟨o, ho, rfl⟩ := List.mem_map.mp hd
        exact sh_opt okp oks ho
      have s79 : SB d H7 H9 := SB.of s7.die (s8.trans s9)
      cases hos : opts p lim st with
      | nil =>
        rw [show (!(([] : List (Sit × Site)).map eOpt).isEmpty) = false from rfl]
        row_cond zz
        exact ⟨l, k, cs, ys, _, _, _, _, _, _, _, rfl, s7.trans s79, Kx.Same.get (s8.trans s9) e7, Kx.Same.get (s8.trans s9) ec7, t7.sm (s8.trans s9), hw, Nat.le_succ_of_le hcl, hpos⟩
      | cons o0 os =>
        have hop : 0 < zs.length := by rw [hzl, hos]; exact Nat.succ_pos _
        rw [show (!((o0 :: os).map eOpt).isEmpty) = true from rfl]
        have e89 := Kx.Same.get s9 e8
        row_cond zz
        refine ⟨d, _, rfl, s79.die, by omega, by omega, fun HA at_ sA a0 a1 => ?_⟩
        obtain ⟨o, ho⟩ : ∃ o, (opts p lim st)[at_.toNat]? = some o := ⟨_, List.getElem?_eq_getElem (by omega)⟩
        have s7A := s79.trans sA
        have t8A : TDs HA zs ((opts p lim st).map eOpt) := (t8.sm s9).nk (sA.nk s79.die)
        obtain ⟨u, hu, tu⟩ := t8A.get' (i := at_.toNat) (d := eOpt o) (by rw [List.getElem?_map, ho]; rfl)
        have hatu : atI zs at_ = some u := by
          have h := atI_nat hu
          rw [show ((at_.toNat : Nat) : Int) = at_ by omega] at h
          exact h
        obtain ⟨b, a1', a2, rfl, hb2, ta1, ha2⟩ := opt_at tu
        obtain ⟨oks2, hn2, hil⟩ := opts_ok okp oks o (List.mem_of_getElem? ho)
        have hmv := idx_mv (n := o.2.1) hil
        have hgA : CodeAt HA c p := hg.nk ((s7.trans s7A).nk hd)
        obtain ⟨kvs', md', kvm', v', zs', r1, r2, r3, r4, r5, r6⟩ := hgA.moves hn2
        obtain ⟨a3, hc3, hm3⟩ := mvs_at r6 hmv
        obtain ⟨xs3, hx3, hat3⟩ := mv_tag hm3
        have eDA := sA.keep _ _ hDd e89
        have eA := s7A.keep _ _ hsd e7
        have ecA := s7A.keep _ _ hcd ec7
        have tvA : TD HA v (eSit st) := tv.nk (s7A.nk s7.die)
        obtain ⟨sa, ss, sw, rfl, hsa, tss, tsw⟩ := sit_at tvA
        obtain ⟨sxs, hss, tsx⟩ := TD.tupR tss
        have hsxl : sxs.length = st.sites.length := by rw [tsx.length, List.length_map]
        have fin : ∀ (b1 b2 : Bool) (w13 w14 : Option V), (p.mv o.2).isCall = b1 → over lim st.sites = b2 → ∃ (l' : List Sit) (k' : Nat) (cs' : List Int) (ys' : List V) (v8 v9 v10 v11 v12 v13 v14 : Option V), [some (V.ref d), some (.ref c), some (vO lim), some (.int n), some (.int m), some (.ref chl), some (.ref si), some (.int ((k : Nat) + (if (b1 && b2) then 1 else 0))), some (.int (0 + (i : Nat))), some (.ref D), some (.int at_), some (.ref a1'), some (.ref a2), w13, w14] = [some (.ref d), some (.ref c), some (vO lim), some (.int n), some (.int m), some (.ref chl), some (.ref si), some (.int (k' : Nat)), v8, v9, v10, v11, v12, v13, v14] ∧
            SB d H (upd (upd HA chl (.lst (cs.map V.int ++ [.int at_]))) si (.lst (ys ++ [.ref a1']))) ∧ upd (upd HA chl (.lst (cs.map V.int ++ [.int at_]))) si (.lst (ys ++ [.ref a1'])) si = some (.lst ys') ∧ upd (upd HA chl (.lst (cs.map V.int ++ [.int at_]))) si (.lst (ys ++ [.ref a1'])) chl = some (.lst (cs'.map V.int)) ∧
            TDs (upd (upd HA chl (.lst (cs.map V.int ++ [.int at_]))) si (.lst (ys ++ [.ref a1']))) ys' (l'.map eSit) ∧ wentF p lim m cs' = some (l', k') ∧ cs'.length ≤ i + 1 ∧ ∀ x ∈ cs', 0 ≤ x := fun b1 b2 w13 w14 hb1 hb2 => by
          have e1 := nk_upd (ys := cs.map V.int ++ [V.int at_]) ecA
          have eA' : upd HA chl (.lst (cs.map V.int ++ [V.int at_])) si = some (.lst ys) := by
            rw [upd_ne hsc]
            exact eA
          have e2 := nk_upd (ys := ys ++ [V.ref a1']) eA'
          refine ⟨l ++ [o.1], k + refu p lim st.sites o.2, cs ++ [at_], ys ++ [V.ref a1'], some (.int (0 + (i : Nat))), some (.ref D), some (.int at_), some (.ref a1'), some (.ref a2), w13, w14, ?_, ⟨?_, fun b u nb e => ?_⟩, upd_same, ?_, ?_, ?_, ?_, fun x hx => ?_⟩
          · unfold refu
            rw [hb1, hb2]
            cases b1 <;> cases b2 <;> rfl
          · obtain ⟨x, y, z, e⟩ := (s7.trans s7A).die
            exact ⟨x, y, z, by rw [upd_ne hsd.symm, upd_ne hcd.symm]; exact e⟩
          · rw [upd_ne (ne_of_none e hsi0), upd_ne (ne_of_none e hch0)]
            exact (s7.trans s7A).keep _ _ nb e
          · rw [upd_ne hsc.symm, upd_same, List.map_append]
            rfl
          · rw [List.map_append]
            exact TDs.nk (e1.trans e2) ((t7.nk (s7A.nk s7.die)).append (.cons ta1 .nil))
          · refine went_go hw ?_
            rw [hlast]
            unfold stepN
            rw [if_pos a0, ho]
            rfl
          · rw [List.length_append]
            exact Nat.add_le_add_right hcl 1
          · rcases List.mem_append.mp hx with h | h
            · exact hpos x h
            · rw [List.mem_singleton.mp h]
              exact a0
        row_cond zz
        refine p_xL eDA hatu ?_
        row_cond zz
        refine p_xT r5 (atI_nat hc3) ?_
        row_cond zz
        refine p_xT hx3 hat3 (p_qS ?_)
        rw [tag_call]
        cases lim with
        | none =>
          dsimp only [vO]
          generalize hcall : (p.mv (o.snd.fst, o.snd.snd)).isCall = bc
          row_cond zz
          cases bc with
          | true =>
            row_cond zz
            refine ⟨tyL ecA, ?_⟩
            row_cond zz
            refine p_append ecA (by rw [List.length_map]; omega) ?_
            have eA2 : upd HA chl (.lst (cs.map V.int ++ [V.int at_])) si = some (.lst ys) := by
              rw [upd_ne hsc]
              exact eA
            row_cond zz
            refine ⟨tyL eA2, ?_⟩
            row_cond zz
            refine p_append eA2 (by omega) ?_
            exact fin true false _ _ hcall rfl
          | false =>
            row_cond zz
            refine ⟨tyL ecA, ?_⟩
            row_cond zz
            refine p_append ecA (by rw [List.length_map]; omega) ?_
            have eA2 : upd HA chl (.lst (cs.map V.int ++ [V.int at_])) si = some (.lst ys) := by
              rw [upd_ne hsc]
              exact eA
            row_cond zz
            refine ⟨tyL eA2, ?_⟩
            row_cond zz
            refine p_append eA2 (by omega) ?_
            exact fin false false _ _ hcall rfl
        | some kk =>
          dsimp only [vO]
          generalize hcall : (p.mv (o.snd.fst, o.snd.snd)).isCall = bc
          row_cond zz
          refine p_xL eA hat ?_
          row_cond zz
          have hov : over (some kk) st.sites = decide (kk ≤ ((sxs.length : Nat) : Int)) := by
            rw [hsxl]
            rfl
          cases bc with
          | true =>
            row_cond zz
            refine ⟨tyL ecA, ?_⟩
            row_cond zz
            refine p_append ecA (by rw [List.length_map]; omega) ?_
            have eA2 : upd HA chl (.lst (cs.map V.int ++ [V.int at_])) si = some (.lst ys) := by
              rw [upd_ne hsc]
              exact eA
            row_cond zz
            refine ⟨tyL eA2, ?_⟩
            row_cond zz
            refine p_append eA2 (by omega) ?_
            exact fin true _ _ _ hcall hov
          | false =>
            row_cond zz
            refine ⟨tyL ecA, ?_⟩
            row_cond zz
            refine p_append ecA (by rw [List.length_map]; omega) ?_
            have eA2 : upd HA chl (.lst (cs.map V.int ++ [V.int at_])) si = some (.lst ys) := by
              rw [upd_ne hsc]
              exact eA
            row_cond zz
            refine ⟨tyL eA2, ?_⟩
            row_cond zz
            refine p_append eA2 (by omega) ?_
            exact fin false _ _ _ hcall hov
    · obtain ⟨l, k, cs, ys, v8, v9, v10, v11, v12, v13, v14, rfl, s7, e7, ec7, t7, hw, hcl, hpos⟩ := hp
      row_cond zz
      refine p_tupL ec7 fun ch H8 hch s8 e8 => ?_
      row_cond zz
      refine p_lst (Nat.le_of_ble_eq_true rfl) fun r H9 hr9 s9 e9 => ?_
      exact hq H9 r m cs l k ch si (s7.same (s8.trans s9)) e9 (Kx.Same.get s9 e8) ⟨ys, Kx.Same.get (s8.trans s9) e7, t7.sm (s8.trans s9)⟩ hsd hm (by omega) hpos hw
end
end Kx

/- part K24 -/
/-! # K24: what is met -/
namespace Kx
open PySem PySem.Spec PyProof.Rows L2
/-- met: try: return a() / except the one: return .. / except the other: return .. -/
def TMet (K : PySem.W.Frag) (C1 C2 : Addr) (r1 r2 : Str) : (XK → Hp → VK → Prop) → Hp → VK → Prop := fun tl H Q =>
  tl (fun cls _ H' => ∃ b, PySem.W.exmOne K cls (.ref C1) = some b ∧ (b = true → Q (.str r1) H') ∧ (b = false → ∃ b2, PySem.W.exmOne K cls (.ref C2) = some b2 ∧ (b2 = true → Q (.str r2) H') ∧ (b2 = false → False))) H Q
theorem met_gives {X : Cx} {Ng : List Str} {x a e1 e2 q r1 r2 : Str} {sg : Scope} {g C1 C2 : Addr} {cdg : Value} {j1 j2 : Nat} {p1 p2 p3 p4 p5 p6 p7 p8 p9 pA pB pC : Pos} (hg1 : sg.names.lookup e1 = some .globalImplicit) (hm1 : X.mg e1 = some (.ref C1)) (hd1 : (e1 == ("__debug__" : Str)) = false) (hg2 : sg.names.lookup e2 = some .globalImplicit) (hm2 : X.mg e2 = some (.ref C2)) (hd2 : (e2 == ("__debug__" : Str)) = false)
    (h0 : ∀ f : Addr, (L2.start Ng [V.ref f])[0]? = some (some (V.ref f))) :
    LamX.GivesTo X Ng x sg g cdg [.Try [.Return (some (.Call (.Name a p1) [] [] p2)) p3] [.ExceptHandler (some (.Name e1 p4)) none [.Return (some (.Constant (.str r1) j1 p5)) p6] p7, .ExceptHandler (some (.Name e2 p8)) none [.Return (some (.Constant (.str r2) j2 p9)) pA] pB] [] [] pC] a q (TMet X.K C1 C2 r1 r2) := by
  intro f c' s H Q tl act hc h
  have hgl1 : Gl (cxOf C8.CX0 X.prog X.w X.K X.mg X.base Ng x sg g cdg X.A X.stack s H C8.E0).nox e1 := hg1
  have hgl2 : Gl (cxOf C8.CX0 X.prog X.w X.K X.mg X.base Ng x sg g cdg X.A X.stack s H C8.E0).nox e2 := hg2
  refine ⟨_, pss_one (ps_try_many (X := (cxOf C8.CX0 X.prog X.w X.K X.mg X.base Ng x sg g cdg X.A X.stack s H C8.E0).nox)
      (tb := fun W D σ H => ∃ Ech : XK, (∀ cls d σ' H', Ech cls d H' → W cls d σ' H') ∧ σ[0]? = some (some (.ref f)) ∧ H c' = some (LamX.CodeO c' q) ∧ tl Ech H D.rt)
      rfl rfl takes_none5 (fun W pn xe tk _ => ?_) (.cons (c := .ref C1) (ts := fun _ _ _ => tRet (tC (.str r1))) ⟨hgl1, hd1, .inl hm1⟩ (fun a oe cls d pn _ _ => pss_one (ps_ret pe_str)) (.cons (c := .ref C2) (ts := fun _ _ _ => tRet (tC (.str r2))) ⟨hgl2, hd2, .inl hm2⟩ (fun a oe cls d pn _ _ => pss_one (ps_ret pe_str)) .nil))), ?_⟩
  · refine ⟨fun pins s' σ H' D I h' => ?_⟩
    obtain ⟨Ech, hW, h1, h2, h3⟩ := h'
    have hp := act W pn xe Ech p1 p2 tk hW
    have hq := pss_one (ps_ret (pos := p3) hp)
    exact hq.run pins s' σ H' D I ⟨h1, h2, h3⟩
  · refine ⟨fun cls _ H' => ∃ b, PySem.W.exmOne X.K cls (.ref C1) = some b ∧ (b = true → Q (.str r1) H') ∧ (b = false → ∃ b2, PySem.W.exmOne X.K cls (.ref C2) = some b2 ∧ (b2 = true → Q (.str r2) H') ∧ (b2 = false → False)), fun cls d σ' H' ⟨b, e1, e2, e3⟩ => ⟨b, e1, fun hb a _ => e2 hb, fun hb => ?_⟩, h0 f, hc, h⟩
    obtain ⟨b2, f1, f2, f3⟩ := e3 hb
    exact ⟨b2, f1, fun hb a _ => f2 hb, fun hb => f3 hb⟩
end Kx

/- part K25 -/
/-! # K25: right -/
namespace Kx
open PySem PySem.Spec PyProof.Rows L2
theorem k_max {X : Cx} {K : PySem.W.Frag} (h : X.K = K) (hc : X.calm = true) : CallR X (.builtin "max") (rMax K) := by
  subst h
  exact cr_max hc
section
variable {P : Program} {w : World} {K : PySem.W.Frag} {mg : Str → Option Value} {base : Heap}
/-- a def that lets no exception out, its code object told -/
theorem cal_ofC {x : Str} {st : Stmt} {N ps : List Str} {k : Nat} {sp : Sp} (T : Txt K mg) (i : Nat) (hi : dfs[i]? = some (x, st)) (S : FnScope N ps (defScope st))
    (hb : ∀ (kV doc pm : Value) (an : Option Addr) (cdv ct : Value) (us : List Value), us.length = ps.length → bindArgs (PySem.W.fnOf x x (defArgs st) (defBody st) (defScope st) .none kV doc pm an cdv ct) ⟨us, []⟩ = pure (ps.zip us))
    (len : ∀ vs H Q E, sp vs H Q E → vs.length = ps.length)
    (hbody : ∀ (f : Addr) (cdv : Value) (A : Around) (outer : List Env) (s : Shared) (H : Hp) (vs : List V) (Q : VK) (E : XK), cdv = .ref (He.codeOf K (x, none)) → Room k (A.deeper (envOfC x (defScope st) s.heap.objs.size f cdv)) → sp vs H Q E →
      ∃ t, PSs (cxOf C8.CX0 P w K mg base N x (defScope st) f cdv A outer s H E).nox (defBody st) t ∧ t { nx := fun _ H' => Q .non H', rt := Q } (start N vs) H) : Cal P w K mg base (k + 1) x sp := by
  obtain ⟨⟨fd, F⟩, g⟩ := T.fn i x st hi
  have b := F.binds (ps := ps) hb
  have kp := F.kp
  obtain ⟨oc, od, kV, doc, pm, an, cdv, ct, osl, e, lk, hcd⟩ := F.ex
  refine ⟨_, fd, ps, [], ?_, g, kp, b, .nil⟩
  subst e
  obtain ⟨c, hcc⟩ := He.codeIn_ref hcd
  have hz : cdv = .ref (He.codeOf K (x, none)) := by
    rw [He.codeOf_eq (p := (x, none)) lk hcc]
    exact hcc
  refine fn_of lk hcd S len fun A outer s H vs Q E hr hsp => ?_
  obtain ⟨t, h, q⟩ := hbody _ cdv A outer s H vs Q E hz hr hsp
  exact ⟨t, h.nox, q⟩
/-- .. its function object given -/
theorem fn_ofC {x : Str} {st : Stmt} {N ps : List Str} {k : Nat} {sp : Sp} {fd : FuncData} (F : Fun K x x st (He.ga K x) fd) (S : FnScope N ps (defScope st))
    (len : ∀ vs H Q E, sp vs H Q E → vs.length = ps.length)
    (hbody : ∀ (f : Addr) (cdv : Value) (A : Around) (outer : List Env) (s : Shared) (H : Hp) (vs : List V) (Q : VK) (E : XK), cdv = .ref (He.codeOf K (x, none)) → Room k (A.deeper (envOfC x (defScope st) s.heap.objs.size f cdv)) → sp vs H Q E →
      ∃ t, PSs (cxOf C8.CX0 P w K mg base N x (defScope st) f cdv A outer s H E).nox (defBody st) t ∧ t { nx := fun _ H' => Q .non H', rt := Q } (start N vs) H) : FnOk P w K mg base C8.CX0 (k + 1) (He.ga K x) fd ps sp := by
  obtain ⟨oc, od, kV, doc, pm, an, cdv, ct, osl, e, lk, hcd⟩ := F.ex
  subst e
  obtain ⟨c, hcc⟩ := He.codeIn_ref hcd
  have hz : cdv = .ref (He.codeOf K (x, none)) := by
    rw [He.codeOf_eq (p := (x, none)) lk hcc]
    exact hcc
  refine fn_of lk hcd S len fun A outer s H vs Q E hr hsp => ?_
  obtain ⟨t, h, q⟩ := hbody _ cdv A outer s H vs Q E hz hr hsp
  exact ⟨t, h.nox, q⟩
end
/-! ### heaps, tables of code objects -/
structure XD (tabs : List (Addr × Str)) (d : Addr) (H H' : Hp) : Prop where
  die : Die H' d
  keep : ∀ b o, b ≠ d → H b = some o → (∀ ps, o ≠ .tbl ps) → H' b = some o
  tb : LamX.Tabs tabs H'
section
variable {tabs : List (Addr × Str)} {d : Addr} {H H1 H2 : Hp}
theorem tabs_sb (D : Die H d) (t : LamX.Tabs tabs H) (s : SB d H H1) : LamX.Tabs tabs H1 := fun p hp => by
  obtain ⟨ps, h1, h2, h3⟩ := t p hp
  obtain ⟨x, y, z, hd⟩ := D
  have n : ∀ (a : Addr) (o : HO), H a = some o → (∀ l, o ≠ .lst l) → a ≠ d := fun a o e q z => by
    rw [z, hd] at e
    exact q _ (Option.some.inj e).symm
  refine ⟨ps, s.keep _ _ (n _ _ h1 (fun l z => by cases z)) h1, h2, fun pos cv hc => ?_⟩
  obtain ⟨c, e1, e2⟩ := h3 pos cv hc
  exact ⟨c, e1, s.keep _ _ (n _ _ e2 (fun l z => by unfold LamX.CodeO at z; cases z)) e2⟩
theorem XD.of_sb (D : Die H d) (t : LamX.Tabs tabs H) (s : SB d H H1) : XD tabs d H H1 := ⟨s.die, fun b o n e _ => s.keep b o n e, tabs_sb D t s⟩
theorem XD.trans (a : XD tabs d H H1) (b : XD tabs d H1 H2) : XD tabs d H H2 := ⟨b.die, fun c o n e q => b.keep c o n (a.keep c o n e q) q, b.tb⟩
theorem XD.sb (a : XD tabs d H H1) (b : SB d H1 H2) : XD tabs d H H2 := a.trans (.of_sb a.die a.tb b)
theorem XD.sm (a : XD tabs d H H1) (b : Same H1 H2) : XD tabs d H H2 := a.sb (SB.of_same a.die b)
theorem XD.ex (D : Die H d) (e : LamX.ExtN H H1) (t : LamX.Tabs tabs H1) : XD tabs d H H1 := by
  refine ⟨?_, fun b o _ h n => e b o h n, t⟩
  obtain ⟨x, y, z, hd⟩ := D
  exact ⟨x, y, z, e _ _ hd fun ps z => by cases z⟩
theorem XD.nk (a : XD tabs d H H1) (D : Die H d) : NK H H1 := fun b o n e => a.keep b o (D.ne e n) e fun ps z => by
  subst z
  cases n
theorem XD.lst {a : Addr} {xs : List V} (x : XD tabs d H H1) (n : a ≠ d) (e : H a = some (.lst xs)) : H1 a = some (.lst xs) := x.keep a _ n e fun ps z => by cases z
theorem XD.sit {a : Addr} {l : List Sit} (x : XD tabs d H H1) (D : Die H d) (n : a ≠ d) (e : SitL H a l) : SitL H1 a l := by
  obtain ⟨ys, h1, h2⟩ := e
  exact ⟨ys, x.lst n h1, h2.nk (x.nk D)⟩
theorem PlainAt.sm {a : Addr} {p : Prg} (s : Same H H1) (h : PlainAt H a p) : PlainAt H1 a p := by
  obtain ⟨st, rw_, xs, h1, h2, h3, h4⟩ := h
  exact ⟨st, rw_, xs, s _ _ h1, s _ _ h2, s _ _ h3, h4.imp (Same.tk s) fun a o _ e => ⟨trivial, s _ _ e⟩⟩
end
section
variable {K : PySem.W.Frag} {H : Hp} {Q : VK} {a b : Addr} {σ : L2.St} {QS : L2.St → Hp → Prop} {x y z v : V}
theorem p_neB {c e : Bool} (q : Q (.bl (!decide (c = e))) H) : rNeA K (.bl c) (.bl e) H Q := .inl ⟨rfl, by
  have e : decide (V.bl c = V.bl e) = decide (c = e) := by
    rw [Bool.eq_iff_iff]
    simp
  rw [e]
  exact q⟩
theorem p_neS {s t : Str} (q : Q (.bl (!decide (s = t))) H) : rNeA K (.str s) (.str t) H Q := .inl ⟨rfl, by
  have e : decide (V.str s = V.str t) = decide (s = t) := by
    rw [Bool.eq_iff_iff]
    simp
  rw [e]
  exact q⟩
theorem p_neI2 {i j : Int} (q : Q (.bl (!decide (i = j))) H) : rNeA K (.int i) (.int j) H Q := .inl (p_neI q)
/-- the same data, in two tuples -/
theorem p_neT {n : Nat} {ds : List PyData} (h : TD H (.ref a) (.tuple ds)) (h2 : TD H (.ref b) (.tuple ds)) (s : sh n (.tuple ds)) (hn : n ≤ 64) (q : Q (.bl false) H) : rNeA K (.ref a) (.ref b) H Q := by
  refine .inr ⟨_, _, TD.dp _ _ h, TD.dp _ _ h2, sh_ok s hn, sh_ok s hn, ?_⟩
  rw [PySem.SeqAt.eqv_refl _ s.1]
  exact q
theorem p_neL {n : Nat} {ds : List PyData} {xs ys : List V} (h : H a = some (.lst xs)) (t : TDs H xs ds) (h2 : H b = some (.lst ys)) (t2 : TDs H ys ds) (s : sh n (.list ds)) (hn : n ≤ 64) (q : Q (.bl false) H) : rNeA K (.ref a) (.ref b) H Q := by
  refine .inr ⟨.list ds, .list ds, .lst (.inl (.inl h)) (TDs.dp ds _ t), .lst (.inl (.inl h2)) (TDs.dp ds _ t2), sh_ok s hn, sh_ok s hn, ?_⟩
  rw [PySem.SeqAt.eqv_refl _ s.1]
  exact q
theorem z_gl4 {n m l k : Nat} (h : H a = some (.lst [x, y, z, v])) (q : QS ((((σ.set n (some x)).set m (some y)).set l (some z)).set k (some v)) H) : gLst K 4 (gCons (gName n) (gCons (gName m) (gCons (gName l) (gCons (gName k) gNil)))) (.ref a) σ H QS :=
  ⟨a, _, rfl, .inl (.inl h), rfl, x, _, rfl, y, _, rfl, z, _, rfl, v, _, rfl, rfl, q⟩
end
theorem sh_sits {p : Prg} (ok : PrgOk p) {l : List Sit} (h : ∀ st ∈ l, SitOk p st) : sh 4 (.list (l.map eSit)) := sh_lst fun d hd => by
  obtain ⟨st, hst, rfl⟩ := List.mem_map.mp hd
  exact sh_sit ok (h st hst)
theorem sh_sitsT {p : Prg} (ok : PrgOk p) {l : List Sit} (h : ∀ st ∈ l, SitOk p st) : sh 4 (.tuple (l.map eSit)) := sh_tup fun d hd => by
  obtain ⟨st, hst, rfl⟩ := List.mem_map.mp hd
  exact sh_sit ok (h st hst)
theorem limOk_of {i : Int} (h0 : 0 ≤ i) (h1 : i < 10 ^ 40) : limOk (some i) := isBelow_in (Int.le_refl _) ⟨h0, h1⟩
theorem in_lims {x : V} (h : x ∈ [V.non, V.int 3, V.int 2, V.int 1, V.int 0]) : ∃ lim, x = vO lim ∧ limOk lim := by
  simp only [List.mem_cons, List.not_mem_nil, or_false] at h
  rcases h with rfl | rfl | rfl | rfl | rfl
  · exact ⟨none, rfl, rfl⟩
  · exact ⟨some 3, rfl, limOk_of (by decide) (by decide +kernel)⟩
  · exact ⟨some 2, rfl, limOk_of (by decide) (by decide +kernel)⟩
  · exact ⟨some 1, rfl, limOk_of (by decide) (by decide +kernel)⟩
  · exact ⟨some 0, rfl, limOk_of (by decide) (by decide +kernel)⟩
theorem in_oths {x : V} {M : Int} (h0 : 0 ≤ M) (h1 : M ≤ 1000) (h : x ∈ [V.non, V.int 0, V.int 1, V.int 2, V.int 3, V.int M, V.int (M + 1), V.int (10 ^ 30)]) : ∃ lim, x = vO lim ∧ limOk lim ∧ ∀ v, lim = some v → 0 ≤ v := by
  simp only [List.mem_cons, List.not_mem_nil, or_false] at h
  have big : (1001 : Int) < 10 ^ 40 := by decide +kernel
  have big2 : (10 ^ 30 : Int) < 10 ^ 40 := by decide +kernel
  have big3 : (0 : Int) ≤ 10 ^ 30 := by decide +kernel
  have go : ∀ i : Int, 0 ≤ i → i < 10 ^ 40 → ∃ lim, V.int i = vO lim ∧ limOk lim ∧ ∀ v, lim = some v → 0 ≤ v := fun i a b => ⟨some i, rfl, limOk_of a b, fun v e => by cases e; exact a⟩
  rcases h with rfl | rfl | rfl | rfl | rfl | rfl | rfl | rfl
  · exact ⟨none, rfl, rfl, fun v e => by cases e⟩
  · exact go _ (by omega) (by omega)
  · exact go _ (by omega) (by omega)
  · exact go _ (by omega) (by omega)
  · exact go _ (by omega) (by omega)
  · exact go _ (by omega) (by omega)
  · exact go _ (by omega) (by omega)
  · exact go _ big3 big2
theorem in_wrong {H : Hp} {x : V} {a b c e : Addr} {xs : List V} (ha : H a = some (.tup [])) (hb : H b = some (.lst xs)) (hc : H c = some (.dK [])) (he : H e = some (.tup [.int 1]))
    (h : x ∈ [V.int (-1), V.bl true, V.str "0", V.ref a, V.ref b, V.ref c, V.ref e, V.int (-(10 ^ 39))]) : ∃ t, TyN H x t ∧ isLim x = false := by
  simp only [List.mem_cons, List.not_mem_nil, or_false] at h
  rcases h with rfl | rfl | rfl | rfl | rfl | rfl | rfl | rfl
  · exact ⟨_, .int _, by decide +kernel⟩
  · exact ⟨_, .bl _, rfl⟩
  · exact ⟨_, .str _, rfl⟩
  · exact ⟨_, .tup ha, rfl⟩
  · exact ⟨_, .lst hb, rfl⟩
  · exact ⟨_, .dK hc, rfl⟩
  · exact ⟨_, .tup he, rfl⟩
  · exact ⟨_, .int _, by decide +kernel⟩
/-! ### the lambda that asks for a run at a limit -/
section
variable {K : PySem.W.Frag} {mg : Str → Option Value} {tabs : List (Addr × Str)}
abbrev tLamAt (K : PySem.W.Frag) (tabs : List (Addr × Str)) (i : Nat) (tj : TE) : TE := LamX.tLam tabs (TMet K (He.ga K "InvalidLimit") (He.ga K "InvalidOperation") "limit" "operation") (fun E => tMeth (aR K) "at" (spAt K) [] E (tVar i) (tCons tj tNil))
theorem ex_nk {H H' : Hp} (e : LamX.ExtN H H') : NK H H' := fun a o n h => e a o h fun ps z => by
  subst z
  cases n
theorem ex_sm {H H1 H2 : Hp} (e : LamX.ExtN H H1) (s : Same H1 H2) : LamX.ExtN H H2 := fun a o h n => s _ _ (e a o h n)
theorem lam_at0 (T2 : Txr K mg) {i : Nat} {tj : TE} {σ : L2.St} {H : Hp} {Q : VK} {r g si : Addr} {p : Prg} {lim : Option Int} {m : Int} {cs : List Int} {k : Nat} {x : V} (ht : LamX.Tabs tabs H) (hi : σ[i]? = some (some (.ref r))) (hj : ∀ H' Q, Q x H' → tj σ H' Q)
    (okp : PrgOk p) (hg : GAt K H g p) (hr : RunAt K H r g lim m cs si k) (hcl : cs.length ≤ 800) (hm : m ∈ p.starts)
    (h : ((∀ H', LamX.ExtN H H' → LamX.Tabs tabs H' → ∃ t, TyN H' x t) ∧ isLim x = false ∧ ∀ H', LamX.ExtN H H' → LamX.Tabs tabs H' → Q (.str "limit") H') ∨
      ∃ lim', x = vO lim' ∧ limOk lim' ∧ (wentF p lim' m cs = none → ∀ H', LamX.ExtN H H' → LamX.Tabs tabs H' → Q (.str "operation") H') ∧
        ∀ l k', wentF p lim' m cs = some (l, k') → ∀ H' a si', LamX.ExtN H H' → LamX.Tabs tabs H' → RunAt K H' a g lim' m cs si' k' → SitL H' si' l → Q (.ref a) H') :
    tLamAt K tabs i tj σ H Q := by
  refine ⟨ht, fun H1 e1 t1 => ?_⟩
  have nk1 := ex_nk e1
  have hr1 := hr.nk nk1
  obtain ⟨dx, fs, ch, h1, _, _, _, _, _, _, _, h9⟩ := id hr1
  show ∃ v, σ[i]? = some (some v) ∧ _
  refine ⟨_, hi, r, dx, fs, rfl, h1, h9, hj _ _ ?_⟩
  refine ⟨r, g, p, lim, m, cs, si, k, x, rfl, okp, hg.nk nk1, hr1, hcl, hm, ?_⟩
  rcases h with ⟨ht, hx, hq⟩ | ⟨lim', hx, hl, hn, hs⟩
  · obtain ⟨t, ht⟩ := ht _ e1 t1
    exact .inl ⟨t, ht, hx, fun H' s => ⟨true, T2.ell, fun _ => hq _ (ex_sm e1 s) (t1.ext s), fun z => by cases z⟩⟩
  · refine .inr ⟨lim', hx, hl, fun hw H' s => ⟨false, T2.eol, (fun z => by cases z), fun _ => ⟨true, T2.eoo, fun _ => hn hw _ (ex_sm e1 s) (t1.ext s), fun z => by cases z⟩⟩, fun l k' hw H' a si' s hra hsi => hs l k' hw H' a si' (ex_sm e1 s) (t1.ext s) hra hsi⟩
theorem lam_at (T2 : Txr K mg) {i : Nat} {tj : TE} {σ : L2.St} {H : Hp} {Q : VK} {d r g si : Addr} {p : Prg} {lim : Option Int} {m : Int} {cs : List Int} {k : Nat} {x : V} (hd : Die H d) (ht : LamX.Tabs tabs H) (hi : σ[i]? = some (some (.ref r))) (hj : ∀ H' Q, Q x H' → tj σ H' Q)
    (okp : PrgOk p) (hg : GAt K H g p) (hr : RunAt K H r g lim m cs si k) (hcl : cs.length ≤ 800) (hm : m ∈ p.starts)
    (h : ((∀ H', XD tabs d H H' → ∃ t, TyN H' x t) ∧ isLim x = false ∧ ∀ H', XD tabs d H H' → Q (.str "limit") H') ∨
      ∃ lim', x = vO lim' ∧ limOk lim' ∧ (wentF p lim' m cs = none → ∀ H', XD tabs d H H' → Q (.str "operation") H') ∧
        ∀ l k', wentF p lim' m cs = some (l, k') → ∀ H' a si', XD tabs d H H' → RunAt K H' a g lim' m cs si' k' → SitL H' si' l → Q (.ref a) H') :
    tLamAt K tabs i tj σ H Q := by
  refine lam_at0 T2 ht hi hj okp hg hr hcl hm ?_
  rcases h with ⟨ht, hx, hq⟩ | ⟨lim', hx, hl, hn, hs⟩
  · exact .inl ⟨fun H' e t => ht _ (.ex hd e t), hx, fun H' e t => hq _ (.ex hd e t)⟩
  · exact .inr ⟨lim', hx, hl, fun hw H' e t => hn hw _ (.ex hd e t), fun l k' hw H' a si' e t => hs l k' hw H' a si' (.ex hd e t)⟩
end
end Kx

/- part K26 -/
/-! # K26: right, walked -/
namespace Kx
open PySem PySem.Spec PyProof.Rows L2
local macro_rules
  | `(tactic| row_cond hp) => `(tactic| first
    | assumption
    | exact upd_same
    | (refine Kx.Same.get (by assumption) ?_; row_cond hp)
    | (refine Kx.SB.get (by assumption) (by assumption) ?_ rfl; row_cond hp)
    | (refine Kx.SB.getL (by assumption) (by assumption) ?_; row_cond hp))
local macro_rules
  | `(tactic| row_cond zs) => `(tactic| first
    | ((with_reducible refine Kx.z_var (v := ?zval) ?zv ?zq); (case zv => rfl))
    | with_reducible refine Kx.z_c ?_
    | with_reducible refine Kx.z_cons ?_
    | with_reducible refine Kx.z_nil ?_
    | with_reducible refine Kx.z_op ?_
    | with_reducible refine Kx.z_cB ?_
    | with_reducible refine Kx.z_call ?_
    | with_reducible refine Kx.z_fld ?_
    | with_reducible refine Kx.z_tup ?_
    | with_reducible refine Kx.z_lst ?_
    | with_reducible refine Kx.z_test ?_
    | with_reducible refine Kx.z_tB ?_
    | with_reducible refine Kx.p_bl ?_
    | with_reducible refine Kx.z_iteT ?_
    | with_reducible refine Kx.z_iteF ?_
    | with_reducible refine Kx.z_seq ?_
    | with_reducible refine Kx.z_ret ?_
    | with_reducible refine Kx.z_set ?_
    | with_reducible refine Kx.z_drop ?_
    | with_reducible refine Kx.z_if ?_
    | with_reducible refine Kx.z_next ?_
    | with_reducible refine Kx.z_and ?_
    | with_reducible refine Kx.z_or ?_
    | with_reducible refine Kx.z_not ?_
    | with_reducible refine Kx.z_andV ?_
    | with_reducible refine Kx.z_orV ?_
    | with_reducible refine Kx.z_notV ?_
    | with_reducible refine Kx.z_ifE ?_
    | with_reducible refine Kx.z_chain ?_
    | with_reducible refine Kx.z_dget ?_
    | with_reducible refine Kx.z_un ?_
    | with_reducible refine Kx.z_asg ?_
    | with_reducible refine Kx.z_retN ?_
    | with_reducible refine Kx.z_iteNT ?_
    | with_reducible refine Kx.z_iteNF ?_
    | with_reducible refine Kx.p_add ?_
    | with_reducible refine Kx.p_sub ?_
    | with_reducible refine Kx.p_lt ?_
    | with_reducible refine Kx.p_le ?_
    | with_reducible refine Kx.p_gt ?_
    | with_reducible refine Kx.p_ge ?_
    | with_reducible refine Kx.p_neg ?_
    | with_reducible refine Kx.p_eqI ?_
    | with_reducible refine Kx.p_eqS ?_
    | with_reducible refine Kx.p_neI ?_
    | with_reducible refine Kx.p_eqNN ?_
    | with_reducible refine Kx.p_isN ?_
    | with_reducible refine Kx.p_isNi ?_
    | with_reducible refine Kx.p_isNr ?_
    | with_reducible refine Kx.p_notN ?_
    | with_reducible refine Kx.p_notNi ?_
    | with_reducible refine Kx.p_notNr ?_
    | with_reducible refine Kx.p_intI ?_
    | with_reducible refine Kx.p_intB ?_
    | with_reducible refine Kx.p_abs ?_
    | with_reducible refine Kx.p_mx2 ?_
    | with_reducible refine Kx.p_mn2 ?_
    | ((with_reducible refine Kx.p_ixT (xs := ?zxs) (v := ?zval) ?zh ?ze ?zq); (case zh => row_cond hp); (case ze => rfl))
    | ((with_reducible refine Kx.p_ixL (xs := ?zxs) (v := ?zval) ?zh ?ze ?zq); (case zh => row_cond hp); (case ze => rfl))
    | ((with_reducible refine Kx.p_lenT (xs := ?zxs) ?zh ?zq); (case zh => row_cond hp))
    | ((with_reducible refine Kx.p_lenL (xs := ?zxs) ?zh ?zq); (case zh => row_cond hp))
    | ((with_reducible refine Kx.p_xT (xs := ?zxs) (v := ?zval) ?zh ?ze ?zq); (case zh => row_cond hp); (case ze => rfl))
    | ((with_reducible refine Kx.p_xL (xs := ?zxs) (v := ?zval) ?zh ?ze ?zq); (case zh => row_cond hp); (case ze => rfl))
    | with_reducible refine Kx.p_qI ?_
    | with_reducible refine Kx.p_qS ?_
    | with_reducible refine Kx.p_qNI ?_
    | with_reducible refine Kx.p_ltI ?_
    | with_reducible refine Kx.q_int_int ?_
    | with_reducible refine Kx.q_int_bool ?_
    | with_reducible refine Kx.q_int_str ?_
    | with_reducible refine Kx.q_int_tuple ?_
    | with_reducible refine Kx.q_bool_int ?_
    | with_reducible refine Kx.q_bool_bool ?_
    | with_reducible refine Kx.q_bool_str ?_
    | with_reducible refine Kx.q_bool_tuple ?_
    | with_reducible refine Kx.q_str_int ?_
    | with_reducible refine Kx.q_str_bool ?_
    | with_reducible refine Kx.q_str_str ?_
    | with_reducible refine Kx.q_str_tuple ?_
    | with_reducible refine Kx.q_NoneType_int ?_
    | with_reducible refine Kx.q_NoneType_bool ?_
    | with_reducible refine Kx.q_NoneType_str ?_
    | with_reducible refine Kx.q_NoneType_tuple ?_
    | ((with_reducible refine Kx.q_tuple_int (xs := ?zxs) ?zh ?zq); (case zh => row_cond hp))
    | ((with_reducible refine Kx.q_tuple_bool (xs := ?zxs) ?zh ?zq); (case zh => row_cond hp))
    | ((with_reducible refine Kx.q_tuple_str (xs := ?zxs) ?zh ?zq); (case zh => row_cond hp))
    | ((with_reducible refine Kx.q_tuple_tuple (xs := ?zxs) ?zh ?zq); (case zh => row_cond hp))
    | ((with_reducible refine Kx.q_list_int (xs := ?zxs) ?zh ?zq); (case zh => row_cond hp))
    | ((with_reducible refine Kx.q_list_bool (xs := ?zxs) ?zh ?zq); (case zh => row_cond hp))
    | ((with_reducible refine Kx.q_list_str (xs := ?zxs) ?zh ?zq); (case zh => row_cond hp))
    | ((with_reducible refine Kx.q_list_tuple (xs := ?zxs) ?zh ?zq); (case zh => row_cond hp))
    | ((with_reducible refine Kx.q_dict_int (kvs := ?zxs) ?zh ?zq); (case zh => row_cond hp))
    | ((with_reducible refine Kx.q_dict_bool (kvs := ?zxs) ?zh ?zq); (case zh => row_cond hp))
    | ((with_reducible refine Kx.q_dict_str (kvs := ?zxs) ?zh ?zq); (case zh => row_cond hp))
    | ((with_reducible refine Kx.q_dict_tuple (kvs := ?zxs) ?zh ?zq); (case zh => row_cond hp))
    | with_reducible refine Kx.z_gn ?_
    | ((with_reducible refine Kx.z_gt2 (x := ?zx) (y := ?zy) ?zh ?zq); (case zh => row_cond hp))
    | ((with_reducible refine Kx.z_gt3 (x := ?zx) (y := ?zy) (z := ?zz) ?zh ?zq); (case zh => row_cond hp))
    | with_reducible refine Kx.z_lcT ?_
    | with_reducible refine Kx.z_lcL ?_
    | with_reducible refine Kx.z_lcS ?_
    | with_reducible refine Kx.z_lcR ?_
    | with_reducible refine Kx.z_lcZ ?_
    | with_reducible refine Kx.z_yes ?_
    | ((with_reducible refine Kx.z_wip ?zh ?zq); (case zh => rfl))
    | ((with_reducible refine Kx.z_LK ?zh ?zq); (case zh => rfl))
    | with_reducible refine Kx.z_lc2T ?_
    | with_reducible refine Kx.z_lc2L ?_
    | with_reducible refine Kx.z_inT ?_
    | with_reducible refine Kx.z_inL ?_
    | ((with_reducible refine Kx.z_LK2 ?zh ?zq); (case zh => rfl))
    | with_reducible refine Kx.z_sl ?_
    | with_reducible refine Kx.z_nop ?_
    | with_reducible refine Kx.z_part ?_
    | with_reducible refine Kx.z_exi ?_
    | with_reducible refine Kx.p_isNb ?_
    | with_reducible refine Kx.p_isNs ?_
    | with_reducible refine Kx.z_match ?_
    | ((with_reducible refine Kx.z_caseT (y := ?zy) (xs := ?zxs) ?zh ?zl ?zf ?zq); (case zh => row_cond hp); (case zl => rfl); (case zf => rfl))
    | ((with_reducible refine Kx.z_caseL (y := ?zy) (xs := ?zxs) ?zh ?zl ?zq); (case zh => row_cond hp); (case zl => (intro z; cases z)))
    | ((with_reducible refine Kx.z_caseF (y := ?zy) (xs := ?zxs) ?zh ?zf ?zq); (case zh => row_cond hp); (case zf => rfl))
    | with_reducible refine Kx.z_mnil ?_
    | with_reducible refine Kx.z_lcE ?_
    | with_reducible refine Kx.z_forT ?_
    | with_reducible refine Kx.z_forL ?_
    | with_reducible refine Kx.z_forR ?_
    | with_reducible refine Kx.z_forC ?_
    | ((with_reducible refine Kx.p_fP (dx := ?zd) (fs := ?zfs) (v := ?zv) (by assumption) ?zh ?zl ?zf ?zq); (case zh => row_cond hp); (case zl => assumption); (case zf => decide +kernel))
    | ((with_reducible refine Kx.p_fG (dx := ?zd) (fs := ?zfs) (v := ?zv) (by assumption) ?zh ?zl ?zf ?zq); (case zh => row_cond hp); (case zl => assumption); (case zf => decide +kernel))
    | ((with_reducible refine Kx.p_fR (dx := ?zd) (fs := ?zfs) (v := ?zv) (by assumption) ?zh ?zl ?zf ?zq); (case zh => row_cond hp); (case zl => assumption); (case zf => decide +kernel))
    | ((with_reducible refine Kx.p_dgetS (kvs := ?zk) (v := ?zv) ?zh ?ze ?zq); (case zh => row_cond hp); (case ze => assumption))
    | with_reducible refine Kx.z_star ?_
    | ((with_reducible refine Kx.p_star (xs := ?zxs) ?zh ?zq); (case zh => row_cond hp))
    | with_reducible refine Kx.z_bm ?_
    | with_reducible refine Kx.p_ip ?_
    | with_reducible refine Kx.z_lss ?_
    | with_reducible refine Kx.z_dcT ?_
    | with_reducible refine Kx.z_sf ?_
    | with_reducible refine Kx.z_dnew ?_
    | with_reducible refine Kx.z_mk ?_
    | with_reducible refine Kx.z_callS ?_
    | with_reducible refine Kx.z_gsub ?_
    | ((with_reducible refine Kx.p_setL (xs := ?zxs) (k := ?zk) ?zh ?ze ?zq); (case zh => row_cond hp); (case ze => rfl))
    | ((with_reducible refine Kx.p_modP ?zh ?zq); (case zh => first | assumption | decide +kernel))
    | ((with_reducible refine Kx.p_mulR ?zh ?zq); (case zh => first | assumption | decide +kernel))
    | ((with_reducible refine Kx.p_mulL ?zh ?zq); (case zh => first | assumption | decide +kernel))
    | ((with_reducible refine Kx.p_powS ?zh ?zq); (case zh => first | assumption | decide +kernel))
    | ((with_reducible refine Kx.p_powW ?zh ?zq); (case zh => first | assumption | decide +kernel))
    | ((with_reducible refine Kx.p_fdvS ?zh ?zq); (case zh => first | assumption | decide +kernel))
    | with_reducible refine Kx.z_par ?_
    | with_reducible refine Kx.p_par ?_
    | with_reducible refine Kx.z_par3 ?_
    | with_reducible refine Kx.p_par3 ?_
    | ((with_reducible refine Kx.z_gl3 (x := ?zx) (y := ?zy) (z := ?zz) ?zh ?zq); (case zh => row_cond hp))
    | ((with_reducible refine Kx.z_gtG2 (x := ?zx) (y := ?zy) ?zh ?zq); (case zh => row_cond hp))
    | with_reducible refine Kx.z_cm ?_
    | with_reducible refine Kx.p_cm ?_
    | with_reducible refine Kx.z_prs ?_
    | with_reducible refine Kx.z_prn ?_
    | dsimp only)
local macro_rules
  | `(tactic| row_cond zz) => `(tactic| repeat (row_cond zs))

section
variable {P : Program} {w : World} {K : PySem.W.Frag} {mg : Str → Option Value} {base : Heap} {tabs : List (Addr × Str)} {P1 : Addr}
def qLam (x : Str) (st : Stmt) : Str := (envOfC x (defScope st) 0 0 .none).qual ++ "<lambda>"
def spRight (tabs : List (Addr × Str)) : Sp := fun vs H Q _ => ∃ d, vs = [.ref d] ∧ Die H d ∧ LamX.Tabs tabs H ∧ ∀ H', XD tabs d H H' → Q (.bl true) H'
theorem sc__law_met : FnScope ["_law_call"] ["_law_call"] (defScope (top 65)) := ⟨rfl, rfl, rfl, by decide +kernel, rfl, by decide +kernel, by decide +kernel⟩
theorem sc__law_right : FnScope ["_law_die", "_law_plain", "_law_program", "_law_code", "_law_turn", "_law_bound", "_law_start", "_law_choices", "_law_situations", "_law_over", "_law_run", "_law_depth", "_law_other", "_law_told", "_law_due", "_law_is_wide", "_law_wrong", "_law_one"] ["_law_die"] (defScope (top 67)) := ⟨rfl, rfl, rfl, by decide +kernel, rfl, by decide +kernel, by decide +kernel⟩
theorem c__law_right (T2 : Txr K mg) (TB : LamX.TabB base mg (He.codeOf K ("_law_right", none)) P1) (hmT : (P1, qLam "_law_right" (top 67)) ∈ tabs) (hu : ∀ p ∈ tabs, p.1 = P1 → p.2 = qLam "_law_right" (top 67)) :
    Cal P w K mg base 12 "_law_right" (spRight tabs) := by
  have T := T2.t
  obtain ⟨⟨fdM, FM⟩, gMet⟩ := T.fn 34 "_law_met" _ rfl
  have bMet := FM.binds (ps := ["_law_call"]) (fun _ _ _ _ _ _ us hl => match us, hl with | [_], _ => rfl)
  have kMet := FM.kp
  obtain ⟨oc, od, kV, doc, pm, an, cdvM, ct, osl, eM, lkm, hcdm⟩ := FM.ex
  subst eM
  obtain ⟨fdA, FA, bA⟩ := f_Run_at (P := P) (w := w) (base := base) T2
  obtain ⟨fdR, FR, bR⟩ := f_Run_eq (P := P) (w := w) (base := base) T2
  obtain ⟨fdS, FS, bS⟩ := f_situations (P := P) (w := w) (base := base) T2
  obtain ⟨fdF, FRf, bRf⟩ := f_refused (P := P) (w := w) (base := base) T2
  refine cal_ofC T 36 rfl sc__law_right (fun _ _ _ _ _ _ us hl => match us, hl with | [_], _ => rfl) (fun vs H Q E h => ?_) (fun f cdv A outer s H vs Q E hcdv hr h => ?_)
  · obtain ⟨d, rfl, _⟩ := h
    rfl
  · subst hcdv
    obtain ⟨d, rfl, hd, ht, hq⟩ := h
    refine ⟨_, (pss_cons (ps_set (i := 1) sc__law_right.nd rfl (.inl rfl) (C8.pe_c (c__law_any_plain T) hr (by decide) rfl (pa_cons (pv 0) pa_nil)))
      (pss_cons (ps_par (i := 2) (j := 3) rfl sc__law_right.nd rfl rfl (by decide) rfl rfl (pa_cons (C8.pe_c (c__law_made_of T) hr (by decide) rfl (pa_cons (pv 1) pa_nil)) (pa_cons (C8.pe_c (c__law_coded T) hr (by decide) rfl (pa_cons (pv 1) pa_nil)) pa_nil)) rfl)
      (pss_cons (ps_for PassesOwn.never rfl (pi_range1 rfl (T.b "range") (pa_cons pe_int pa_nil)) (pg_name (i := 4) sc__law_right.nd rfl (.inl rfl) (.inr rfl)) (pss_cons (ps_set (i := 5) sc__law_right.nd rfl (.inl rfl) (C8.pe_c (c__law_pick T) hr (by decide) rfl (pa_cons (pv 0) (pa_cons (pe_lst (pa_cons pe_non (pa_cons pe_int (pa_cons pe_int (pa_cons pe_int (pa_cons pe_int pa_nil)))))) pa_nil))))
      (pss_cons (ps_asg (C8.pe_c (c__law_walked T) hr (by decide) rfl (pa_cons (pv 0) (pa_cons (pv 3) (pa_cons (pv 5) (pa_cons (pe_op o_add pe_int (C8.pe_c (c__law_cast T) hr (by decide) rfl (pa_cons (pv 0) (pa_cons pe_int pa_nil)))) pa_nil))))) (k_gl (K := K) (n := 4) rfl rfl (pgs_cons (pg_name (i := 6) sc__law_right.nd rfl (.inl rfl) (.inr rfl)) (pgs_cons (pg_name (i := 7) sc__law_right.nd rfl (.inl rfl) (.inr rfl)) (pgs_cons (pg_name (i := 8) sc__law_right.nd rfl (.inl rfl) (.inr rfl)) (pgs_cons (pg_name (i := 9) sc__law_right.nd rfl (.inl rfl) (.inr rfl)) pgs_nil))))))
      (pss_cons (ps_asg (pe_tup (pa_cons (ClX.pe_cmeth (C8.pe_gc rfl (v := .ref (aR K)) ⟨_, T.cR.g, rfl⟩) T.cR.rd T.cR.cm (f_Run_of T) (hr.mono (by decide)) pass0 (pa_cons (pv 2) (pa_cons (pv 5) (pa_cons (pv 6) (pa_cons (pv 7) pa_nil))))) (pa_cons (pe_callB (k_max (K := K) rfl rfl) rfl (T.b "max") boot_max (pa_cons (pe_lc rfl sc__law_right.nd (k_lst (K := K) rfl (pv 8)) (blkOk_by (own := [(("_law_one" : Str), 17)]) (by kernel_rfl)) (fun _ _ _ _ _ => (pg_name (i := 17) sc__law_right.nd rfl (.inl rfl) (.inr rfl))) (fun _ _ _ _ _ => pts_nil) (fun _ _ _ _ _ => (pe_callB (k_len (K := K) rfl) rfl (T.b "len") boot_len (pa_cons (k_ix (K := K) rfl (pv 17) pe_int (fun _ _ => rfl)) pa_nil)))) pa_nil)) pa_nil))) (k_gt (K := K) (n := 2) rfl rfl (pgs_cons (pg_name (i := 10) sc__law_right.nd rfl (.inr rfl) (.inl rfl)) (pgs_cons (pg_name (i := 11) sc__law_right.nd rfl (.inl rfl) (.inr rfl)) pgs_nil))))
      (pss_cons (ps_for PassesOwn.never rfl (k_lst (K := K) rfl (pe_lst (pa_cons pe_non (pa_cons pe_int (pa_cons pe_int (pa_cons pe_int (pa_cons pe_int (pa_cons (pv 11) (pa_cons (pe_op o_add (pv 11) pe_int) (pa_cons (pe_op o_pow pe_int pe_int) pa_nil)))))))))) (pg_name (i := 12) sc__law_right.nd rfl (.inr rfl) (.inl rfl)) (pss_cons (ps_par (i := 13) (j := 14) rfl sc__law_right.nd rfl rfl (by decide) rfl rfl (pa_cons (LamX.pe_lamcall (T := tabs) (Ng := ["_law_call"]) (k := 9) (t := fun E => tMeth (aR K) "at" (spAt K) [] E (tVar 10) (tCons (tVar 12) tNil)) rfl gMet kMet lkm hcdm bMet sc__law_met rfl (.inl rfl) (met_gives (e1 := "InvalidLimit") (e2 := "InvalidOperation") rfl T2.xl.g (by decide) rfl T2.xo.g (by decide) (fun _ => rfl)) TB rfl hmT hu (hr.mono (by decide)) (LamX.lamS_by (by kernel_rfl)) rfl (fun _ _ _ _ _ => rfl) (fun A outer s H E f c' hr2 => pe_meth (pv 10) T.cR.cl T2.rat FA hr2 bA .nil (passes_call (takes_of rfl rfl rfl rfl) (fun _ _ _ _ h => h)) (pa_cons (pv 12) pa_nil))) (pa_cons (C8.pe_c (c__law_gone T) hr (by decide) rfl (pa_cons (pv 3) (pa_cons (pv 12) (pa_cons (pv 6) (pa_cons (pv 7) pa_nil))))) pa_nil)) rfl)
      (pss_cons (ps_if (pt_cmpR (k_neA (K := K) rfl hr.units) (pe_cmpR (OpR.or op_eq (op_own T2.eR FR bR (hr.mono (by decide)))) (pv 13) pe_str (nomark _)) (pe_cmpR o_isN (pv 14) pe_non (nomark _)) (nomark _)) (pss_one (ps_ret pe_bl)) pss_nil)
      (pss_cons (ps_if (PW.pt (pw_and (pt_cmpR o_notN (pv 14) pe_non (nomark _)) (pw_and1 (pt_cmpR (k_neA (K := K) rfl hr.units) (pe_prop (pv 13) T.cR.cl T2.psits.po FS (hr.mono (by decide)) bS .nil pass0 rfl) (pe_callTy (k_ctup (K := K) rfl) rfl (T.b "tuple") boot_tuple (pa_cons (pv 14) pa_nil)) (nomark _))))) (pss_one (ps_ret pe_bl)) pss_nil)
      (pss_cons (ps_if (PW.pt (pw_and (pt_cmpR o_notN (pv 14) pe_non (nomark _)) (pw_and1 (pt_cmpR (op_ownNe T2.eR FR bR (hr.mono (by decide))) (pv 13) (ClX.pe_cmeth (C8.pe_gc rfl (v := .ref (aR K)) ⟨_, T.cR.g, rfl⟩) T.cR.rd T.cR.cm (f_Run_of T) (hr.mono (by decide)) pass0 (pa_cons (pv 2) (pa_cons (pv 12) (pa_cons (pv 6) (pa_cons (pv 7) pa_nil))))) (nomark _))))) (pss_one (ps_ret pe_bl)) pss_nil)
      (pss_cons (ps_set (i := 15) sc__law_right.nd rfl (.inl rfl) (pe_or (pe_cmpR o_isN (pv 12) pe_non (nomark _)) (pe_one (pe_cmpR o_ge (pv 12) (pv 11) (nomark _)))))
      (pss_cons (ps_if (PW.pt (pw_and (pt_cmpR (k_eqA (K := K) rfl hr.units) (pv 9) pe_int (nomark _)) (pw_and (pt_val (pv 15)) (pw_and1 (PW.pt (pw_or (pt_cmpR (k_neA (K := K) rfl hr.units) (pv 14) (pv 8) (nomark _)) (pw_or1 (pt_cmpR (k_neA (K := K) rfl hr.units) (pe_prop (pv 13) T.cR.cl T2.pref.po FRf (hr.mono (by decide)) bRf .nil pass0 rfl) pe_int (nomark _))))))))) (pss_one (ps_ret pe_bl)) pss_nil)
      (pss_one (ps_if (PW.pt (pw_and (pt_cmpR (k_eqA (K := K) rfl hr.units) (pv 9) pe_int (nomark _)) (pw_and (pt_not (pt_val (pv 15))) (pw_and (pt_cmpR o_notN (pv 14) pe_non (nomark _)) (pw_and1 (pt_cmpR (k_eqA (K := K) rfl hr.units) (pe_prop (pv 13) T.cR.cl T2.pref.po FRf (hr.mono (by decide)) bRf .nil pass0 rfl) pe_int (nomark _))))))) (pss_one (ps_ret pe_bl)) pss_nil)))))))))
      (pss_cons (ps_set (i := 16) sc__law_right.nd rfl (.inr rfl) (C8.pe_c (c__law_pick T) hr (by decide) rfl (pa_cons (pv 0) (pa_cons (pe_lst (pa_cons (pe_un o_neg pe_int) (pa_cons pe_bl (pa_cons pe_str (pa_cons (pe_tup pa_nil) (pa_cons (pe_lst (pa_cons pe_int pa_nil)) (pa_cons pe_dnewK (pa_cons (pe_tup (pa_cons pe_int pa_nil)) (pa_cons (pe_un o_neg (pe_op o_pow pe_int pe_int)) pa_nil))))))))) pa_nil))))
      (pss_cons (ps_if (pt_cmpR (k_neA (K := K) rfl hr.units) (LamX.pe_lamcall (T := tabs) (Ng := ["_law_call"]) (k := 9) (t := fun E => tMeth (aR K) "at" (spAt K) [] E (tVar 10) (tCons (tVar 16) tNil)) rfl gMet kMet lkm hcdm bMet sc__law_met rfl (.inl rfl) (met_gives (e1 := "InvalidLimit") (e2 := "InvalidOperation") rfl T2.xl.g (by decide) rfl T2.xo.g (by decide) (fun _ => rfl)) TB rfl hmT hu (hr.mono (by decide)) (LamX.lamS_by (by kernel_rfl)) rfl (fun _ _ _ _ _ => rfl) (fun A outer s H E f c' hr2 => pe_meth (pv 10) T.cR.cl T2.rat FA hr2 bA .nil (passes_call (takes_of rfl rfl rfl rfl) (fun _ _ _ _ h => h)) (pa_cons (pv 16) pa_nil))) pe_str (nomark _)) (pss_one (ps_ret pe_bl)) pss_nil)
      (pss_one (ps_if (pt_cmpR (op_ownNe T2.eR FR bR (hr.mono (by decide))) (pv 10) (ClX.pe_cmeth (C8.pe_gc rfl (v := .ref (aR K)) ⟨_, T.cR.g, rfl⟩) T.cR.rd T.cR.cm (f_Run_of T) (hr.mono (by decide)) pass0 (pa_cons (pv 2) (pa_cons (pv 5) (pa_cons (pv 6) (pa_cons (pv 7) pa_nil))))) (nomark _)) (pss_one (ps_ret pe_bl)) pss_nil)))))))))
      (pss_one (ps_ret pe_bl))))), ?_⟩
    row_cond zz
    refine ⟨d, rfl, hd, fun H1 a p s1 hpl okp => ?_⟩
    row_cond zz
    refine ⟨a, p, rfl, hpl, okp, fun H2 g s2 hg => ?_⟩
    row_cond zz
    refine ⟨a, p, rfl, hpl.sm s2, okp, fun H3 c s3 hc => ?_⟩
    have x3 : XD tabs d H H3 := ((XD.of_sb hd ht s1).sm s2).sm s3
    have hg3 := hg.nk (Kx.Same.nk s3)
    row_cond zz
    refine p_forR (fun i σ H' => ∃ v4 v5 v6 v7 v8 v9 v10 v11 v12 v13 v14 v15 v16 v17, σ = [some (.ref d), some (.ref a), some (.ref g), some (.ref c), v4, v5, v6, v7, v8, v9, v10, v11, v12, v13, v14, v15, v16, v17] ∧ XD tabs d H H' ∧ NK H3 H') (by decide) (by decide)
      ⟨_, _, _, _, _, _, _, _, _, _, _, _, _, _, rfl, x3, NK.refl⟩ (fun i σ H4 hi hp => ?_) (fun σ H4 hp => ?_)
    · obtain ⟨v4, v5, v6, v7, v8, v9, v10, v11, v12, v13, v14, v15, v16, v17, rfl, x4, nk4⟩ := hp
      row_cond zz
      refine p_lst (Nat.le_of_ble_eq_true rfl) fun l5 H5 hl5 s5 e5 => ?_
      row_cond zz
      refine ⟨d, l5, _, rfl, x4.die.same s5, x4.die.ne0 hl5, .inl e5, by simp, Nat.le_of_ble_eq_true rfl, fun H6 x s6 hx => ?_⟩
      obtain ⟨lim, rfl, hlim⟩ := in_lims hx
      row_cond zz
      refine ⟨d, 20, rfl, s6.die, by decide, by decide, fun H7 r s7 r0 r1 => ?_⟩
      have x7 : XD tabs d H H7 := ((x4.sm s5).sb s6).sb s7
      have nk7 : NK H3 H7 := nk4.trans ((Kx.Same.nk s5).trans ((s6.nk (x4.die.same s5)).trans (s7.nk s6.die)))
      have hc7 := hc.nk nk7
      row_cond zz
      refine ⟨d, c, p, lim, 1 + r, rfl, s7.die, okp, hc7, by omega, by omega, fun H8 wr m cs l k ch si s8 hwr hch hsi hsd hm hcl hpos hw => ?_⟩
      have x8 : XD tabs d H H8 := x7.sb s8
      have nk8 : NK H3 H8 := nk7.trans (s8.nk s7.die)
      row_cond zz
      refine z_gl4 hwr ?_
      row_cond zz
      refine ⟨g, lim, m, ch, cs, p, l, k, rfl, okp, (hg3.nk nk8).1, hch, by omega, hm, hlim, hw, fun H9 ru si1 s9 hru hs1 => ?_⟩
      have x9 : XD tabs d H H9 := x8.sm s9
      obtain ⟨zs, hzs, tzs⟩ := hsi.sm s9
      have hll := went_length _ l k hw
      have hzl : zs.length = l.length := by rw [tzs.length, List.length_map]
      row_cond zz
      refine p_lcL Same (fun k acc H => acc = ((l.map fun st => (st.sites.length : Int)).take k).map V.int) (fun i acc H H' nk h => h) okS hzs (fun H' s => Kx.Same.get s hzs) (by omega) rfl (fun k x acc H10 hx hk s10 tacc => ?_) (fun D H10 os hD s10 e10 tacc => ?_)
      · intro D Nx put skip
        obtain ⟨dd, hdd, td⟩ := tzs.get hx
        rw [List.getElem?_map] at hdd
        obtain ⟨st, hst, rfl⟩ := Option.map_eq_some_iff.mp hdd
        obtain ⟨sa, ss, sw, rfl, hsa, tss, tsw⟩ := sit_at (TD.sm s10 td)
        obtain ⟨b, ws, hb, hws, tws⟩ := TD.tuple tss
        cases hb
        have hwl : ws.length = st.sites.length := by rw [tws.length, List.length_map]
        row_cond zz
        refine put _ _ (Same.refl _) ?_
        show _ = _
        rw [List.take_succ, List.getElem?_map, hst, List.map_append, tacc, hwl]
        rfl
      · have tacc : os = _ := tacc
        rw [hzl, List.take_of_length_le (by rw [List.length_map]; exact Nat.le_refl _)] at tacc
        subst tacc
        row_cond zz
        refine ⟨D, _, rfl, .inl (.inl e10), by rw [List.length_map]; omega, fun M hM hMax => ?_⟩
        have hM0 : 0 ≤ M := by
          obtain ⟨st, _, rfl⟩ := List.mem_map.mp hM
          omega
        have hM1 : M ≤ 1000 := by
          obtain ⟨st, hst, rfl⟩ := List.mem_map.mp hM
          have := went_len2 _ l k hw st hst
          omega
        row_cond zz
        refine p_tup (Nat.le_of_ble_eq_true rfl) fun q11 H11 hq11 s11 eq11 => ?_
        row_cond zz
        refine p_lst (Nat.le_of_ble_eq_true rfl) fun l12 H12 hl12 s12 e12 => ?_
        have s9c : Same H9 H12 := s10.trans (s11.trans s12)
        have x12 : XD tabs d H H12 := x9.sm s9c
        have x34 : NK H3 H12 := nk8.trans (Kx.Same.nk (s9.trans s9c))
        have hl12d : l12 ≠ d := (x9.sm (s10.trans s11)).die.ne0 hl12
        have hru12 := hru.nk (Kx.Same.nk s9c)
        have hch12 := Kx.Same.get (s9.trans s9c) hch
        have hg12 := hg3.nk x34
        have hc12 := hc.nk x34
        have hsi12 : SitL H12 si l := hsi.sm (s9.trans s9c)
        row_cond zz
        refine p_forL (fun i σ H' => ∃ v4 v12 v13 v14 v15 v16 v17, σ = [some (.ref d), some (.ref a), some (.ref g), some (.ref c), v4, some (vO lim), some (.int m), some (.ref ch), some (.ref si), some (.int (k : Nat)), some (.ref ru), some (.int M), v12, v13, v14, v15, v16, v17] ∧ XD tabs d H12 H') e12
          ⟨_, _, _, _, _, _, _, rfl, .of_sb x12.die x12.tb (.of_same x12.die (Same.refl _))⟩ (fun i σ H' hp => ?_) (fun i x σ H13 hx hil hp => ?_) (fun σ H13 hp => ?_)
        · obtain ⟨_, _, _, _, _, _, _, _, x13⟩ := hp
          exact x13.lst hl12d e12
        · obtain ⟨v4, v12, v13, v14, v15, v16, v17, rfl, x13⟩ := hp
          obtain ⟨lim', rfl, hlim', hpos'⟩ := in_oths hM0 hM1 (List.mem_of_getElem? hx)
          have nk13 : NK H12 H13 := x13.nk x12.die
          have hru13 := hru12.nk nk13
          have hg13 := hg12.nk nk13
          have hc13 := hc12.nk nk13
          have hch13 := nk13 _ _ rfl hch12
          have hsi13 := x13.sit x12.die hsd hsi12
          row_cond zz
          refine lam_at T2 (d := d) (p := p) (x := vO lim') x13.die x13.tb rfl (fun H' Q q => ⟨_, rfl, q⟩) okp hg13.1 hru13 (by omega) hm (.inr ⟨lim', rfl, hlim', fun hw' H14 x14 => ?_, fun l' k' hw' H14 ra sa x14 hra hsa => ?_⟩)
          · have nk14 : NK H13 H14 := x14.nk x13.die
            row_cond zz
            refine ⟨c, p, lim', m, ch, cs, rfl, okp, hc13.nk nk14, nk14 _ _ rfl hch13, by omega, hpos, fun _ H15 s15 => ?_, fun l' k' hz => by rw [hw'] at hz; cases hz⟩
            have x15 := (x13.trans x14).sm s15
            row_cond zz
            refine .inl (p_eqS ?_)
            rw [decide_eq_true (rfl : ("operation" : Str) = "operation")]
            row_cond zz
            refine p_neB ?_
            rw [show (!decide (true = true)) = false from rfl]
            row_cond zz
            cases lim' with
            | none =>
              dsimp only [vO]
              row_cond zz
              by_cases hk : k = 0
              · subst hk
                have hz := wide_went (b := none) cs l hw (fun st _ v e => by cases e)
                rw [hw'] at hz
                cases hz
              · refine z_iteDF (show ¬ ((k : Nat) : Int) = 0 by omega) ?_
                row_cond zz
                refine z_iteDF (show ¬ ((k : Nat) : Int) = 0 by omega) ?_
                row_cond zz
                exact ⟨_, _, _, _, _, _, _, rfl, x15⟩
            | some v =>
              dsimp only [vO]
              row_cond zz
              by_cases hk : k = 0
              · refine z_iteD (show ((k : Nat) : Int) = 0 by omega) ?_
                row_cond zz
                by_cases hv : M ≤ v
                · subst hk
                  have hz := wide_went (b := some v) cs l hw (fun st hst u e => by
                    cases e
                    exact Int.le_trans (hMax _ (List.mem_map.mpr ⟨st, hst, rfl⟩)) hv)
                  rw [hw'] at hz
                  cases hz
                · refine z_iteDF hv ?_
                  row_cond zz
                  refine z_iteD (show ((k : Nat) : Int) = 0 by omega) ?_
                  row_cond zz
                  refine z_iteDNF hv ?_
                  row_cond zz
                  exact ⟨_, _, _, _, _, _, _, rfl, x15⟩
              · refine z_iteDF (show ¬ ((k : Nat) : Int) = 0 by omega) ?_
                row_cond zz
                refine z_iteDF (show ¬ ((k : Nat) : Int) = 0 by omega) ?_
                row_cond zz
                exact ⟨_, _, _, _, _, _, _, rfl, x15⟩
          · have nk14 : NK H13 H14 := x14.nk x13.die
            have x14' := x13.trans x14
            row_cond zz
            refine ⟨c, p, lim', m, ch, cs, rfl, okp, hc13.nk nk14, nk14 _ _ rfl hch13, by omega, hpos, (fun hz => by rw [hw'] at hz; cases hz), fun l2 k2 hz H15 sg s15 hsg0 hsg => ?_⟩
            have hlk : l2 = l' ∧ k2 = k' := by
              rw [hw'] at hz
              cases hz
              exact ⟨rfl, rfl⟩
            obtain ⟨rfl, rfl⟩ := hlk
            have nk15 : NK H13 H15 := nk14.trans (Kx.Same.nk s15)
            have hra15 := hra.nk (Kx.Same.nk s15)
            obtain ⟨dxa, fsa, _, ha15, _⟩ := id hra15
            have hsa15 := hsa.sm s15
            row_cond zz
            refine .inr ⟨ra, dxa, fsa, rfl, ha15, .inr ⟨_, rfl⟩, .inl ⟨ra, dxa, fsa, _, rfl, ha15, false, rfl, ?_⟩⟩
            row_cond zz
            refine p_neB ?_
            rw [show (!decide (false = false)) = false from rfl]
            row_cond zz
            refine ⟨_, rfl, ra, dxa, fsa, rfl, ha15, ?_⟩
            refine ⟨ra, g, lim', m, cs, sa, k2, l2, rfl, hra15, hsa15, fun H16 t s16 tt => ?_⟩
            obtain ⟨gs, hgs, tgs⟩ := hsg.sm s16
            row_cond zz
            refine p_tupL hgs fun t2 H17 ht2 s17 e17 => ?_
            have okl := went_ok okp _ l2 k2 hw'
            row_cond zz
            refine p_neT (TD.sm s17 tt) (.tup e17 (TDs.sm s17 tgs)) (sh_sitsT okp okl) (by decide) ?_
            row_cond zz
            have s157 := s16.trans s17
            have hg17 := hg13.nk (nk15.trans (Kx.Same.nk s157))
            refine ⟨g, lim', m, ch, cs, p, l2, k2, rfl, okp, hg17.1, (nk15.trans (Kx.Same.nk s157)) _ _ rfl hch13, by omega, hm, hlim', hw', fun H18 rb sb s18 hrb hsb => ?_⟩
            have s158 := s157.trans s18
            have hra18 := hra15.nk (Kx.Same.nk s158)
            obtain ⟨dxb, fsb, _, hb18, _⟩ := id hrb
            row_cond zz
            refine ⟨ra, dxa, fsa, rb, dxb, fsb, rfl, Kx.Same.get s158 ha15, rfl, hb18, .inr ⟨ra, rb, g, p, lim', m, cs, sa, k2, sb, k2, rfl, hg17.nk (Kx.Same.nk s18), hra18, hrb, fun H19 s19 => ⟨true, rfl, ?_⟩⟩⟩
            have s159 := s158.trans s19
            have x19 := x14'.sm (s15.trans s159)
            have hra19 := hra18.nk (Kx.Same.nk s19)
            have ha19 := Kx.Same.get s159 ha15
            obtain ⟨gs', hgs', tgs'⟩ := hsg.sm s159
            obtain ⟨ws', hws', tws'⟩ := (x14.sit x13.die hsd hsi13).sm (s15.trans s159)
            row_cond zz
            cases lim' with
            | none =>
              dsimp only [vO]
              row_cond zz
              by_cases hk : k = 0
              · refine z_iteD (show ((k : Nat) : Int) = 0 by omega) ?_
                row_cond zz
                subst hk
                have hz := wide_went (b := none) cs l hw (fun st _ v e => by cases e)
                rw [hw'] at hz
                cases hz
                refine p_neL hgs' tgs' hws' tws' (sh_sits okp okl) (by decide) ?_
                row_cond zz
                refine ⟨_, rfl, ra, dxa, fsa, rfl, ha19, ⟨ra, g, _, m, cs, sa, _, rfl, hra19, ?_⟩⟩
                row_cond zz
                refine z_iteDN (show ((0 : Nat) : Int) = 0 by omega) ?_
                row_cond zz
                refine z_iteD (show ((0 : Nat) : Int) = 0 by omega) ?_
                row_cond zz
                exact ⟨_, _, _, _, _, _, _, rfl, x19⟩
              · refine z_iteDF (show ¬ ((k : Nat) : Int) = 0 by omega) ?_
                row_cond zz
                refine z_iteDF (show ¬ ((k : Nat) : Int) = 0 by omega) ?_
                row_cond zz
                exact ⟨_, _, _, _, _, _, _, rfl, x19⟩
            | some v =>
              dsimp only [vO]
              row_cond zz
              by_cases hk : k = 0
              · refine z_iteD (show ((k : Nat) : Int) = 0 by omega) ?_
                row_cond zz
                by_cases hv : M ≤ v
                · refine z_iteD hv ?_
                  row_cond zz
                  subst hk
                  have hz := wide_went (b := some v) cs l hw (fun st hst u e => by
                    cases e
                    exact Int.le_trans (hMax _ (List.mem_map.mpr ⟨st, hst, rfl⟩)) hv)
                  rw [hw'] at hz
                  cases hz
                  refine p_neL hgs' tgs' hws' tws' (sh_sits okp okl) (by decide) ?_
                  row_cond zz
                  refine ⟨_, rfl, ra, dxa, fsa, rfl, ha19, ⟨ra, g, _, m, cs, sa, _, rfl, hra19, ?_⟩⟩
                  row_cond zz
                  refine z_iteDN (show ((0 : Nat) : Int) = 0 by omega) ?_
                  row_cond zz
                  refine z_iteD (show ((0 : Nat) : Int) = 0 by omega) ?_
                  row_cond zz
                  refine z_iteDN hv ?_
                  row_cond zz
                  exact ⟨_, _, _, _, _, _, _, rfl, x19⟩
                · refine z_iteDF hv ?_
                  row_cond zz
                  refine z_iteD (show ((k : Nat) : Int) = 0 by omega) ?_
                  row_cond zz
                  refine z_iteDNF hv ?_
                  row_cond zz
                  refine ⟨_, rfl, ra, dxa, fsa, rfl, ha19, ⟨ra, g, _, m, cs, sa, _, rfl, hra19, ?_⟩⟩
                  row_cond zz
                  subst hk
                  obtain ⟨stm, hstm, hstl⟩ := List.mem_map.mp hM
                  have hne := narrow_went hw (hpos' v rfl) hstm (by omega) hw'
                  refine z_iteDF (show ¬ ((k2 : Nat) : Int) = 0 by omega) ?_
                  row_cond zz
                  exact ⟨_, _, _, _, _, _, _, rfl, x19⟩
              · refine z_iteDF (show ¬ ((k : Nat) : Int) = 0 by omega) ?_
                row_cond zz
                refine z_iteDF (show ¬ ((k : Nat) : Int) = 0 by omega) ?_
                row_cond zz
                exact ⟨_, _, _, _, _, _, _, rfl, x19⟩
        · obtain ⟨v4, v12, v13, v14, v15, v16, v17, rfl, x13⟩ := hp
          row_cond zz
          refine p_tup (Nat.le_of_ble_eq_true rfl) fun ta Ha hta sa ea => ?_
          row_cond zz
          refine p_lst (Nat.le_of_ble_eq_true rfl) fun tb Hb htb sb eb => ?_
          row_cond zz
          refine p_dnew fun tc Hc htc sc ec => ?_
          row_cond zz
          refine p_tup (Nat.le_of_ble_eq_true rfl) fun te He hte se ee => ?_
          row_cond zz
          refine p_lst (Nat.le_of_ble_eq_true rfl) fun tf Hf htf sf ef => ?_
          have xf : XD tabs d H12 Hf := ((((x13.sm sa).sm sb).sm sc).sm se).sm sf
          have htbd : tb ≠ d := (x13.sm sa).die.ne0 htb
          have htfd : tf ≠ d := ((((x13.sm sa).sm sb).sm sc).sm se).die.ne0 htf
          row_cond zz
          refine ⟨d, tf, _, rfl, xf.die, htfd, .inl ef, by simp, Nat.le_of_ble_eq_true rfl, fun Hg x sg hx => ?_⟩
          have xg := xf.sb sg
          have nkg : NK H12 Hg := xg.nk x12.die
          have hru14 := hru12.nk nkg
          have hg14 := hg12.nk nkg
          have aa : ∀ H', XD tabs d Hg H' → ∃ t, TyN H' x t ∧ isLim x = false := fun H' x' => by
            have y : XD tabs d Hf H' := (XD.of_sb xf.die xf.tb sg).trans x'
            have ny := y.nk xf.die
            exact in_wrong (ny _ _ rfl (Kx.Same.get (sb.trans (sc.trans (se.trans sf))) ea)) (y.lst htbd (Kx.Same.get (sc.trans (se.trans sf)) eb)) (ny _ _ rfl (Kx.Same.get (se.trans sf) ec)) (ny _ _ rfl (Kx.Same.get sf ee)) hx
          row_cond zz
          refine lam_at T2 (d := d) (p := p) (x := x) xg.die xg.tb rfl (fun H' Q q => ⟨_, rfl, q⟩) okp hg14.1 hru14 (by omega) hm (.inl ⟨fun H' x' => ?_, ?_, fun Hh xh => ?_⟩)
          · obtain ⟨t, ht, _⟩ := aa _ x'
            exact ⟨t, ht⟩
          · obtain ⟨t, _, hxl⟩ := aa _ (XD.of_sb xg.die xg.tb (.of_same xg.die (Same.refl _)))
            exact hxl
          · have xh' := xg.trans xh
            have nkh : NK H12 Hh := xh'.nk x12.die
            have hru15 := hru12.nk nkh
            obtain ⟨dxa, fsa, _, ha15, _⟩ := id hru15
            row_cond zz
            refine p_neS ?_
            rw [decide_eq_true (rfl : ("limit" : Str) = "limit")]
            row_cond zz
            refine ⟨g, lim, m, ch, cs, p, l, k, rfl, okp, (hg12.nk nkh).1, nkh _ _ rfl hch12, by omega, hm, hlim, hw, fun Hi rb sb si hrb hsb => ?_⟩
            obtain ⟨dxb, fsb, _, hb18, _⟩ := id hrb
            row_cond zz
            refine ⟨ru, dxa, fsa, rb, dxb, fsb, rfl, Kx.Same.get si ha15, rfl, hb18, .inr ⟨ru, rb, g, p, lim, m, cs, _, k, sb, k, rfl, (hg12.nk nkh).nk (Kx.Same.nk si), hru15.nk (Kx.Same.nk si), hrb, fun Hj sj => ⟨true, rfl, ?_⟩⟩⟩
            row_cond zz
            exact ⟨_, _, _, _, _, _, _, _, _, _, _, _, _, _, rfl, x12.trans ((xh'.sm si).sm sj), x34.trans (nkh.trans (Kx.Same.nk (si.trans sj)))⟩
    · obtain ⟨v4, v5, v6, v7, v8, v9, v10, v11, v12, v13, v14, v15, v16, v17, rfl, x4, nk4⟩ := hp
      row_cond zz
      exact hq _ x4
end
end Kx

/- part K27 -/
/-! # K27: law -/
namespace Kx
open PySem PySem.Spec PyProof.Rows L2
def pL : Prg := ⟨2, [0], [("p", 2, [.call 0 1 "p" [0] (some 1), .go 0 0 [(0, 1)], .go 1 0 [(0, 0)]])]⟩
def lL : List Sit := [⟨0, [], .pt "p" 0⟩, ⟨0, [("p", 0)], .pt "p" 0⟩, ⟨0, [("p", 0), ("p", 0)], .pt "p" 0⟩, ⟨1, [("p", 0), ("p", 0)], .pt "p" 0⟩]
theorem wL2 : wentF pL (some 2) 0 [0, 0, 1] = some (lL, 0) := by decide +kernel
theorem wLn : wentF pL none 0 [0, 0, 1] = some (lL, 0) := by decide +kernel
theorem wL1 : wentF pL (some 1) 0 [0, 0, 1] = none := by decide +kernel
theorem okPL : ProcOk pL.total pL.names ("p", 2, [.call 0 1 "p" [0] (some 1), .go 0 0 [(0, 1)], .go 1 0 [(0, 0)]]) := by
  refine ⟨⟨by decide, by decide⟩, by decide, fun m hm => ?_⟩
  simp only [List.mem_cons, List.not_mem_nil, or_false] at hm
  rcases hm with rfl | rfl | rfl
  · exact ⟨⟨by decide, by decide⟩, ⟨by decide, by decide⟩, by decide +kernel, ⟨by decide, by decide, by decide⟩, fun x e => by cases e; exact ⟨by decide, by decide⟩⟩
  · exact ⟨⟨by decide, by decide⟩, ⟨by decide, by decide⟩, ⟨by decide, by simp, by decide⟩⟩
  · exact ⟨⟨by decide, by decide⟩, ⟨by decide, by decide⟩, ⟨by decide, by simp, by decide⟩⟩
theorem okL : PrgOk pL := by
  refine ⟨⟨by decide, by decide⟩, ⟨by decide, by decide, by decide⟩, by decide, by decide, by decide +kernel, by decide +kernel, fun r hr => ?_⟩
  simp only [pL, List.mem_cons, List.not_mem_nil, or_false] at hr
  subst hr
  exact okPL
theorem SqL.ex {K : PySem.W.Frag} {H H' : Hp} {a : Addr} {xs : List V} (e : LamX.ExtN H H') (h : SqL K H a xs) : SqL K H' a xs := by
  rcases h with h | h
  · rcases h with h | ⟨o, h⟩
    · exact .inl (.inl (e _ _ h fun ps z => by cases z))
    · exact .inl (.inr ⟨o, e _ _ h fun ps z => by cases z⟩)
  · exact .inr h
theorem p_eqL {K : PySem.W.Frag} {H : Hp} {Q : VK} {a b : Addr} {n : Nat} {ds : List PyData} {xs ys : List V} (h : H a = some (.lst xs)) (t : TDs H xs ds) (h2 : H b = some (.lst ys)) (t2 : TDs H ys ds) (s : sh n (.list ds)) (hn : n ≤ 64) (q : Q (.bl true) H) : rEqA K (.ref a) (.ref b) H Q := by
  refine .inr ⟨.list ds, .list ds, .lst (.inl (.inl h)) (TDs.dp ds _ t), .lst (.inl (.inl h2)) (TDs.dp ds _ t2), sh_ok s hn, sh_ok s hn, ?_⟩
  rw [PySem.SeqAt.eqv_refl _ s.1]
  exact q
local macro_rules
  | `(tactic| row_cond hp) => `(tactic| first
    | assumption
    | exact upd_same
    | (refine Kx.Same.get (by assumption) ?_; row_cond hp)
    | (refine Kx.SB.get (by assumption) (by assumption) ?_ rfl; row_cond hp)
    | (refine Kx.SB.getL (by assumption) (by assumption) ?_; row_cond hp))
local macro_rules
  | `(tactic| row_cond zs) => `(tactic| first
    | ((with_reducible refine Kx.z_var (v := ?zval) ?zv ?zq); (case zv => rfl))
    | with_reducible refine Kx.z_c ?_
    | with_reducible refine Kx.z_cons ?_
    | with_reducible refine Kx.z_nil ?_
    | with_reducible refine Kx.z_op ?_
    | with_reducible refine Kx.z_cB ?_
    | with_reducible refine Kx.z_call ?_
    | with_reducible refine Kx.z_fld ?_
    | with_reducible refine Kx.z_tup ?_
    | with_reducible refine Kx.z_lst ?_
    | with_reducible refine Kx.z_test ?_
    | with_reducible refine Kx.z_tB ?_
    | with_reducible refine Kx.p_bl ?_
    | with_reducible refine Kx.z_iteT ?_
    | with_reducible refine Kx.z_iteF ?_
    | with_reducible refine Kx.z_seq ?_
    | with_reducible refine Kx.z_ret ?_
    | with_reducible refine Kx.z_set ?_
    | with_reducible refine Kx.z_drop ?_
    | with_reducible refine Kx.z_if ?_
    | with_reducible refine Kx.z_next ?_
    | with_reducible refine Kx.z_and ?_
    | with_reducible refine Kx.z_or ?_
    | with_reducible refine Kx.z_not ?_
    | with_reducible refine Kx.z_andV ?_
    | with_reducible refine Kx.z_orV ?_
    | with_reducible refine Kx.z_notV ?_
    | with_reducible refine Kx.z_ifE ?_
    | with_reducible refine Kx.z_chain ?_
    | with_reducible refine Kx.z_dget ?_
    | with_reducible refine Kx.z_un ?_
    | with_reducible refine Kx.z_asg ?_
    | with_reducible refine Kx.z_retN ?_
    | with_reducible refine Kx.z_iteNT ?_
    | with_reducible refine Kx.z_iteNF ?_
    | with_reducible refine Kx.p_add ?_
    | with_reducible refine Kx.p_sub ?_
    | with_reducible refine Kx.p_lt ?_
    | with_reducible refine Kx.p_le ?_
    | with_reducible refine Kx.p_gt ?_
    | with_reducible refine Kx.p_ge ?_
    | with_reducible refine Kx.p_neg ?_
    | with_reducible refine Kx.p_eqI ?_
    | with_reducible refine Kx.p_eqS ?_
    | with_reducible refine Kx.p_neI ?_
    | with_reducible refine Kx.p_eqNN ?_
    | with_reducible refine Kx.p_isN ?_
    | with_reducible refine Kx.p_isNi ?_
    | with_reducible refine Kx.p_isNr ?_
    | with_reducible refine Kx.p_notN ?_
    | with_reducible refine Kx.p_notNi ?_
    | with_reducible refine Kx.p_notNr ?_
    | with_reducible refine Kx.p_intI ?_
    | with_reducible refine Kx.p_intB ?_
    | with_reducible refine Kx.p_abs ?_
    | with_reducible refine Kx.p_mx2 ?_
    | with_reducible refine Kx.p_mn2 ?_
    | ((with_reducible refine Kx.p_ixT (xs := ?zxs) (v := ?zval) ?zh ?ze ?zq); (case zh => row_cond hp); (case ze => rfl))
    | ((with_reducible refine Kx.p_ixL (xs := ?zxs) (v := ?zval) ?zh ?ze ?zq); (case zh => row_cond hp); (case ze => rfl))
    | ((with_reducible refine Kx.p_lenT (xs := ?zxs) ?zh ?zq); (case zh => row_cond hp))
    | ((with_reducible refine Kx.p_lenL (xs := ?zxs) ?zh ?zq); (case zh => row_cond hp))
    | ((with_reducible refine Kx.p_xT (xs := ?zxs) (v := ?zval) ?zh ?ze ?zq); (case zh => row_cond hp); (case ze => rfl))
    | ((with_reducible refine Kx.p_xL (xs := ?zxs) (v := ?zval) ?zh ?ze ?zq); (case zh => row_cond hp); (case ze => rfl))
    | with_reducible refine Kx.p_qI ?_
    | with_reducible refine Kx.p_qS ?_
    | with_reducible refine Kx.p_qNI ?_
    | with_reducible refine Kx.p_ltI ?_
    | with_reducible refine Kx.q_int_int ?_
    | with_reducible refine Kx.q_int_bool ?_
    | with_reducible refine Kx.q_int_str ?_
    | with_reducible refine Kx.q_int_tuple ?_
    | with_reducible refine Kx.q_bool_int ?_
    | with_reducible refine Kx.q_bool_bool ?_
    | with_reducible refine Kx.q_bool_str ?_
    | with_reducible refine Kx.q_bool_tuple ?_
    | with_reducible refine Kx.q_str_int ?_
    | with_reducible refine Kx.q_str_bool ?_
    | with_reducible refine Kx.q_str_str ?_
    | with_reducible refine Kx.q_str_tuple ?_
    | with_reducible refine Kx.q_NoneType_int ?_
    | with_reducible refine Kx.q_NoneType_bool ?_
    | with_reducible refine Kx.q_NoneType_str ?_
    | with_reducible refine Kx.q_NoneType_tuple ?_
    | ((with_reducible refine Kx.q_tuple_int (xs := ?zxs) ?zh ?zq); (case zh => row_cond hp))
    | ((with_reducible refine Kx.q_tuple_bool (xs := ?zxs) ?zh ?zq); (case zh => row_cond hp))
    | ((with_reducible refine Kx.q_tuple_str (xs := ?zxs) ?zh ?zq); (case zh => row_cond hp))
    | ((with_reducible refine Kx.q_tuple_tuple (xs := ?zxs) ?zh ?zq); (case zh => row_cond hp))
    | ((with_reducible refine Kx.q_list_int (xs := ?zxs) ?zh ?zq); (case zh => row_cond hp))
    | ((with_reducible refine Kx.q_list_bool (xs := ?zxs) ?zh ?zq); (case zh => row_cond hp))
    | ((with_reducible refine Kx.q_list_str (xs := ?zxs) ?zh ?zq); (case zh => row_cond hp))
    | ((with_reducible refine Kx.q_list_tuple (xs := ?zxs) ?zh ?zq); (case zh => row_cond hp))
    | ((with_reducible refine Kx.q_dict_int (kvs := ?zxs) ?zh ?zq); (case zh => row_cond hp))
    | ((with_reducible refine Kx.q_dict_bool (kvs := ?zxs) ?zh ?zq); (case zh => row_cond hp))
    | ((with_reducible refine Kx.q_dict_str (kvs := ?zxs) ?zh ?zq); (case zh => row_cond hp))
    | ((with_reducible refine Kx.q_dict_tuple (kvs := ?zxs) ?zh ?zq); (case zh => row_cond hp))
    | with_reducible refine Kx.z_gn ?_
    | ((with_reducible refine Kx.z_gt2 (x := ?zx) (y := ?zy) ?zh ?zq); (case zh => row_cond hp))
    | ((with_reducible refine Kx.z_gt3 (x := ?zx) (y := ?zy) (z := ?zz) ?zh ?zq); (case zh => row_cond hp))
    | with_reducible refine Kx.z_lcT ?_
    | with_reducible refine Kx.z_lcL ?_
    | with_reducible refine Kx.z_lcS ?_
    | with_reducible refine Kx.z_lcR ?_
    | with_reducible refine Kx.z_lcZ ?_
    | with_reducible refine Kx.z_yes ?_
    | ((with_reducible refine Kx.z_wip ?zh ?zq); (case zh => rfl))
    | ((with_reducible refine Kx.z_LK ?zh ?zq); (case zh => rfl))
    | with_reducible refine Kx.z_lc2T ?_
    | with_reducible refine Kx.z_lc2L ?_
    | with_reducible refine Kx.z_inT ?_
    | with_reducible refine Kx.z_inL ?_
    | ((with_reducible refine Kx.z_LK2 ?zh ?zq); (case zh => rfl))
    | with_reducible refine Kx.z_sl ?_
    | with_reducible refine Kx.z_nop ?_
    | with_reducible refine Kx.z_part ?_
    | with_reducible refine Kx.z_exi ?_
    | with_reducible refine Kx.p_isNb ?_
    | with_reducible refine Kx.p_isNs ?_
    | with_reducible refine Kx.z_match ?_
    | ((with_reducible refine Kx.z_caseT (y := ?zy) (xs := ?zxs) ?zh ?zl ?zf ?zq); (case zh => row_cond hp); (case zl => rfl); (case zf => rfl))
    | ((with_reducible refine Kx.z_caseL (y := ?zy) (xs := ?zxs) ?zh ?zl ?zq); (case zh => row_cond hp); (case zl => (intro z; cases z)))
    | ((with_reducible refine Kx.z_caseF (y := ?zy) (xs := ?zxs) ?zh ?zf ?zq); (case zh => row_cond hp); (case zf => rfl))
    | with_reducible refine Kx.z_mnil ?_
    | with_reducible refine Kx.z_lcE ?_
    | with_reducible refine Kx.z_forT ?_
    | with_reducible refine Kx.z_forL ?_
    | with_reducible refine Kx.z_forR ?_
    | with_reducible refine Kx.z_forC ?_
    | ((with_reducible refine Kx.p_fP (dx := ?zd) (fs := ?zfs) (v := ?zv) (by assumption) ?zh ?zl ?zf ?zq); (case zh => row_cond hp); (case zl => assumption); (case zf => decide +kernel))
    | ((with_reducible refine Kx.p_fG (dx := ?zd) (fs := ?zfs) (v := ?zv) (by assumption) ?zh ?zl ?zf ?zq); (case zh => row_cond hp); (case zl => assumption); (case zf => decide +kernel))
    | ((with_reducible refine Kx.p_fR (dx := ?zd) (fs := ?zfs) (v := ?zv) (by assumption) ?zh ?zl ?zf ?zq); (case zh => row_cond hp); (case zl => assumption); (case zf => decide +kernel))
    | ((with_reducible refine Kx.p_dgetS (kvs := ?zk) (v := ?zv) ?zh ?ze ?zq); (case zh => row_cond hp); (case ze => assumption))
    | with_reducible refine Kx.z_star ?_
    | ((with_reducible refine Kx.p_star (xs := ?zxs) ?zh ?zq); (case zh => row_cond hp))
    | with_reducible refine Kx.z_bm ?_
    | with_reducible refine Kx.p_ip ?_
    | with_reducible refine Kx.z_lss ?_
    | with_reducible refine Kx.z_dcT ?_
    | with_reducible refine Kx.z_sf ?_
    | with_reducible refine Kx.z_dnew ?_
    | with_reducible refine Kx.z_mk ?_
    | with_reducible refine Kx.z_callS ?_
    | with_reducible refine Kx.z_gsub ?_
    | ((with_reducible refine Kx.p_setL (xs := ?zxs) (k := ?zk) ?zh ?ze ?zq); (case zh => row_cond hp); (case ze => rfl))
    | ((with_reducible refine Kx.p_modP ?zh ?zq); (case zh => first | assumption | decide +kernel))
    | ((with_reducible refine Kx.p_mulR ?zh ?zq); (case zh => first | assumption | decide +kernel))
    | ((with_reducible refine Kx.p_mulL ?zh ?zq); (case zh => first | assumption | decide +kernel))
    | ((with_reducible refine Kx.p_powS ?zh ?zq); (case zh => first | assumption | decide +kernel))
    | ((with_reducible refine Kx.p_powW ?zh ?zq); (case zh => first | assumption | decide +kernel))
    | ((with_reducible refine Kx.p_fdvS ?zh ?zq); (case zh => first | assumption | decide +kernel))
    | with_reducible refine Kx.z_par ?_
    | with_reducible refine Kx.p_par ?_
    | with_reducible refine Kx.z_par3 ?_
    | with_reducible refine Kx.p_par3 ?_
    | ((with_reducible refine Kx.z_gl3 (x := ?zx) (y := ?zy) (z := ?zz) ?zh ?zq); (case zh => row_cond hp))
    | ((with_reducible refine Kx.z_gtG2 (x := ?zx) (y := ?zy) ?zh ?zq); (case zh => row_cond hp))
    | with_reducible refine Kx.z_cm ?_
    | with_reducible refine Kx.p_cm ?_
    | with_reducible refine Kx.z_prs ?_
    | with_reducible refine Kx.z_prn ?_
    | dsimp only)
local macro_rules
  | `(tactic| row_cond zz) => `(tactic| repeat (row_cond zs))

section
variable {P : Program} {w : World} {K : PySem.W.Frag} {mg : Str → Option Value} {base : Heap} {tabs : List (Addr × Str)} {P1 P2 : Addr}
def spLaw (K : PySem.W.Frag) (tabs : List (Addr × Str)) : Sp := fun vs H Q _ => ∃ (a : Addr) (ns : List Int), vs = [.ref a] ∧ SqL K H a (ns.map V.int) ∧ ns.length ≤ 100000 ∧ LamX.Tabs tabs H ∧ ∀ H', Q (.bl true) H'
theorem sc_law : FnScope ["_law_script", "_law_at", "_law_die", "_law_moves", "_law_program", "_law_run", "_law_told"] ["_law_script"] (defScope (top 68)) := ⟨rfl, rfl, rfl, by decide +kernel, rfl, by decide +kernel, by decide +kernel⟩
theorem f_law (T2 : Txr K mg) (TBr : LamX.TabB base mg (He.codeOf K ("_law_right", none)) P1) (hmr : (P1, qLam "_law_right" (top 67)) ∈ tabs) (hur : ∀ p ∈ tabs, p.1 = P1 → p.2 = qLam "_law_right" (top 67))
    (TB : LamX.TabB base mg (He.codeOf K ("law", none)) P2) (hmT : (P2, qLam "law" (top 68)) ∈ tabs) (hu : ∀ p ∈ tabs, p.1 = P2 → p.2 = qLam "law" (top 68)) :
    ∀ fd, Fun K "law" "law" (top 68) (He.ga K "law") fd → FnOk P w K mg base C8.CX0 13 (He.ga K "law") fd ["_law_script"] (spLaw K tabs) := by
  intro fdL FL
  have T := T2.t
  obtain ⟨⟨fdM, FM⟩, gMet⟩ := T.fn 34 "_law_met" _ rfl
  have bMet := FM.binds (ps := ["_law_call"]) (fun _ _ _ _ _ _ us hl => match us, hl with | [_], _ => rfl)
  have kMet := FM.kp
  obtain ⟨oc, od, kV, doc, pm, an, cdvM, ct, osl, eM, lkm, hcdm⟩ := FM.ex
  subst eM
  obtain ⟨fdA, FA, bA⟩ := f_Run_at (P := P) (w := w) (base := base) T2
  obtain ⟨fdR, FR, bR⟩ := f_Run_eq (P := P) (w := w) (base := base) T2
  obtain ⟨fdS, FS, bS⟩ := f_situations (P := P) (w := w) (base := base) T2
  obtain ⟨fdSt, FSt, bSt⟩ := f_situation (P := P) (w := w) (base := base) T2
  refine fn_ofC FL sc_law (fun vs H Q E h => ?_) (fun f cdv A outer s H vs Q E hcdv hr h => ?_)
  · obtain ⟨d, ns, rfl, _⟩ := h
    rfl
  · subst hcdv
    obtain ⟨a, ns, rfl, hs, hnl, ht, hq⟩ := h
    refine ⟨_, (pss_cons (ps_for PassesOwn.never rfl (pi_range1 rfl (T.b "range") (pa_cons (pe_callB (c_mx2 rfl) rfl (T.b "max") boot_max (pa_cons pe_int (pa_cons (pe_callB (c_mn2 rfl) rfl (T.b "min") boot_min (pa_cons pe_int (pa_cons (pe_callB (k_len (K := K) rfl) rfl (T.b "len") boot_len (pa_cons (pv 0) pa_nil)) pa_nil))) pa_nil))) pa_nil)) (pg_name (i := 1) sc_law.nd rfl (.inl rfl) (.inr rfl)) (pss_cons (ps_set (i := 2) sc_law.nd rfl (.inl rfl) (C8.pe_c (c__law_numbers T) hr (by decide) rfl (pa_cons (pv 0) (pa_cons (pv 1) pa_nil))))
      (pss_one (ps_if (PW.pt (pw_or (pt_not (pt_val (C8.pe_c (c__law_right T2 TBr hmr hur) hr (by decide) rfl (pa_cons (pv 2) pa_nil)))) (pw_or1 (pt_not (pt_val (C8.pe_c (c__law_right T2 TBr hmr hur) hr (by decide) rfl (pa_cons (pv 2) pa_nil))))))) (pss_one (ps_ret pe_bl)) pss_nil))))
      (pss_cons (ps_set (i := 3) sc_law.nd rfl (.inl rfl) (pe_tup (pa_cons (pe_tup (pa_cons pe_str (pa_cons pe_int (pa_cons pe_int (pa_cons pe_str (pa_cons (pe_tup (pa_cons pe_int pa_nil)) (pa_cons pe_int pa_nil))))))) (pa_cons (pe_tup (pa_cons pe_str (pa_cons pe_int (pa_cons pe_int (pa_cons (pe_tup (pa_cons (pe_tup (pa_cons pe_int (pa_cons pe_int pa_nil))) pa_nil)) pa_nil))))) (pa_cons (pe_tup (pa_cons pe_str (pa_cons pe_int (pa_cons pe_int (pa_cons (pe_tup (pa_cons (pe_tup (pa_cons pe_int (pa_cons pe_int pa_nil))) pa_nil)) pa_nil))))) pa_nil)))))
      (pss_cons (ps_set (i := 4) sc_law.nd rfl (.inl rfl) (StX.pe_makeR T.cG.maker (f_Program_init T) (hr.mono (by decide)) rfl T.cG.g pass0 (pa_cons pe_int (pa_cons (pe_tup (pa_cons pe_int pa_nil)) (pa_cons (ClX.pe_cmeth (C8.pe_gc rfl (v := .ref (aP K)) ⟨_, T.cP.g, rfl⟩) T.cP.rd T.cP.cm (f_Procedure_of T) (hr.mono (by decide)) pass0 (pa_cons pe_str (pa_cons pe_int (pa_cons (pv 3) pa_nil)))) pa_nil)))))
      (pss_cons (ps_set (i := 5) sc_law.nd rfl (.inr rfl) (StX.pe_makeR T.cR.maker (f_Run_init T) (hr.mono (by decide)) rfl T.cR.g pass0 (pa_cons (pv 4) (pa_cons pe_int (pa_cons pe_int (pa_cons pe_int (pa_cons pe_int (pa_cons pe_int pa_nil))))))))
      (pss_cons (ps_set (i := 6) sc_law.nd rfl (.inl rfl) (pe_lst (pa_cons (LamX.pe_lamcall (T := tabs) (Ng := ["_law_call"]) (k := 9) (t := fun E => tMeth (aR K) "at" (spAt K) [] E (tVar 5) (tCons (tC (.int 1)) tNil)) rfl gMet kMet lkm hcdm bMet sc__law_met rfl (.inl rfl) (met_gives (e1 := "InvalidLimit") (e2 := "InvalidOperation") rfl T2.xl.g (by decide) rfl T2.xo.g (by decide) (fun _ => rfl)) TB rfl hmT hu (hr.mono (by decide)) (LamX.lamS_by (by kernel_rfl)) rfl (fun _ _ _ _ _ => rfl) (fun A outer s H E f c' hr2 => pe_meth (pv 5) T.cR.cl T2.rat FA hr2 bA .nil (passes_call (takes_of rfl rfl rfl rfl) (fun _ _ _ _ h => h)) (pa_cons pe_int pa_nil))) (pa_cons (pe_cmpR (k_eqA (K := K) rfl hr.units) (pe_prop (pe_meth (pv 5) T.cR.cl T2.rat FA (hr.mono (by decide)) bA .nil (passes_call LamX.takes0 (fun _ _ _ _ h => h)) (pa_cons pe_non pa_nil)) T.cR.cl T2.psits.po FS (hr.mono (by decide)) bS .nil pass0 rfl) (pe_prop (pv 5) T.cR.cl T2.psits.po FS (hr.mono (by decide)) bS .nil pass0 rfl) (nomark _)) (pa_cons (pe_cmpR (op_own T2.eR FR bR (hr.mono (by decide))) (pe_meth (pv 5) T.cR.cl T2.rat FA (hr.mono (by decide)) bA .nil (passes_call LamX.takes0 (fun _ _ _ _ h => h)) (pa_cons pe_int pa_nil)) (pv 5) (nomark _)) pa_nil)))))
      (pss_one (ps_ret (pe_and (pe_cmpR (k_eqA (K := K) rfl hr.units) (pv 6) (pe_lst (pa_cons pe_str (pa_cons pe_bl (pa_cons pe_bl pa_nil)))) (nomark _)) (pe_one (pe_cmpR (k_eqA (K := K) rfl hr.units) (pe_prop (pv 5) T.cR.cl T2.psit.po FSt (hr.mono (by decide)) bSt .nil pass0 rfl) (pe_tup (pa_cons pe_int (pa_cons (pe_tup (pa_cons (pe_tup (pa_cons pe_str (pa_cons pe_int pa_nil))) (pa_cons (pe_tup (pa_cons pe_str (pa_cons pe_int pa_nil))) pa_nil))) (pa_cons (pe_tup (pa_cons pe_str (pa_cons pe_int pa_nil))) pa_nil)))) (nomark _))))))))))), ?_⟩
    row_cond zz
    refine ⟨.ref a, ns.length, rfl, .inl ⟨_, hs, by rw [List.length_map]⟩, ?_⟩
    row_cond zz
    generalize hJ : (if (if ((ns.length : Nat) : Int) < 4 then ((ns.length : Nat) : Int) else 4) > 1 then (if ((ns.length : Nat) : Int) < 4 then ((ns.length : Nat) : Int) else 4) else 1) = J
    have hJ2 : 0 ≤ J ∧ J ≤ 4 := by
      rw [← hJ]
      split <;> split <;> omega
    refine p_forR (fun i σ H' => ∃ v1 v2 v3 v4 v5 v6, σ = [some (.ref a), v1, v2, v3, v4, v5, v6] ∧ LamX.ExtN H H' ∧ LamX.Tabs tabs H') hJ2.1 (by omega) ⟨_, _, _, _, _, _, rfl, LamX.ExtN.refl H, ht⟩ (fun i σ H1 hi hp => ?_) (fun σ H1 hp => ?_)
    · obtain ⟨v1, v2, v3, v4, v5, v6, rfl, e1, t1⟩ := hp
      rw [show (0 : Int) + ((i : Nat) : Int) = ((i : Nat) : Int) by omega]
      row_cond zz
      refine ⟨a, ns, i, rfl, Kx.SqL.ex e1 hs, hnl, by omega, fun H2 d s2 hd0 hd => ?_⟩
      have x2 : LamX.Tabs tabs H2 := t1.ext s2
      row_cond zz
      refine ⟨d, rfl, hd, x2, fun H3 x3 => ?_⟩
      row_cond zz
      refine ⟨d, rfl, x3.die, x3.tb, fun H4 x4 => ?_⟩
      row_cond zz
      refine ⟨_, _, _, _, _, _, rfl, fun b o e n => ?_, x4.tb⟩
      have q1 := e1 b o e n
      have hbd : b ≠ d := ne_of_none q1 hd0
      exact (x3.trans x4).keep b o hbd (s2 _ _ q1) n
    · obtain ⟨v1, v2, v3, v4, v5, v6, rfl, e1, t1⟩ := hp
      row_cond zz
      refine p_tup (Nat.le_of_ble_eq_true rfl) fun a1 G1 h1 s1 e1 => ?_
      row_cond zz
      refine p_tup (Nat.le_of_ble_eq_true rfl) fun a2 G2 h2 s2 e2 => ?_
      row_cond zz
      refine p_tup (Nat.le_of_ble_eq_true rfl) fun a3 G3 h3 s3 e3 => ?_
      row_cond zz
      refine p_tup (Nat.le_of_ble_eq_true rfl) fun a4 G4 h4 s4 e4 => ?_
      row_cond zz
      refine p_tup (Nat.le_of_ble_eq_true rfl) fun a5 G5 h5 s5 e5 => ?_
      row_cond zz
      refine p_tup (Nat.le_of_ble_eq_true rfl) fun a6 G6 h6 s6 e6 => ?_
      row_cond zz
      refine p_tup (Nat.le_of_ble_eq_true rfl) fun a7 G7 h7 s7 e7 => ?_
      row_cond zz
      refine p_tup (Nat.le_of_ble_eq_true rfl) fun a8 G8 h8 s8 e8 => ?_
      row_cond zz
      refine p_tup (Nat.le_of_ble_eq_true rfl) fun a9 G9 h9 s9 e9 => ?_
      row_cond zz
      refine p_tup (Nat.le_of_ble_eq_true rfl) fun a10 G10 h10 s10 e10 => ?_
      have tm : TD G10 (.ref a9) (eMvs [.call 0 1 "p" [0] (some 1), .go 0 0 [(0, 1)], .go 1 0 [(0, 0)]]) := by
        refine .tup (by row_cond hp) (.cons (.tup (by row_cond hp) (.cons (.str _) (.cons (.int _) (.cons (.int _) (.cons (.str _) (.cons (.tup (by row_cond hp) (.cons (.int _) .nil)) (.cons (.int _) .nil)))))))
          (.cons (.tup (by row_cond hp) (.cons (.str _) (.cons (.int _) (.cons (.int _) (.cons (.tup (by row_cond hp) (.cons (.tup (by row_cond hp) (.cons (.int _) (.cons (.int _) .nil))) .nil)) .nil)))))
          (.cons (.tup (by row_cond hp) (.cons (.str _) (.cons (.int _) (.cons (.int _) (.cons (.tup (by row_cond hp) (.cons (.tup (by row_cond hp) (.cons (.int _) (.cons (.int _) .nil))) .nil)) .nil))))) .nil)))
      row_cond zz
      refine ⟨"p", 2, a9, _, 2, ["p"], rfl, tm, okPL, by decide +kernel, by decide, by decide +kernel, fun G11 pc s11 hpc => ?_⟩
      row_cond zz
      refine p_mk fun x dx G12 hx s12 ex => ⟨[.ref x, .int 2, .ref a10], [.ref pc], rfl, rfl, Nat.le_of_ble_eq_true rfl, fun z hz => ?_⟩
      have s13 : Same G12 (upd G12 z (.tup [.ref pc])) := same_new hz
      have ps13 : ProcsAt K (upd G12 z (.tup [.ref pc])) [pc] pL.procs := ⟨rfl, fun i a r q1 q2 => by
        cases i with
        | zero =>
          cases q1
          cases q2
          exact hpc.sm (s12.trans s13)
        | succ i => cases q1⟩
      refine ⟨x, dx, a10, z, [pc], pL, rfl, okL, Kx.Same.get s13 ex, .tup (Kx.Same.get (s11.trans (s12.trans s13)) e10) (.cons (.int _) .nil), upd_same, ps13, fun G14 k14 hpg => ⟨rfl, ?_⟩⟩
      have s14 : Same G11 G14 := KB.same (s12.trans s13) hx k14
      row_cond zz
      refine p_mk fun r dx2 G15 hr0 s15 er => ⟨[.ref r, .ref x, .int 2, .int 0], [.int 0, .int 0, .int 1], rfl, rfl, Nat.le_of_ble_eq_true rfl, fun z2 hz2 => ?_⟩
      have s16 : Same G15 (upd G15 z2 (.tup [.int 0, .int 0, .int 1])) := same_new hz2
      refine ⟨r, dx2, x, some 2, 0, z2, [0, 0, 1], pL, lL, 0, rfl, okL, (hpg.nk (Kx.Same.nk (s15.trans s16))).1, Kx.Same.get s16 er, upd_same, by decide, List.mem_cons_self, limOk_of (by decide) (by decide +kernel), wL2, fun G17 si k17 hrun hsits => ⟨rfl, ?_⟩⟩
      have s17 : Same G14 G17 := KB.same (s15.trans s16) hr0 k17
      have hpg17 := hpg.nk (Kx.Same.nk s17)
      have t17 : LamX.Tabs tabs G17 := (t1.ext (s1.trans (s2.trans (s3.trans (s4.trans (s5.trans (s6.trans (s7.trans (s8.trans (s9.trans (s10.trans s11))))))))))).ext (s14.trans s17)
      row_cond zz
      refine lam_at0 T2 (p := pL) (x := .int 1) t17 rfl (fun H' Q q => q) okL hpg17.1 hrun (by decide) List.mem_cons_self (.inr ⟨some 1, rfl, limOk_of (by decide) (by decide +kernel), fun _ G18 x18 t18 => ?_, fun l' k' hw' => by rw [wL1] at hw'; cases hw'⟩)
      have nk18 := ex_nk x18
      have hrun18 := hrun.nk nk18
      obtain ⟨dxr, fsr, _, hr18, _, _, _, _, _, _, _, hat⟩ := id hrun18
      obtain ⟨ys, hys, tys⟩ := hsits
      have hsits18 : SitL G18 si lL := ⟨ys, x18 _ _ hys (fun ps z => by cases z), tys.nk nk18⟩
      row_cond zz
      refine ⟨_, rfl, r, dxr, fsr, rfl, hr18, hat, ?_⟩
      row_cond zz
      refine ⟨r, x, pL, some 2, 0, [0, 0, 1], si, 0, .non, rfl, okL, (hpg17.nk nk18).1, hrun18, by decide, List.mem_cons_self, .inr ⟨none, rfl, rfl, (fun hz => by rw [wLn] at hz; cases hz), fun l' k' hw' G19 ra sa s19 hra hsa => ?_⟩⟩
      rw [wLn] at hw'
      cases hw'
      have hrun19 := hrun18.nk (Kx.Same.nk s19)
      have hr19 := Kx.Same.get s19 hr18
      obtain ⟨dxa, fsa, _, ha19, _⟩ := id hra
      refine ⟨ra, dxa, fsa, rfl, ha19, ra, x, none, 0, [0, 0, 1], sa, 0, lL, rfl, hra, hsa, fun G20 t20 s20 tt20 => ?_⟩
      refine ⟨_, rfl, r, dxr, fsr, rfl, Kx.Same.get s20 hr19, r, x, some 2, 0, [0, 0, 1], si, 0, lL, rfl, hrun19.nk (Kx.Same.nk s20), hsits18.sm (s19.trans s20), fun G21 t21 s21 tt21 => ?_⟩
      have okl := went_ok okL _ lL 0 wLn
      refine p_qD (TD.sm s21 tt20) tt21 (sh_ok (sh_sitsT okL okl) (by decide)) (sh_ok (sh_sitsT okL okl) (by decide)) ?_
      rw [eqv_rfl (sh_sitsT okL okl)]
      row_cond zz
      have s21' : Same G18 G21 := s19.trans (s20.trans s21)
      have hrun21 := hrun18.nk (Kx.Same.nk s21')
      have hr21 := Kx.Same.get s21' hr18
      have hpg21 := (hpg17.nk nk18).nk (Kx.Same.nk s21')
      refine ⟨_, rfl, r, dxr, fsr, rfl, hr21, hat, ?_⟩
      row_cond zz
      refine ⟨r, x, pL, some 2, 0, [0, 0, 1], si, 0, .int 2, rfl, okL, hpg21.1, hrun21, by decide, List.mem_cons_self, .inr ⟨some 2, rfl, limOk_of (by decide) (by decide +kernel), (fun hz => by rw [wL2] at hz; cases hz), fun l' k' hw' G22 rb sb s22 hrb hsb => ?_⟩⟩
      rw [wL2] at hw'
      cases hw'
      have hr22 := Kx.Same.get s22 hr21
      obtain ⟨dxb, fsb, _, hb22, _⟩ := id hrb
      row_cond zz
      refine ⟨rb, dxb, fsb, rfl, hb22, .inl ⟨r, dxr, fsr, rfl, hr22⟩, .inr ⟨rb, r, x, pL, some 2, 0, [0, 0, 1], sb, 0, si, 0, rfl, hpg21.nk (Kx.Same.nk s22), hrb, hrun21.nk (Kx.Same.nk s22), fun G23 s23 => ⟨true, rfl, ?_⟩⟩⟩
      row_cond zz
      refine p_lst (Nat.le_of_ble_eq_true rfl) fun tl G24 htl s24 etl => ?_
      row_cond zz
      refine p_lst (Nat.le_of_ble_eq_true rfl) fun tl2 G25 htl2 s25 etl2 => ?_
      row_cond zz
      have shl : sh 1 (.list [.str "operation", .bool true, .bool true]) := ⟨by decide +kernel, by decide +kernel⟩
      have tds : ∀ H : Hp, TDs H [V.str "operation", V.bl true, V.bl true] [.str "operation", .bool true, .bool true] := fun H => .cons (.str _) (.cons (.bl _) (.cons (.bl _) .nil))
      refine p_eqL (Kx.Same.get s25 etl) (tds _) etl2 (tds _) shl (by decide) ?_
      row_cond zz
      have s26 : Same G22 G25 := s23.trans (s24.trans s25)
      refine ⟨_, rfl, r, dxr, fsr, rfl, Kx.Same.get s26 hr22, r, x, some 2, 0, [0, 0, 1], si, 0, lL, ⟨1, [("p", 0), ("p", 0)], .pt "p" 0⟩, rfl, hrun21.nk (Kx.Same.nk (s22.trans s26)), hsits18.sm (s21'.trans (s22.trans s26)), rfl, fun v tv => ?_⟩
      row_cond zz
      refine p_tup (Nat.le_of_ble_eq_true rfl) fun b1 I1 j1 u1 w1 => ?_
      row_cond zz
      refine p_tup (Nat.le_of_ble_eq_true rfl) fun b2 I2 j2 u2 w2 => ?_
      row_cond zz
      refine p_tup (Nat.le_of_ble_eq_true rfl) fun b3 I3 j3 u3 w3 => ?_
      row_cond zz
      refine p_tup (Nat.le_of_ble_eq_true rfl) fun b4 I4 j4 u4 w4 => ?_
      row_cond zz
      refine p_tup (Nat.le_of_ble_eq_true rfl) fun b5 I5 j5 u5 w5 => ?_
      row_cond zz
      have okst : sh 3 (eSit ⟨1, [("p", 0), ("p", 0)], .pt "p" 0⟩) := sh_sit okL (okl _ (by decide +kernel))
      refine p_qD (tv.sm (u1.trans (u2.trans (u3.trans (u4.trans u5))))) (td_sit (st := ⟨1, [("p", 0), ("p", 0)], .pt "p" 0⟩) w5 (.tup (by row_cond hp) (.cons (.tup (by row_cond hp) (.cons (.str _) (.cons (.int _) .nil))) (.cons (.tup (by row_cond hp) (.cons (.str _) (.cons (.int _) .nil))) .nil))) (.tup (by row_cond hp) (.cons (.str _) (.cons (.int _) .nil)))) (sh_ok okst (by decide)) (sh_ok okst (by decide)) ?_
      rw [eqv_rfl okst]
      row_cond zz
      exact hq _
end
end Kx

/- part K30 -/
/-! # K30: the facts -/
namespace Kx
open PySem PySem.Spec PyProof.Rows L2
theorem clB_ok {K : PySem.W.Frag} {C : Addr} (cl : Cls K C) (h : clB K C = true) : ClX.CRead K C (.type "type") ∧ ClX.CMet K C (.type "type") "of" (He.ma K C "of") (He5.wf K C "classmethod" "of") ∧ C8.InsC K C := by
  obtain ⟨h1, h⟩ := He.ba h
  obtain ⟨h2, h⟩ := He.ba h
  obtain ⟨h3, h⟩ := He.ba h
  obtain ⟨h4, h⟩ := He.ba h
  obtain ⟨h5, h⟩ := He.ba h
  obtain ⟨h6, h⟩ := He.ba h
  obtain ⟨h7, h⟩ := He.ba h
  obtain ⟨h8, h9⟩ := He.ba h
  exact ⟨⟨h1, He.eqO_ok h2⟩, He5.cmet_of h3 h4, ⟨cl, He.eqO_ok h5, He.eqO_ok h6, of_decide_eq_true h7, of_decide_eq_true h8, of_decide_eq_true h9⟩⟩
theorem prB_ok {K : PySem.W.Frag} {f : Str} (h : prB K f = true) : PropOf K (aR K) f (He.ma K (aR K) f) (He5.wf K (aR K) "property" f) := by
  obtain ⟨h1, h⟩ := He.ba h
  obtain ⟨h2, h⟩ := He.ba h
  obtain ⟨h3, h4⟩ := He.ba h
  refine ⟨He.eqO_ok h1, He.eqO_ok h2, of_decide_eq_true h3, ?_⟩
  unfold He5.wf
  split at h4
  · rename_i g r e
    exact ⟨r, by rw [e]⟩
  · cases h4
theorem eqB_ok {K : PySem.W.Frag} {C : Addr} {qual : Str} {st : Stmt} (h : eqB K C = true) (F : ∃ fd, Fun K "__eq__" qual st (He.ma K C "__eq__") fd) : EqF K C qual st := by
  obtain ⟨h1, h⟩ := He.ba h
  obtain ⟨h2, h⟩ := He.ba h
  obtain ⟨h3, h⟩ := He.ba h
  obtain ⟨h4, h⟩ := He.ba h
  obtain ⟨h5, h6⟩ := He.ba h
  exact ⟨He.eqO_ok h1, h2, F, of_decide_eq_true h3, of_decide_eq_true h4, He.eqO_ok h5, of_decide_eq_true h6⟩
section
variable {w : World} {K : PySem.W.Frag} {h : Heap} {mg : Str → Option Value}
theorem SaysK.fact (c : SaysK w h K) {f : He.Fa} (m : f ∈ faL) : f.ok K = true := by
  obtain ⟨i, hi, e⟩ := List.mem_iff_getElem.mp m
  exact He5.SaysA.fact c.a i (f := f) (by rw [List.getElem?_eq_getElem hi, e])
theorem SaysK.dfn (c : SaysK w h K) {a : PySem.W.Frag → Addr} {x q : Str} {st : Stmt} (m : dA a x q st ∈ fnL) : ∃ fd, Fun K x q st (a K) fd := by
  obtain ⟨i, hi, e⟩ := List.mem_iff_getElem.mp m
  obtain ⟨fd, F⟩ := He5.SaysA.def_ c.a i (d := dA a x q st) (by rw [List.getElem?_eq_getElem hi, e])
  exact ⟨fd, He5.fun_of (x := x) (qual := q) (st := st) F⟩
theorem mG {f : He.Fa} (m : f ∈ faG) : f ∈ faL := List.mem_append_left _ m
theorem mB {f : He.Fa} (m : f ∈ faB) : f ∈ faL := List.mem_append_right _ (List.mem_append_left _ m)
theorem mM (i : Nat) {f : He.Fa} (m : faM[i]? = some f) : f ∈ faL := List.mem_append_right _ (List.mem_append_right _ (List.mem_append_left _ (List.mem_of_getElem? m)))
theorem mN (i : Nat) {f : He.Fa} (m : faN[i]? = some f) : f ∈ faL := List.mem_append_right _ (List.mem_append_right _ (List.mem_append_right _ (List.mem_of_getElem? m)))
theorem mF (i : Nat) {d : He5.DefA} (m : fnM[i]? = some d) : d ∈ fnL := List.mem_append_right _ (List.mem_of_getElem? m)
theorem na_list {x : Str} {l : List Str} (c : SaysK w h K) (m : ∀ f ∈ l, He.Fa.noat x f ∈ faN) : ∀ f ∈ l, NoAttr K (He.ga K x) f := fun f hf => He.noat_ok (x := x) (f := f) (c.fact (List.mem_append_right _ (List.mem_append_right _ (List.mem_append_right _ (m f hf)))))
theorem naP : ∀ f ∈ (["own_name", "own_points", "own_moves"] : List Str), He.Fa.noat "Procedure" f ∈ faN := fun f hf => by
  simp only [List.mem_cons, List.not_mem_nil, or_false] at hf
  unfold faN
  rcases hf with rfl | rfl | rfl <;> repeat (first | with_reducible exact List.mem_cons_self | with_reducible refine List.mem_cons_of_mem _ ?_)
theorem naG : ∀ f ∈ (["own_modes", "own_starts", "own_procedures", "own_table", "own_main", "own_kept"] : List Str), He.Fa.noat "Program" f ∈ faN := fun f hf => by
  simp only [List.mem_cons, List.not_mem_nil, or_false] at hf
  unfold faN
  rcases hf with rfl | rfl | rfl | rfl | rfl | rfl <;> repeat (first | with_reducible exact List.mem_cons_self | with_reducible refine List.mem_cons_of_mem _ ?_)
theorem naR : ∀ f ∈ (["own_program", "own_bound", "own_start", "own_choices", "own_situations", "own_refused"] : List Str), He.Fa.noat "Run" f ∈ faN := fun f hf => by
  simp only [List.mem_cons, List.not_mem_nil, or_false] at hf
  unfold faN
  rcases hf with rfl | rfl | rfl | rfl | rfl | rfl <;> repeat (first | with_reducible exact List.mem_cons_self | with_reducible refine List.mem_cons_of_mem _ ?_)
theorem txt (X : K.In h) (G : h.Ns mainGlobals mg) (c : SaysK w h K) : Txt K mg := by
  obtain ⟨_, ex0⟩ := He.ba c.more
  obtain ⟨ex1, ex2⟩ := He.ba ex0
  obtain ⟨cp, ex3⟩ := He.ba ex1
  obtain ⟨cg, cr⟩ := He.ba ex3
  have clP := He.cls_ok (x := "Procedure") (c.fact (mM 13 rfl))
  have clG := He.cls_ok (x := "Program") (c.fact (mM 14 rfl))
  have clR := He.cls_ok (x := "Run") (c.fact (mM 15 rfl))
  obtain ⟨rP, mP, iP⟩ := clB_ok clP cp
  obtain ⟨rG, mG', iG⟩ := clB_ok clG cg
  obtain ⟨rR, mR, iR⟩ := clB_ok clR cr
  have int : ∀ (i : Nat) (x : Str) (n : Int), faM[i]? = some (.int x n) → ∃ u, mg x = some u ∧ RelV (.int n) u := fun i x n e => by
    obtain ⟨t, ht⟩ := He.int_ok X G (c.fact (mM i e))
    exact ⟨_, ht, ⟨t, rfl⟩⟩
  have str : ∀ (i : Nat) (x n : Str), faM[i]? = some (.str x n) → ∃ u, mg x = some u ∧ RelV (.str n) u := fun i x n e => by
    obtain ⟨t, ht⟩ := He.str_ok X G (c.fact (mM i e))
    exact ⟨_, ht, ⟨t, rfl⟩⟩
  refine ⟨fun i x st e => ⟨?_, ?_⟩, fun x hx => ?_, int 0 _ _ rfl, str 1 _ _ rfl, int 2 _ _ rfl, int 3 _ _ rfl, int 4 _ _ rfl, int 5 _ _ rfl, int 6 _ _ rfl, int 7 _ _ rfl, str 8 _ _ rfl, str 9 _ _ rfl, ?_, ?_, ?_⟩
  · exact c.dfn (a := fun K => He.ga K x) (List.mem_append_left _ (List.mem_map.mpr ⟨(x, st), List.mem_of_getElem? e, rfl⟩))
  · exact He.glo_ok X G (c.fact (mG (List.mem_map.mpr ⟨(x, st), List.mem_of_getElem? e, rfl⟩)))
  · exact He.free_ok X G (c.fact (mB (List.mem_map.mpr ⟨x, hx, rfl⟩)))
  · exact ⟨He.glo_ok X G (c.fact (mM 10 rfl)), clP, na_list c naP, He.mkr_ok (c.fact (mM 16 rfl)), c.dfn (mF 0 rfl), rP, mP, c.dfn (mF 1 rfl), iP⟩
  · exact ⟨He.glo_ok X G (c.fact (mM 11 rfl)), clG, na_list c naG, He.mkr_ok (c.fact (mM 17 rfl)), c.dfn (mF 2 rfl), rG, mG', c.dfn (mF 3 rfl), iG⟩
  · exact ⟨He.glo_ok X G (c.fact (mM 12 rfl)), clR, na_list c naR, He.mkr_ok (c.fact (mM 18 rfl)), c.dfn (mF 4 rfl), rR, mR, c.dfn (mF 5 rfl), iR⟩
theorem txr (X : K.In h) (G : h.Ns mainGlobals mg) (c : SaysK w h K) : Txr K mg := by
  obtain ⟨_, ex0⟩ := He.ba c.more
  obtain ⟨ex1, ex2⟩ := He.ba ex0
  obtain ⟨pr, eq⟩ := He.ba ex2
  obtain ⟨p1, pr⟩ := He.ba pr
  obtain ⟨p2, p3⟩ := He.ba pr
  obtain ⟨q1, q2⟩ := He.ba eq
  obtain ⟨l1, l2, l3, l4⟩ := He.exc_ok (x := "InvalidLimit") (c.fact (mM 21 rfl))
  obtain ⟨o1, o2, o3, o4⟩ := He.exc_ok (x := "InvalidOperation") (c.fact (mM 22 rfl))
  exact ⟨txt X G c, ⟨He.glo_ok X G (c.fact (mM 19 rfl)), l1, l2, l3, l4⟩, ⟨He.glo_ok X G (c.fact (mM 20 rfl)), o1, o2, o3, o4⟩,
    He.exm_ok (c.fact (mM 23 rfl)), He.exm_ok (c.fact (mM 24 rfl)), He.exm_ok (c.fact (mM 25 rfl)), He.meth_ok (c.fact (mM 26 rfl)), c.dfn (mF 6 rfl), ⟨prB_ok p1, c.dfn (mF 7 rfl)⟩, ⟨prB_ok p2, c.dfn (mF 8 rfl)⟩, ⟨prB_ok p3, c.dfn (mF 9 rfl)⟩,
    eqB_ok q1 (c.dfn (mF 10 rfl)), eqB_ok q2 (c.dfn (mF 11 rfl))⟩
end
end Kx

/- part K31 -/
/-! # K31: the end -/
namespace Kx
open PySem PySem.Spec PyProof.Rows L2
abbrev RW : PySem.W.OpenLaw := PySem.Challenge.rw_deepenough_k19_whole_runs_at_other_limit
theorem law_at {w : World} {K : PySem.W.Frag} {mg : Str → Option Value} {fa : Addr} {h : Heap} (X : K.In h) (G : h.Ns mainGlobals mg) (hmg : mg ("law" : Str) = some (.ref fa)) (c : SaysK w h K) : LamX.LawAtS RW w K C8.CX0 13 63 "_law_script" mg fa h := by
  have T2 := txr X G c
  obtain ⟨⟨fd, F⟩, hg⟩ := T2.t.fn 37 "law" _ rfl
  have ef : fa = He.ga K "law" := by
    rw [hmg] at hg
    cases hg
    rfl
  subst ef
  have hne : (He.cT K ("_law_right", none)).2 ≠ (He.cT K ("law", none)).2 := fun z => by
    obtain ⟨h0, _⟩ := He.ba c.more
    rw [z, Nat.beq_refl] at h0
    cases h0
  have mem : ∀ p ∈ tfL.map (He.cT K), p = He.cT K ("_law_right", none) ∨ p = He.cT K ("law", none) := fun p hp => by
    obtain ⟨q, hq, rfl⟩ := List.mem_map.mp hp
    simp only [tfL, List.mem_cons, List.not_mem_nil, or_false] at hq
    rcases hq with rfl | rfl
    · exact .inl rfl
    · exact .inr rfl
  have in1 : (("_law_right", none) : He.Defn) ∈ tfL := List.mem_cons_self
  have in2 : (("law", none) : He.Defn) ∈ tfL := List.mem_cons_of_mem _ List.mem_cons_self
  refine ⟨fd, tfL.map (He.cT K), spLaw K [((He.cT K ("_law_right", none)).2, qLam "_law_right" (top 67)), ((He.cT K ("law", none)).2, qLam "law" (top 68))], fun p hp => ?_, fun p hp => ?_, fun p hp => ?_, fun s u => ?_, fun H a ns hl _ hH hS => ?_, fun base _ _ TB => ?_⟩
  · obtain ⟨q, hq, rfl⟩ := List.mem_map.mp hp
    exact c.empty q hq
  · obtain ⟨q, hq, rfl⟩ := List.mem_map.mp hp
    exact c.out q hq
  · obtain ⟨q, hq, rfl⟩ := List.mem_map.mp hp
    exact PySem.W.codeHd_of_K X (c.hd q hq)
  · obtain ⟨oc, od, kV, doc, pm, an, cdv, ct, osl, e, lk, hcd⟩ := F.ex
    subst e
    exact .of_eq rfl
  · refine ⟨a, ns, rfl, hS, Nat.le_trans hl (by decide), fun p hp => ?_, fun _ => rfl⟩
    simp only [List.mem_cons, List.not_mem_nil, or_false] at hp
    rcases hp with rfl | rfl
    · exact LamX.TabS.nil (hH _ (List.mem_map.mpr ⟨_, in1, rfl⟩))
    · exact LamX.TabS.nil (hH _ (List.mem_map.mpr ⟨_, in2, rfl⟩))
  · refine f_law T2 (TB _ (List.mem_map.mpr ⟨_, in1, rfl⟩)) List.mem_cons_self (fun p hp e => ?_) (TB _ (List.mem_map.mpr ⟨_, in2, rfl⟩)) (List.mem_cons_of_mem _ List.mem_cons_self) (fun p hp e => ?_) fd F
    · simp only [List.mem_cons, List.not_mem_nil, or_false] at hp
      rcases hp with rfl | rfl
      · rfl
      · exact absurd e.symm hne
    · simp only [List.mem_cons, List.not_mem_nil, or_false] at hp
      rcases hp with rfl | rfl
      · exact absurd e hne
      · rfl
end Kx
open PySem PySem.W PySem.Calls PyProof.Rows
theorem PySem.Challenge.cw_deepenough_k19_whole_runs_at_other_limit_holds : PySem.Challenge.rw_deepenough_k19_whole_runs_at_other_limit.Holds := by
  w_on; o_law
  refine HandSHeadRun.head_any (r := OpenLaw.row PySem.Challenge.rw_deepenough_k19_whole_runs_at_other_limit) (q := Kx.qv) (H := Kx.hk) (ob := Kx.ob) (M := 15000) (loose := Kx.looseL) (d := HandSHeadRun.topDef (OpenLaw.row PySem.Challenge.rw_deepenough_k19_whole_runs_at_other_limit).prog 68) (kwd := []) Kx.ob_eq
    (by kernel_rfl) (fun s => by kernel_rfl) Kx.run (by kernel_rfl) (by kernel_rfl) (by kernel_rfl) (by rfl) (by first | assumption | decide +kernel) (by decide +kernel) ⟨rfl, rfl, rfl, rfl, rfl, by decide +kernel⟩ ?hw ?hc
  case hw => w_witness2
  case hc =>
    refine LamX.walk_ofTsE (l := PySem.Challenge.rw_deepenough_k19_whole_runs_at_other_limit) (n := 63) (k := 13) (x := "_law_script") (CX := fun _ => C8.CX0) rfl (by decide) (by kernel_rfl) ⟨rfl, by decide, by decide⟩ ?F (fun _ _ _ _ _ z => z)
    intro w mg fa h Y G hmg0
    obtain ⟨K, KX, c⟩ := Y
    have hmg : mg ("law" : PySem.Str) = some (.ref fa) := by
      have e : (HandSHeadRun.topDef (OpenLaw.row PySem.Challenge.rw_deepenough_k19_whole_runs_at_other_limit).prog 68).name = ("law" : PySem.Str) := by kernel_rfl
      rw [← e]
      exact hmg0
    exact ⟨K, KX, Kx.law_at KX G hmg c⟩
