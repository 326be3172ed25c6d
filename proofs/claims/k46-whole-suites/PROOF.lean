import PyProof.Rows.All
import Wide.All
import OpenK.AllK
import Wide.FinOn
import KE.KStateDown
import HandS.ForMost
import HandS.Head0
import HandS.Head1
import HandS.Head2
import HandS.HeadEnd
import HandS.HeadHook1
import HandS.HeadHook2
import HandS.HeadHook4
import HandS.HeadWalk
import PySem.Challenge.RW_anytext_k46_whole_suites
import HandS.Codes
import HandS.Defaults
import HandS.Nested
import KE.GoesMore
import HandS.TupSets
import KE.KeyNested
import KE.SortData
import HandS.DictComp
import HandS.TupLen
import HandS.WordsDict
import KE.KDictKeyed
import HandS.GenCall
import HandS.GenList
import HandS.Comp
import HandS.Replace
import PyProof.StrLawsIn
import HandS.Text
import HandS.More
import KE.SortKeyHeap
import HandS.SortKw
import KE.DataCmp
import HandS.Deep
import KE.DataEq
import HandS.Zip
set_option Elab.async false
set_option linter.all false
set_option maxRecDepth 100000
set_option maxHeartbeats 0
namespace K46
open PySem PySem.Spec PyProof.Rows L2
def topS (i : Nat) : Stmt := PySem.Challenge.pw_anytext_k46_whole_suites.main.body.getD i (.Pass ⟨0, 0, 0, 0⟩)
def mkD (x : Str) (i : Nat) : He.DefD := ⟨(x, none), x, x, defArgs (topS i), defBody (topS i), defScope (topS i), [], []⟩
def mkM (C x q : Str) (i j : Nat) : He.DefD := ⟨(C, some x), x, q, defArgs (inClass (topS i) j), defBody (inClass (topS i) j), defScope (inClass (topS i) j), [], []⟩
def fn : List He.DefD := [mkD "order_key" 6, mkD "texts_of" 7, mkM "Machine" "__init__" "Machine.__init__" 9 0, mkM "Machine" "_is_whole" "Machine._is_whole" 9 1,
  mkD "reached" 11, mkD "classes" 12, mkD "least_of" 13, mkD "least" 14, mkD "explored" 16, mkD "paired" 18, mkD "since" 19, mkD "first_text" 21, mkD "parting" 22, mkD "heads" 24, mkD "tails" 25, mkD "suite" 26,
  mkD "_law_cell" 28, mkD "_law_numbers" 29, mkD "_law_state" 30, mkD "_law_next" 31, mkD "_law_letters" 32, mkD "_law_texts" 33, mkD "_law_parts" 34, mkD "_law_accepts" 35, mkD "_law_least" 36, mkD "_law_before" 37, mkD "_law_least_text" 38, mkD "_law_due" 39, mkD "_law_agree" 40, mkD "_law_others" 41, mkD "law" 42]
def gnames : List Str := ["order_key", "texts_of", "Machine", "reached", "classes", "least_of", "least", "explored", "paired", "since", "first_text", "parting", "heads", "tails", "suite", "_law_cell", "_law_numbers", "_law_state", "_law_next", "_law_letters", "_law_texts", "_law_parts", "_law_accepts", "_law_least", "_law_before", "_law_least_text", "_law_due", "_law_agree", "_law_others", "law"]
def bnames : List Str := ["len", "tuple", "int", "set", "list", "sorted", "enumerate", "range", "zip", "abs", "isinstance", "all"]
def fa : List He.Fa := gnames.map He.Fa.glo ++ bnames.map He.Fa.free ++ [.cls "Machine", .noat "Machine" "letters", .noat "Machine" "accepting", .noat "Machine" "table", .meth "Machine" "_is_whole", .mkr "Machine"]
def tf : List He.Defn := [("paired", none), ("since", none), ("parting", none), ("suite", none)]
abbrev R : PySem.W.OpenRow := PySem.W.OpenLaw.row PySem.Challenge.rw_anytext_k46_whole_suites
abbrev hk : PySem.W.Hook := He.hookX 5 fa fn [] tf (fun _ => true)
def ob (s : PySem.W.SharedT) : He.AlX := He.obsX 5 fa fn [] tf (fun _ => true) (HandSHeadRun.getT s)
theorem ob_eq (s : PySem.W.SharedT) : ob s = hk.obs s.abs := He.obsX_eq (HandSHeadRun.getT_eq s)
def loose : List Str := ["__name__"]
abbrev qv : Program := PySem.W.view R.prog [42]

end K46
set_option Elab.async false
set_option linter.all false
set_option maxRecDepth 100000
set_option maxHeartbeats 0
namespace K46
open PySem PySem.Spec PyProof.Rows L2
def la : List Str := ["_wall", "AnytextError", "MachineError", "BadMachine", "order_key", "texts_of", "Machine", "reached", "classes", "least_of", "least", "explored", "paired", "since", "first_text", "parting", "heads", "tails", "suite"]
def lb : List Str := ["_law_cell", "_law_numbers", "_law_state", "_law_next", "_law_letters", "_law_texts", "_law_parts", "_law_accepts", "_law_least", "_law_before", "_law_least_text", "_law_due", "_law_agree", "_law_others"]
def loose2 : List Str := la ++ lb
theorem run (w : World) : HandSHeadRun.RunEq R qv hk ob 3000 loose2 w := by
  intro os
  kernel_rfl
end K46
set_option Elab.async false
set_option linter.all false
set_option maxRecDepth 100000
set_option maxHeartbeats 400000
namespace K46
open PySem PySem.Spec PyProof.Rows L2
/-! ### what the head tells -/
structure Tx (K : PySem.W.Frag) (mg : Str → Option Value) : Prop where
  g : ∀ x ∈ gnames, mg x = some (.ref (He.ga K x))
  b : ∀ x ∈ bnames, mg x = none
  fn : ∀ d ∈ fn, ∃ fd, FunD K d.name d.qual d.params d.body d.scope [] [] (He.fAd K d.at_) fd
  cl : Cls K (He.ga K "Machine")
  nL : NoAttr K (He.ga K "Machine") "letters"
  nA : NoAttr K (He.ga K "Machine") "accepting"
  nT : NoAttr K (He.ga K "Machine") "table"
  mW : Meth K (He.ga K "Machine") "_is_whole" (He.ma K (He.ga K "Machine") "_is_whole")
  mkM : Mk K (He.ga K "Machine") (He.ma K (He.ga K "Machine") "__init__")
  kp : ∀ x ∈ gnames, x ≠ "Machine" → PySem.W.keepIn K (.ref (He.ga K x)) = true
section
variable {P : Program} {w : World} {K : PySem.W.Frag} {mg : Str → Option Value} {base : Heap}
/-- a def of the module, by its body -/
theorem cal_of (T : Tx K mg) {x : Str} {i : Nat} (j : Nat) {N ps : List Str} {k : Nat} {sp : Sp} (hd : fn[j]? = some (mkD x i)) (hg : x ∈ gnames) (S : FnScope N ps (defScope (topS i)))
    (hb : ∀ (kV doc pm : Value) (an : Option Addr) (cdv ct : Value) (us : List Value), us.length = ps.length → bindArgs (PySem.W.fnOf x x (defArgs (topS i)) (defBody (topS i)) (defScope (topS i)) .none kV doc pm an cdv ct) ⟨us, []⟩ = pure (ps.zip us))
    (len : ∀ vs H Q E, sp vs H Q E → vs.length = ps.length)
    (hbody : ∀ (f : Addr) (cdv : Value) (A : Around) (outer : List Env) (s : Shared) (H : Hp) (vs : List V) (Q : VK) (E : XK), Room k (A.deeper (envOfC x (defScope (topS i)) s.heap.objs.size f cdv)) → sp vs H Q E →
      ∃ t, PSs (cxOf CX0 P w K mg base N x (defScope (topS i)) f cdv A outer s H E).nox (defBody (topS i)) t ∧ t { nx := fun _ H' => Q .non H', rt := Q } (start N vs) H) :
    C8.Cal P w K mg base (k + 1) x sp [] := by
  obtain ⟨fd, F⟩ := T.fn _ (List.mem_of_getElem? hd)
  refine ⟨_, fd, ps, [], FunD.ok F S len fun cdv A outer s H vs Q E hr h => ?_, T.g x hg, F.kp, F.bindsN hb, .nil⟩
  obtain ⟨t, h1, h2⟩ := hbody _ cdv A outer s H vs Q E hr h
  exact ⟨t, h1.nox, h2⟩
end
/-! ### heaps -/
theorem same_upd {H : Hp} {p : Addr} {o : HO} (h : H p = none) : Same H (upd H p o) := fun b x e => by
  rw [upd_ne (ne_of_none e h)]
  exact e
theorem same_upd' {H H1 : Hp} {p : Addr} {o : HO} (s : Same H H1) (h : H1 p = none) : Same H (upd H1 p o) := s.trans (same_upd h)
/-- a store to an object that was not there at the start -/
theorem same_store {H H1 : Hp} {p : Addr} {o : HO} (s : Same H H1) (h : H p = none) : Same H (upd H1 p o) := fun b x e => by
  rw [upd_ne (ne_of_none e h)]
  exact s b x e
/-! ### _law_cell -/
theorem scCell : FnScope ["_law_script", "_law_k"] ["_law_script", "_law_k"] (defScope (topS 28)) := C8.fnScope_by (by decide +kernel)
def spCell (K : PySem.W.Frag) : Sp := fun vs H Q _ => ∃ (a : Addr) (ns : List Int) (k : Int), vs = [.ref a, .int k] ∧ SqL K H a (ns.map V.int) ∧ 0 ≤ k ∧ ∀ z : Int, Q (.int z) H
section
variable {P : Program} {w : World} {K : PySem.W.Frag} {mg : Str → Option Value} {base : Heap}
theorem cal_cell (T : Tx K mg) : C8.Cal P w K mg base 1 "_law_cell" (spCell K) [] := by
  refine cal_of T (i := 28) 16 rfl (by decide +kernel) scCell (fun _ _ _ _ _ _ us hl => match us, hl with | [_, _], _ => rfl) (fun vs H Q E h => ?_) (fun f cdv A outer s H vs Q E hr h => ?_)
  · obtain ⟨a, ns, k, rfl, _⟩ := h
    rfl
  · obtain ⟨a, ns, k, rfl, hS, h0, q⟩ := h
    refine ⟨_, pss_cons (ps_if (pt_cmpR op_lt (pv 1) (pe_callB call_len_seq (by rfl) (T.b "len" (by decide +kernel)) PySem.boot_len (pa_cons (pv 0) pa_nil)) (nomark _)) (pss_one (ps_ret (pe_ix ix_list (pv 0) (pv 1) (fun _ _ => rfl)))) pss_nil) (pss_one (ps_ret pe_int)), ?_⟩
    refine ⟨_, rfl, _, rfl, a, _, rfl, .inl hS, k, _, rfl, rfl, _, rfl, ite2 (fun e => ?_) (fun e => ?_)⟩
    · have e1 : k < ((ns.map V.int).length : Int) := of_decide_eq_true e
      rw [List.length_map] at e1
      have hk : k.toNat < ns.length := by omega
      refine ⟨_, rfl, _, rfl, a, _, k, .int ns[k.toNat], rfl, rfl, hS, ?_, q _⟩
      have e2 : (ns.map V.int)[k.toNat]? = some (.int ns[k.toNat]) := by
        rw [List.getElem?_map, List.getElem?_eq_getElem hk]
        rfl
      have e3 := atI_nat e2
      rw [Int.toNat_of_nonneg h0] at e3
      exact e3
    · exact q _
end
end K46
set_option Elab.async false
set_option linter.all false
set_option maxRecDepth 100000
set_option maxHeartbeats 1000000
namespace K46
open PySem PySem.Spec PyProof.Rows L2 NdefX LamX
/-! ### a made function (of a def statement or of a lambda), known at its address -/
structure Clo where
  name : Str
  qual : Str
  params : Arguments
  body : FuncBody
  scope : Scope
  cl : List (Str × Addr)
  c : Addr
abbrev Clo.fd (F : Clo) (doc pm ctv : Value) : FuncData :=
  { name := F.name, qualname := F.qual, params := F.params, body := F.body, scope := F.scope, globals := mainGlobals, closure := F.cl, defaults := .none, kwdefaults := .none, doc, pyModule := pm, annotations := none, code := .ref F.c, closureTuple := ctv, builtins := builtinsNs }
def CloO (f : Addr) (F : Clo) : HO := .ext fun h => ∃ (od : Option Addr) (sl : Array (Option Value)) (doc pm ctv : Value), h.get? f = some (⟨.type "function", od, .func (F.fd doc pm ctv), sl⟩ : Obj)
abbrev cloOf (F : NF) : Clo := ⟨F.name, F.qual, F.params, .stmts F.body, F.scope, F.cl, F.c⟩
theorem fnO_clo (f : Addr) (F : NF) : FnO f F = CloO f (cloOf F) := rfl
theorem cloO_ne {f : Addr} {F : Clo} (ps : Array Value) : CloO f F ≠ .tbl ps := fun z => by
  unfold CloO at z
  cases z
theorem cloO_at {P : Program} {w : World} {H : Hp} {h : Heap} {f : Addr} {F : Clo} (hok : HOk P w H h) (e : H f = some (CloO f F)) : ∃ (od : Option Addr) (sl : Array (Option Value)) (doc pm ctv : Value), h.get? f = some (⟨.type "function", od, .func (F.fd doc pm ctv), sl⟩ : Obj) := (hok f _ e).1
/-- its words but the body's: for the frame -/
abbrev Clo.nf (F : Clo) : NF := ⟨F.name, F.qual, F.params, [], F.scope, F.cl, F.c⟩
/-! ### what it promises -/
structure COk (P : Program) (w : World) (K : PySem.W.Frag) (mg : Str → Option Value) (base : Heap) (k : Nat) (f : Addr) (F : Clo) (ps fr : List Str) (sp : List (Option V) → Sp) : Prop where
  len : ∀ ws vs H Q E, sp ws vs H Q E → vs.length = ps.length
  run : ∀ (A : Around) (outer : List Env) (s : Shared) (H : Hp) (us : List Value) (vs : List V) (ws : List (Option V)) (Q : VK) (E : XK), Room k A → Env0 P w K mg base A outer s H → H f = some (CloO f F) → H F.c = some (CodeO F.c F.qual) →
    CellsAt F.cl fr ws s.heap H → Vals vs us → sp ws vs H Q E → codeAny (model P w) A (.call (.ref f) ⟨us, []⟩) (CR CX0 outer P w H s Q E) s
section
variable {P : Program} {w : World} {K : PySem.W.Frag} {mg : Str → Option Value} {base : Heap} {N ps fr : List Str} {f : Addr} {k j : Nat} {sp sp' : List (Option V) → Sp}
theorem COk.mono {F : Clo} (o : COk P w K mg base j f F ps fr sp) (h : j ≤ k) : COk P w K mg base k f F ps fr sp := ⟨o.len, fun A outer s H us vs ws Q E hr => o.run A outer s H us vs ws Q E (hr.mono h)⟩
theorem COk.of_nok {F : NF} (o : NOk P w K mg base CX0 k f F ps fr sp) : COk P w K mg base k f (cloOf F) ps fr sp := ⟨o.len, fun A outer s H us vs ws Q E hr e0 hf hc C r q => o.run A outer s H us vs ws Q E hr e0 hf hc C r q⟩
/-- a lambda with parameters, by its expression -/
theorem cok_lam {F : Clo} {e : Expr} (he : F.body = .expr e) (S : NScope N ps fr F.scope) (hb : ∀ (doc pm ctv : Value) (us : List Value), us.length = ps.length → bindArgs (F.fd doc pm ctv) ⟨us, []⟩ = pure (ps.zip us)) (len : ∀ ws vs H Q E, sp ws vs H Q E → vs.length = ps.length)
    (hbody : ∀ (A : Around) (outer : List Env) (s : Shared) (H : Hp) (vs : List V) (ws : List (Option V)) (Q : VK) (E : XK), Room k (A.deeper (envF F.nf f s.heap.objs.size)) → ws.length = fr.length → sp ws vs H Q E →
      ∃ t, PE (ncx CX0 P w K mg base N F.nf f A outer s H E).nox e t ∧ t (startF N vs ws) H Q) :
    COk P w K mg base (k + 1) f F ps fr sp := by
  refine ⟨len, fun A outer s H us vs ws Q E hr e0 hf hc C r hsp => ?_⟩
  have lim : s.heap.NoLimit := e0.mod.nolimit.keeps fun b o q => (e0.bs b o q).1
  obtain ⟨od, sl, doc, pm, ctv, ho⟩ := cloO_at e0.hok hf
  refine PySem.W.kla_callFunE (body := e) hr.depth ho rfl S.co S.gen he (codeO_at e0.hok hc) ?_
  rw [hb doc pm ctv us (by rw [← r.length]; exact len _ _ _ _ _ hsp)]
  refine wpAny_pure (wpAny_newFunctionEnv S.nocell (fun ⟨n, _⟩ hy => S.par n (List.of_mem_zip hy).1) (fun h1 hns hsb => ⟨lim.fresh _ hsb, ?_⟩) S.kind)
  show codeAny _ _ (.expr e (envF F.nf f s.heap.objs.size)) _ _
  have kp : ∀ b o, s.heap.get? b = some o → h1.get? b = some o := fun b o q => hsb.extBut b o (Nat.ne_of_lt (Heap.lt_size q)) (Heap.get?_push_of_some _ q)
  obtain ⟨t, ht, hq⟩ := hbody A outer s H vs ws Q E (hr.deeper _) C.len hsp
  have I : Inv (ncx CX0 P w K mg base N F.nf f A outer s H E) [] (startF N vs ws) H { s with heap := h1, toks := s.toks + (ps.zip us).length } := inv_startN S hr.hd e0 (len _ _ _ _ _ hsp) r C hns kp
  refine PySem.W.kla_codeExpr (wpAny_mono (ht.nox.run [] _ (startF N vs ws) H _ I hq) (fun u s' hs => ?_) fun x s' hs => hs)
  obtain ⟨v, H', J, rv, q⟩ := hs
  exact ⟨v, H', J.os, J.bare, J.base, J.hok, rv, q⟩
/-- a nested def, by its body, no exception leaves -/
theorem cok_def {F : NF} (S : NScope N ps fr F.scope) (hb : ∀ (doc pm ctv : Value) (us : List Value), us.length = ps.length → bindArgs (F.fd doc pm ctv) ⟨us, []⟩ = pure (ps.zip us)) (len : ∀ ws vs H Q E, sp ws vs H Q E → vs.length = ps.length)
    (hbody : ∀ (A : Around) (outer : List Env) (s : Shared) (H : Hp) (vs : List V) (ws : List (Option V)) (Q : VK) (E : XK), Room k (A.deeper (envF F f s.heap.objs.size)) → ws.length = fr.length → sp ws vs H Q E →
      ∃ t, PSs (ncx CX0 P w K mg base N F f A outer s H E).nox F.body t ∧ t { nx := fun _ H' => Q .non H', rt := Q } (startF N vs ws) H) :
    COk P w K mg base (k + 1) f (cloOf F) ps fr sp := .of_nok (nok_of S hb len fun A outer s H vs ws Q E hr _ _ hw h => by
  obtain ⟨t, h1, h2⟩ := hbody A outer s H vs ws Q E hr hw h
  exact ⟨t, h1.nox, h2⟩)
end
/-! ### cells that are tracked while a def that was handed the closure runs -/
/-- the captured cells of cl, tracked in H: names fr, values ws -/
structure ClosH (cl : List (Str × Addr)) (fr : List Str) (ws : List V) (H : Hp) : Prop where
  len : ws.length = fr.length
  all : ∀ y c, cl.lookup y = some c → ∃ (o : Obj) (u : Value), H c = some (.frz o (.own 0)) ∧ o.data = .cell (some u)
  inj : ∀ x y c, cl.lookup x = some c → cl.lookup y = some c → x = y
  has : ∀ (i : Nat) (y : Str) (v : V), fr[i]? = some y → ws[i]? = some v → ∃ (c : Addr) (o : Obj) (u : Value), cl.lookup y = some c ∧ H c = some (.frz o (.own 0)) ∧ o.data = .cell (some u) ∧ RelV v u
/-- is a captured cell's address -/
def inCl (cl : List (Str × Addr)) (b : Addr) : Prop := ∃ y, cl.lookup y = some b
open Classical in
/-- H without them; H' with them again as in H -/
noncomputable def hidC (cl : List (Str × Addr)) (H : Hp) : Hp := fun b => if inCl cl b then none else H b
open Classical in
noncomputable def bakC (cl : List (Str × Addr)) (H H' : Hp) : Hp := fun b => if inCl cl b then H b else H' b
theorem hidC_in {cl : List (Str × Addr)} {H : Hp} {b : Addr} (h : inCl cl b) : hidC cl H b = none := if_pos h
theorem hidC_out {cl : List (Str × Addr)} {H : Hp} {b : Addr} (h : ¬ inCl cl b) : hidC cl H b = H b := if_neg h
theorem bakC_in {cl : List (Str × Addr)} {H H' : Hp} {b : Addr} (h : inCl cl b) : bakC cl H H' b = H b := if_pos h
theorem bakC_out {cl : List (Str × Addr)} {H H' : Hp} {b : Addr} (h : ¬ inCl cl b) : bakC cl H H' b = H' b := if_neg h
theorem hidC_some {cl : List (Str × Addr)} {H : Hp} {b : Addr} {o : HO} (h : hidC cl H b = some o) : ¬ inCl cl b ∧ H b = some o := by
  by_cases hb : inCl cl b
  · rw [hidC_in hb] at h
    cases h
  · rw [hidC_out hb] at h
    exact ⟨hb, h⟩
section
variable {P : Program} {w : World} {H H' : Hp} {h h' : Heap} {cl : List (Str × Addr)} {fr : List Str} {ws : List V}
theorem ClosH.frz (C : ClosH cl fr ws H) {b : Addr} (hb : inCl cl b) : ∃ (o : Obj) (u : Value), H b = some (.frz o (.own 0)) ∧ o.data = .cell (some u) := by
  obtain ⟨y, e⟩ := hb
  exact C.all y b e
/-- what stands at no cell stays out -/
theorem ClosH.not_in (C : ClosH cl fr ws H) {b : Addr} {u : HO} (e : H b = some u) (n : ∀ o, u ≠ .frz o (.own 0)) : ¬ inCl cl b := fun hb => by
  obtain ⟨o, _, e2, _⟩ := C.frz hb
  rw [e] at e2
  exact n o (Option.some.inj e2)
theorem ClosH.none_out (C : ClosH cl fr ws H) {b : Addr} (e : H b = none) : ¬ inCl cl b := fun hb => by
  obtain ⟨o, _, e2, _⟩ := C.frz hb
  rw [e] at e2
  cases e2
theorem hok_hid (C : ClosH cl fr ws H) (hok : HOk P w H h) : HOk P w (hidC cl H) h := fun b u e => by
  obtain ⟨_, e1⟩ := hidC_some e
  refine (hok b u e1).stay (fun _ _ _ q => q) (fun d q => ?_) fun d xs q => ?_
  · rw [hidC_out (C.not_in q fun o z => by cases z)]
    exact q
  · rw [hidC_out (C.not_in q fun o z => by cases z)]
    exact q
theorem cells_hid (C : ClosH cl fr ws H) (hok : HOk P w H h) : CellsAt cl fr (ws.map some) h (hidC cl H) := by
  refine ⟨by rw [List.length_map]; exact C.len, fun y c e => ⟨hidC_in ⟨y, e⟩, ?_⟩, C.inj, fun i y e => ?_⟩
  · obtain ⟨o, u, e1, e2⟩ := C.all y c e
    obtain ⟨e3, _⟩ := hok c _ e1
    exact ⟨some u, o, e3, e2⟩
  · have hi : i < ws.length := by
      rw [C.len]
      exact (List.getElem?_eq_some_iff.mp e).1
    obtain ⟨c, o, u, e1, e2, e3, rv⟩ := C.has i y ws[i] e (List.getElem?_eq_getElem hi)
    refine ⟨c, e1, fun v hv => ?_⟩
    rw [List.getElem?_map, List.getElem?_eq_getElem hi] at hv
    have ev : ws[i] = v := Option.some.inj (Option.some.inj hv)
    rw [← ev]
    obtain ⟨e4, _⟩ := hok c _ e2
    exact ⟨u, rv, o, e4, e3⟩
/-- behind the closure's call: the cells are tracked again -/
theorem un_bak {fs : List Addr} (C : ClosH cl fr ws H) (hok : HOk P w H h) (hf : ∀ b ∈ fs, H b = none) (un : Un fs [] (hidC cl H) H' h h') (hok' : HOk P w H' h') :
    Un fs [] H (bakC cl H H') h h' ∧ HOk P w (bakC cl H H') h' := by
  have at0 : ∀ b, inCl cl b → ∃ (o : Obj) (u : Value), H b = some (.frz o (.own 0)) ∧ o.data = .cell (some u) ∧ h.get? b = some o ∧ h'.get? b = some o ∧ H' b = none := fun b hb => by
    obtain ⟨o, u, e1, e2⟩ := C.frz hb
    obtain ⟨e3, _⟩ := hok b _ e1
    exact ⟨o, u, e1, e2, e3, un.keep b o e3 (hidC_in hb) (fun z => by rw [hf b z] at e1; cases e1) (by simp), un.free b o e3 (hidC_in hb) (by simp)⟩
  have outN : ∀ b, H b = none → hidC cl H b = none := fun b n => by
    rw [hidC_out (C.none_out n)]
    exact n
  have keepS : ∀ b u, H b = some u → (∀ o, u ≠ .frz o (.own 0)) → ∀ v, (hidC cl H b = some u → H' b = some v) → bakC cl H H' b = some v := fun b u e n v k => by
    have nb := C.not_in e n
    rw [bakC_out nb]
    exact k (by rw [hidC_out nb]; exact e)
  refine ⟨⟨fun b o e n hb _ => un.keep b o e (outN b n) hb (by simp), fun b o e n hb _ => un.slot b o e (outN b n) hb (by simp), fun b o e n _ => ?_, fun b o e _ => un.there b o e (by simp),
    fun b xs e => keepS b _ e (fun o z => by cases z) _ fun q => un.tups b xs q, fun b o u e => ?_, fun b ps e => ?_⟩, fun b u e => ?_⟩
  · rw [bakC_out (C.none_out n)]
    exact un.free b o e (outN b n) (by simp)
  · by_cases hb : inCl cl b
    · rw [bakC_in hb]
      exact e
    · rw [bakC_out hb]
      exact un.frzs b o u (by rw [hidC_out hb]; exact e)
  · have nb := C.not_in e fun o z => by cases z
    obtain ⟨m, z⟩ := un.tbls b ps (by rw [hidC_out nb]; exact e)
    exact ⟨m, by rw [bakC_out nb]; exact z⟩
  · by_cases hb : inCl cl b
    · rw [bakC_in hb] at e
      obtain ⟨o, u', e1, e2, e3, e4, _⟩ := at0 b hb
      rw [e1] at e
      cases e
      exact ⟨e4, o, e4⟩
    · rw [bakC_out hb] at e
      have out : ∀ d v, H' d = some v → ¬ inCl cl d := fun d v q hd => by
        obtain ⟨_, _, _, _, _, _, z⟩ := at0 d hd
        rw [q] at z
        cases z
      refine (hok' b u e).stay (fun _ _ _ q => q) (fun d q => ?_) fun d xs q => ?_
      · rw [bakC_out (out d _ q)]
        exact q
      · rw [bakC_out (out d _ q)]
        exact q
theorem ClosH.ext (C : ClosH cl fr ws H) (e : ExtN H H') : ClosH cl fr ws H' := by
  have k : ∀ c o, H c = some (.frz o (.own 0)) → H' c = some (.frz o (.own 0)) := fun c o q => e c _ q fun ps z => by cases z
  refine ⟨C.len, fun y c q => ?_, C.inj, fun i y v a b => ?_⟩
  · obtain ⟨o, u, e1, e2⟩ := C.all y c q
    exact ⟨o, u, k c o e1, e2⟩
  · obtain ⟨c, o, u, e1, e2, e3⟩ := C.has i y v a b
    exact ⟨c, o, u, e1, k c o e2, e3⟩
/-- what the closure left as it was, is so with the cells -/
theorem same_bak (C : ClosH cl fr ws H) (s : Same (hidC cl H) H') : Same H (bakC cl H H') := fun b o e => by
  by_cases hb : inCl cl b
  · rw [bakC_in hb]
    exact e
  · rw [bakC_out hb]
    exact s b o (by rw [hidC_out hb]; exact e)
end
/-- a closure that may be called: its object, its code object, its cells -/
structure CloAt (f : Addr) (F : Clo) (fr : List Str) (ws : List V) (H : Hp) : Prop where
  fn : H f = some (CloO f F)
  code : H F.c = some (CodeO F.c F.qual)
  cells : ClosH F.cl fr ws H
theorem CloAt.ext {f : Addr} {F : Clo} {fr : List Str} {ws : List V} {H H' : Hp} (C : CloAt f F fr ws H) (e : ExtN H H') : CloAt f F fr ws H' :=
  ⟨e f _ C.fn cloO_ne, e _ _ C.code codeO_ne, C.cells.ext e⟩
theorem CloAt.same {f : Addr} {F : Clo} {fr : List Str} {ws : List V} {H H' : Hp} (C : CloAt f F fr ws H) (e : Same H H') : CloAt f F fr ws H' := C.ext (ExtN.of e)
section
variable {X : Cx} {F : Clo} {ps fr : List Str} {ws : List V} {i j k : Nat} {x : Str} {sp : List (Option V) → Sp} {E : XK} {t : TA} {e : Expr} {es : List Expr} {p pos : Pos} {f : Addr}
/-- the call of a tracked closure -/
theorem run_clo {pins : List (Addr × Obj)} {σ : L2.St} {H : Hp} {s : Shared} {Q : VK} {us : List Value} {vs : List V} (Fn : COk X.prog X.w X.K X.mg X.base k f F ps fr sp) (hr : Room k X.A) (I : Inv X pins σ H s) (C : CloAt f F fr ws H) (r : Vals vs us)
    (q : sp (ws.map some) vs (hidC F.cl H) (fun v H' => Q v (bakC F.cl H H')) E0) : wpAny (model X.prog X.w) X.A (call (.ref f) us) (EP X pins σ Q) X.xe s := by
  have e0 := I.env0
  have nf : ¬ inCl F.cl f := C.cells.not_in C.fn fun o z => by
    unfold CloO at z
    cases z
  have nc : ¬ inCl F.cl F.c := C.cells.not_in C.code fun o z => by
    unfold CodeO at z
    cases z
  have e1 : Env0 X.prog X.w X.K X.mg X.base X.A X.stack s (hidC F.cl H) := ⟨e0.frames, e0.mod, fun b o q => ⟨(e0.bs b o q).1, by rw [hidC_out (C.cells.none_out (e0.bs b o q).2)]; exact (e0.bs b o q).2⟩, e0.bsz, e0.funs,
    fun b hb => by rw [hidC_out (C.cells.none_out (e0.frf b hb))]; exact e0.frf b hb, hok_hid C.cells e0.hok, e0.bare⟩
  refine wpAny_call (codeAny_mono (Fn.run X.A X.stack s (hidC F.cl H) us vs (ws.map some) _ E0 hr e1 (by rw [hidC_out nf]; exact C.fn) (by rw [hidC_out nc]; exact C.code) (cells_hid C.cells e0.hok) r q) fun r s' hq => ?_)
  cases r with
  | error e => exact False.elim hq
  | ok fl =>
    cases fl with
    | next => exact False.elim hq
    | brk => exact False.elim hq
    | cont => exact False.elim hq
    | ret u =>
      obtain ⟨v, H', os, bare, un, hok', rv, q⟩ := hq
      obtain ⟨un2, hok2⟩ := un_bak C.cells e0.hok e0.frf un hok'
      exact I.after ⟨v, _, os, bare, un2, hok2, rv, q⟩
def tCallV (i : Nat) (f : Addr) (F : Clo) (fr : List Str) (ws : List V) (sp : List (Option V) → Sp) (t : TA) : TE := fun σ H Q => σ[i]? = some (some (.ref f)) ∧ CloAt f F fr ws H ∧ t σ H fun vs H1 => CloAt f F fr ws H1 ∧ sp (ws.map some) vs (hidC F.cl H1) (fun v H2 => Q v (bakC F.cl H1 H2)) E0
/-- x(e, ..), x a name that holds it -/
theorem pe_callv (Fn : COk X.prog X.w X.K X.mg X.base k f F ps fr sp) (hr : Room k X.A) (hN : X.N[i]? = some x) (hv : Vis X.env.scope x) (ha : PA X (e :: es) t)
    (hd : (x == ("__debug__" : Str)) = false := by decide) (hcd : (x == ("__classdict__" : Str)) = false := by decide)
    (he : starEach (e :: es) X.env = (false, eval e X.env) :: starEach es X.env := by rfl) (hpl : (backTo pos (starEach es X.env)).any (·.1) = false := by rfl) :
    PE X (.Call (.Name x p) (e :: es) [] pos) (tCallV i f F fr ws sp t) := by
  refine ⟨fun pins s σ H Q I h => ?_⟩
  obtain ⟨hs, C0, ht⟩ := h
  have fat : ∀ {H1 : Hp} {s1 : Shared}, Inv X pins σ H1 s1 → CloAt f F fr ws H1 → PySem.W.FnAt f s1.heap := fun I1 C => by
    obtain ⟨od, sl, doc, pm, ctv, ho⟩ := cloO_at I1.hok C.fn
    exact ⟨_, od, _, sl, ho⟩
  refine wpAny_Call_Name_kw (thn ((pe_var (pos := p) hN hv hd hcd).run pins s σ H (fun v H1 => v = .ref f ∧ H1 = H) I ⟨.ref f, hs, rfl, rfl⟩) fun u s1 ⟨v, H1, I1, r1, q1⟩ => ?_)
  obtain ⟨rfl, rfl⟩ := q1
  obtain rfl : u = Value.ref f := r1
  refine PySem.W.callWith_F (first := []) (fat I1 C0) (thn (ha.run pos pins s1 σ H1 _ I1 ht) fun us s2 ⟨vs, H2, I2, r, C2, q⟩ => ⟨fat I2 C2, ?_⟩) he hpl
  show wpAny _ _ (call (.ref f) us) _ _ _
  exact run_clo Fn hr I2 C2 r q
end
end K46
set_option Elab.async false
set_option linter.all false
set_option maxRecDepth 100000
set_option maxHeartbeats 1000000
namespace K46
open PySem PySem.Spec PyProof.Rows L2 NdefX LamX
/-! ### a lambda is made: its object is known from now on -/
section
variable {X : Cx} {pins : List (Addr × Obj)} {σ : L2.St} {H : Hp} {s : Shared}
theorem inv_clo {F : Clo} {o : Obj} {t' : Nat} {doc pm ctv : Value} (I : Inv X pins σ H s) (ho : o = { cls := .type "function", data := .func (F.fd doc pm ctv) }) :
    Inv X pins σ (upd H s.heap.objs.size (CloO s.heap.objs.size F)) { s with heap := s.heap.push o, toks := t' } := by
  rw [ho]
  have e : (s.heap.push ({ cls := .type "function", data := .func (F.fd doc pm ctv) } : Obj)).get? s.heap.objs.size = some ({ cls := .type "function", data := .func (F.fd doc pm ctv) } : Obj) := Heap.get?_push_size _ rfl
  exact I.laid (a := s.heap.objs.size) (fun b u q => Heap.get?_push_of_some _ q) (Nat.le_refl _) ⟨⟨none, #[], doc, pm, ctv, e⟩, ⟨_, e⟩, fun h1 h2 ⟨od, sl, d, p, t, z⟩ st => ⟨od, sl, d, p, t, st _ z⟩⟩
/-- what is told of a new closure -/
def NewClo (T : List NTab) (H : Hp) (F : Addr → Clo) (Q : Addr → Addr → Hp → Prop) : Prop := TabsN T H ∧ ∀ (f c' : Addr) (H1 : Hp), ExtN H H1 → (∀ b, H1 b = none → H b = none) → TabsN T H1 → H f = none → H1 f = some (CloO f (F c')) → H1 c' = some (CodeO c' (F c').qual) → Q f c' H1
abbrev lamClo (X : Cx) (params : Arguments) (body : Expr) (scope : Scope) (c' : Addr) : Clo := ⟨"<lambda>", X.env.qual ++ "<lambda>", params, .expr body, scope, cloFrom X.env.cells scope.names [], c'⟩
theorem lam_makeN {T : List NTab} {nm : Nat → Nat → Str} {c P : Addr} {params : Arguments} {body : Expr} {scope : Scope} {pos : Pos} {E : Value → Shared → Prop} {Q : Value → Shared → Prop} {Q1 : Addr → Addr → Hp → Prop} (I : Inv X pins σ H s) (TB : TabB X.base X.mg c P) (hcode : X.env.code = .ref c)
    (hm : (P, nm) ∈ T) (hn : nm pos.line pos.col = X.env.qual ++ "<lambda>") (hu : ∀ p ∈ T, p.1 = P → p.2 = nm) (hdef : defaultsOf params X.env = ([], [])) (hfree : ∀ y ∈ scope.names, y.2 = .free → ∃ c, X.env.cells.lookup y.1 = some c)
    (h : NewClo T H (lamClo X params body scope) Q1) (k : ∀ (f c' : Addr) (H1 : Hp) (s' : Shared), Inv X pins σ H1 s' → Q1 f c' H1 → Q (.ref f) s') :
    wpAny (model X.prog X.w) X.A (eval (.Lambda params body scope pos) X.env) Q E s := by
  obtain ⟨hT, h⟩ := h
  obtain ⟨ps, hP, ht, ha⟩ := (show TabN H P nm from hT _ hm)
  refine PySem.W.kla_eval hdef ?_
  have bP : s.heap.BuiltinsAt X.mg P := TB.bm.keeps I.bk
  have hP' : s.heap.get? P = some { cls := .none, data := .fields ps } := I.hok P _ hP
  cases hc : codeAmong pos ps.toList with
  | some cv =>
    obtain ⟨c', e, hco⟩ := ha pos cv hc
    rw [hn] at hco
    rw [e] at hc
    refine PySem.W.kla_makeFunctionHit (mg := X.mg) (c := c) (P := P) (ps := ps) (closure_ok hfree) I.ok.glob (I.mod.glob.keeps I.bk) hcode (TB.code.keeps I.bk) hP' ht hc bP fun ctv h' tk hx _ => ?_
    have I1 : Inv X pins σ H { s with heap := h', toks := tk } := I.kept hx
    have nF : H h'.objs.size = none := I1.hok.fresh (Nat.le_refl _)
    refine k h'.objs.size c' _ _ (inv_clo (F := lamClo X params body scope c') (t' := tk) (doc := .none) (pm := (X.mg "__name__").getD .none) (ctv := ctv) I1 rfl)
      (h _ _ _ (fun b o e _ => (upd_ne (ne_of_none e nF)).trans e) (fun b e => upd_none e) (hT.ext fun b o e => (upd_ne (ne_of_none e nF)).trans e) nF upd_same ?_)
    exact (upd_ne (ne_of_none hco nF)).trans hco
  | none =>
    refine PySem.W.kla_makeFunction (mg := X.mg) (c := c) (P := P) (ps := ps) (closure_ok hfree) I.ok.glob (I.mod.glob.keeps I.bk) hcode (TB.code.keeps I.bk) hP' ht hc TB.gP bP fun c' ctv h' tk hx hge hlt hrec htb => ?_
    obtain ⟨c2, oc, vs, t, e2, hoc, hd, hv⟩ := hrec
    cases e2
    have nC : H c' = none := I.hok.fresh hge
    have I1 := inv_table (t' := tk) (more := #[rawInt pos.line, rawInt pos.col, .ref c']) (h' := h') I hP (fun b o hb e => hx b o hb e) htb hge ⟨oc, vs, t, hoc, hd, hv⟩
    have hE : ExtN H (upd (upd H P (.tbl (ps ++ #[rawInt pos.line, rawInt pos.col, .ref c']))) c' (CodeO c' (X.env.qual ++ "<lambda>"))) := fun b o e n => by
      have nbP : b ≠ P := fun z => n ps (Option.some.inj (e.symm.trans (by rw [z]; exact hP)))
      rw [upd_ne (ne_of_none e nC), upd_ne nbP]
      exact e
    have eL : (ps ++ #[rawInt pos.line, rawInt pos.col, .ref c']).toList = ps.toList ++ [rawInt pos.line, rawInt pos.col, .ref c'] := by simp
    have T1 : TabsN T (upd (upd H P (.tbl (ps ++ #[rawInt pos.line, rawInt pos.col, .ref c']))) c' (CodeO c' (X.env.qual ++ "<lambda>"))) := fun p hp => by
      by_cases hb : p.1 = P
      · rw [hu p hp hb, hb]
        refine ⟨_, by rw [upd_ne (ne_of_none hP nC), upd_same], by rw [eL]; exact PySem.TriplesOk_snoc _ _ _ _ ht, fun p' cv hcv => ?_⟩
        rw [eL] at hcv
        rcases among_app2 _ ht hcv with z | ⟨z, z1, z2⟩
        · obtain ⟨c0, e1, e2⟩ := ha p' cv z
          exact ⟨c0, e1, hE _ _ e2 codeO_ne⟩
        · exact ⟨c', z, by rw [← z1, ← z2, hn]; exact upd_same⟩
      · obtain ⟨ps', a1, a2, a3⟩ := hT p hp
        refine ⟨ps', by rw [upd_ne (ne_of_none a1 nC), upd_ne hb]; exact a1, a2, fun p' cv hcv => ?_⟩
        obtain ⟨c0, e1, e2⟩ := a3 p' cv hcv
        exact ⟨c0, e1, hE _ _ e2 codeO_ne⟩
    have nF := I1.hok.fresh (Nat.le_refl _)
    refine k h'.objs.size c' _ _ (inv_clo (F := lamClo X params body scope c') (t' := tk) (doc := .none) (pm := (X.mg "__name__").getD .none) (ctv := ctv) I1 rfl)
      (h _ _ _ (fun b o e n => ?_) (fun b e => upd_none (upd_none (upd_none e))) (T1.ext fun b o e => (upd_ne (ne_of_none e nF)).trans e) (I.hok.fresh (Nat.le_trans hge (Nat.le_of_lt hlt))) upd_same ?_)
    · have e1 := hE b o e n
      exact (upd_ne (ne_of_none e1 nF)).trans e1
    · exact (upd_ne (Nat.ne_of_lt hlt)).trans upd_same
end
def tLamN (T : List NTab) (F : Addr → Clo) : TE := fun _ H Q => NewClo T H F fun f _ H1 => Q (.ref f) H1
section
variable {X : Cx}
/-- lambda ..: .. -/
theorem pe_lambda {T : List NTab} {nm : Nat → Nat → Str} {c P : Addr} {params : Arguments} {body : Expr} {scope : Scope} {pos : Pos} (TB : TabB X.base X.mg c P) (hcode : X.env.code = .ref c)
    (hm : (P, nm) ∈ T) (hn : nm pos.line pos.col = X.env.qual ++ "<lambda>") (hu : ∀ p ∈ T, p.1 = P → p.2 = nm) (hdef : defaultsOf params X.env = ([], []))
    (hfree : ∀ y ∈ scope.names, y.2 = .free → X.env.scope.names.lookup y.1 = some .cell ∨ X.env.scope.names.lookup y.1 = some .free) :
    PE X (.Lambda params body scope pos) (tLamN T (lamClo X params body scope)) := by
  refine ⟨fun pins s σ H Q I h => ?_⟩
  have hfr : ∀ y ∈ scope.names, y.2 = .free → ∃ c, X.env.cells.lookup y.1 = some c := fun y hy e => (hfree y hy e).elim (fun z => I.ok.has _ (.inl z)) fun z => I.ok.has _ (.inr z)
  exact lam_makeN (Q := EP X pins σ Q) I TB hcode hm hn hu hdef hfr h fun f c' H1 s' I1 q => ⟨.ref f, H1, I1, rfl, q⟩
end
/-! ### a def is called while the caller's cells are tracked -/
/-- cs: names, cells, their objects -/
abbrev Cells := List (Str × Addr × Obj)
def Cells.at (cs : Cells) (b : Addr) : Option (Str × Addr × Obj) := cs.find? fun p => decide (p.2.1 = b)
def trk (cs : Cells) (H : Hp) : Hp := fun b => match cs.at b with
  | some p => some (.frz p.2.2 (.own 0))
  | none => H b
def untrk (cs : Cells) (H : Hp) : Hp := fun b => match cs.at b with
  | some _ => none
  | none => H b
theorem Cells.at_some {cs : Cells} {b : Addr} {p : Str × Addr × Obj} (h : cs.at b = some p) : p ∈ cs ∧ p.2.1 = b := ⟨List.mem_of_find?_eq_some h, of_decide_eq_true (List.find?_some (p := fun p : Str × Addr × Obj => decide (p.2.1 = b)) h)⟩
theorem Cells.at_none {cs : Cells} {b : Addr} (h : cs.at b = none) : ∀ p ∈ cs, p.2.1 ≠ b := fun p hp e => by
  have z := List.find?_eq_none.mp h p hp
  exact z (decide_eq_true e)
theorem trk_at {cs : Cells} {H : Hp} {b : Addr} {p : Str × Addr × Obj} (h : cs.at b = some p) : trk cs H b = some (.frz p.2.2 (.own 0)) := by
  unfold trk
  rw [h]
theorem trk_out {cs : Cells} {H : Hp} {b : Addr} (h : cs.at b = none) : trk cs H b = H b := by
  unfold trk
  rw [h]
theorem untrk_at {cs : Cells} {H : Hp} {b : Addr} {p : Str × Addr × Obj} (h : cs.at b = some p) : untrk cs H b = none := by
  unfold untrk
  rw [h]
theorem untrk_out {cs : Cells} {H : Hp} {b : Addr} (h : cs.at b = none) : untrk cs H b = H b := by
  unfold untrk
  rw [h]
/-- the caller's own cells: names, what they hold -/
structure CellsOf (X : Cx) (σ : L2.St) (H : Hp) (cs : Cells) : Prop where
  free : ∀ p ∈ cs, H p.2.1 = none
  cell : ∀ p ∈ cs, X.env.cells.lookup p.1 = some p.2.1
  val : ∀ p ∈ cs, ∀ (i : Nat) (v : V), X.N[i]? = some p.1 → σ[i]? = some (some v) → ∃ u, p.2.2.data = .cell (some u) ∧ RelV v u
theorem trk_ext {cs : Cells} {H : Hp} (h : ∀ p ∈ cs, H p.2.1 = none) : Same H (trk cs H) := fun b o e => by
  cases q : cs.at b with
  | none => rw [trk_out q]; exact e
  | some p =>
    obtain ⟨h1, h2⟩ := Cells.at_some q
    have z := h p h1
    rw [h2, e] at z
    cases z
/-- untracked again, what stood stands -/
theorem untrk_same {cs : Cells} {H H' : Hp} (h : ∀ p ∈ cs, H p.2.1 = none) (s : ExtN (trk cs H) H') : ExtN H (untrk cs H') := fun b o e n => by
  cases q : cs.at b with
  | none => rw [untrk_out q]; exact s b o (by rw [trk_out q]; exact e) n
  | some p =>
    obtain ⟨h1, h2⟩ := Cells.at_some q
    have z := h p h1
    rw [h2, e] at z
    cases z
/-- f(e, ..) by the def's promise; names xs of the def are tracked meanwhile -/
def tCallT (X : Cx) (xs : List Str) (sp : Sp) (t : TA) : TE := fun σ H Q => t σ H fun vs H1 => ∀ cs : Cells, cs.map (·.1) = xs → CellsOf X σ H1 cs → sp vs (trk cs H1) (fun v H2 => Q v (untrk cs H2)) E0
section
variable {X : Cx} {k j : Nat} {x : Str} {sp : Sp} {p pos : Pos} {e : Expr} {es : List Expr} {t : TA} {xs : List Str}
theorem run_trk {pins : List (Addr × Obj)} {σ : L2.St} {H : Hp} {s : Shared} {f : Addr} {fd : FuncData} {ps : List Str} {us : List Value} {vs : List V} {Q : VK} (F : FnOk X.prog X.w X.K X.mg X.base CX0 k f fd ps sp) (hr : Room k X.A) (hb : Binds X.K fd ps []) (hown : ∀ y ∈ xs, X.env.scope.names.lookup y = some .cell ∧ X.fn y = true ∧ ∃ i : Nat, X.N[i]? = some y ∧ ∃ v, σ[i]? = some (some v))
    (hN : X.N.Nodup) (hst : X.stack = X.env :: X.outer) (I : Inv X pins σ H s) (r : Vals vs us) (h : ∀ cs : Cells, cs.map (·.1) = xs → CellsOf X σ H cs → sp vs (trk cs H) (fun v H2 => Q v (untrk cs H2)) E0) :
    wpAny (model X.prog X.w) X.A (call (.ref f) us) (EP X pins σ Q) X.xe s := by
  -- the cells
  have one : ∀ y ∈ xs, ∃ (c : Addr) (o : Obj), X.env.cells.lookup y = some c ∧ X.s_0.heap.objs.size ≤ c ∧ s.heap.get? c = some o ∧ ∀ (i : Nat) (v : V), X.N[i]? = some y → σ[i]? = some (some v) → ∃ u, o.data = .cell (some u) ∧ RelV v u := fun y hy => by
    obtain ⟨hk, hfn, i, hi, v, hv⟩ := hown y hy
    obtain ⟨c, hc⟩ := I.ok.has y (.inl hk)
    obtain ⟨m, hn, hl⟩ := I.loc
    obtain ⟨u, rv, l⟩ := hl i y v hi hv (.inr (.inl hk))
    rcases l with ⟨z, _⟩ | ⟨_, c', hc', o, ho, hd⟩
    · have z' : X.env.scope.names.lookup y = some .local := z
      rw [hk] at z'
      cases z'
    · rw [hc] at hc'
      cases hc'
      refine ⟨c, o, hc, I.ok.cab y c hfn hc, ho, fun i' v' hi' hv' => ?_⟩
      have ei : i' = i := nodup_ix hN hi' hi
      subst ei
      rw [hv] at hv'
      cases hv'
      exact ⟨u, hd, rv⟩
  have many : ∀ l : List Str, (∀ y ∈ l, y ∈ xs) → ∃ cs : Cells, cs.map (·.1) = l ∧ ∀ p ∈ cs, X.env.cells.lookup p.1 = some p.2.1 ∧ X.s_0.heap.objs.size ≤ p.2.1 ∧ s.heap.get? p.2.1 = some p.2.2 ∧ ∀ (i : Nat) (v : V), X.N[i]? = some p.1 → σ[i]? = some (some v) → ∃ u, p.2.2.data = .cell (some u) ∧ RelV v u := by
    intro l
    induction l with
    | nil => exact fun _ => ⟨[], rfl, fun p hp => by cases hp⟩
    | cons y l ih =>
      intro hl
      obtain ⟨cs, h1, h2⟩ := ih fun z hz => hl z (List.mem_cons_of_mem _ hz)
      obtain ⟨c, o, a1, a2, a3, a4⟩ := one y (hl y List.mem_cons_self)
      refine ⟨(y, c, o) :: cs, by rw [List.map_cons, h1], fun p hp => ?_⟩
      rcases List.mem_cons.mp hp with rfl | hp
      · exact ⟨a1, a2, a3, a4⟩
      · exact h2 p hp
  obtain ⟨cs, hcs, hc⟩ := many xs fun y hy => hy
  have hfree : ∀ p ∈ cs, H p.2.1 = none := fun p hp => I.freeC p.1 p.2.1 (hc p hp).1
  have hq := h cs hcs ⟨hfree, fun p hp => (hc p hp).1, fun p hp => (hc p hp).2.2.2⟩
  have e0 := I.env0
  have frN : ∀ b ∈ frs X.stack, cs.at b = none := fun b hb => by
    cases q : cs.at b with
    | none => rfl
    | some p =>
      obtain ⟨h1, h2⟩ := Cells.at_some q
      obtain ⟨a1, a2, a3, a4⟩ := hc p h1
      rcases List.mem_cons.mp (I.stkSub b hb) with z | z
      · exact absurd (h2.trans z) (I.cne _ _ a1)
      · obtain ⟨_, o, ho, _⟩ := I.ok.funs.mem z
        rw [← h2] at ho
        exact absurd (Nat.lt_of_lt_of_le (Heap.lt_size ho) a2) (Nat.lt_irrefl _)
  have bsN : ∀ b o, X.base.get? b = some o → cs.at b = none := fun b o q => by
    cases z : cs.at b with
    | none => rfl
    | some p =>
      obtain ⟨h1, h2⟩ := Cells.at_some z
      obtain ⟨a1, a2, a3, a4⟩ := hc p h1
      have l1 := Heap.lt_size q
      rw [← h2] at l1
      exact absurd (Nat.lt_of_lt_of_le (Nat.lt_of_lt_of_le l1 I.ok.bsz) a2) (Nat.lt_irrefl _)
  have hokT : HOk X.prog X.w (trk cs H) s.heap := fun b u q => by
    cases z : cs.at b with
    | some p =>
      obtain ⟨h1, h2⟩ := Cells.at_some z
      rw [trk_at z] at q
      cases q
      have e1 := (hc p h1).2.2.1
      rw [h2] at e1
      exact ⟨e1, _, e1⟩
    | none =>
      rw [trk_out z] at q
      exact (I.hok b u q).stay (fun _ _ _ y => y) (fun d y => trk_ext hfree d _ y) fun d xs y => trk_ext hfree d _ y
  have e1 : Env0 X.prog X.w X.K X.mg X.base X.A X.stack s (trk cs H) := ⟨e0.frames, e0.mod, fun b o q => ⟨(e0.bs b o q).1, by rw [trk_out (bsN b o q)]; exact (e0.bs b o q).2⟩, e0.bsz, e0.funs, fun b hb => by rw [trk_out (frN b hb)]; exact e0.frf b hb, hokT, e0.bare⟩
  have hlen : (us ++ []).length = ps.length := by rw [List.append_nil, ← r.length]; exact F.len _ _ _ _ hq
  have hbd := hb s us I.kIn hlen
  rw [List.append_nil] at hbd
  refine wpAny_call (codeAny_mono (F.run X.A X.stack s (trk cs H) ⟨us, []⟩ us vs _ E0 hr e1 hbd r hq) fun r s' hq => ?_)
  cases r with
  | error e => exact False.elim hq
  | ok fl =>
    cases fl with
    | next => exact False.elim hq
    | brk => exact False.elim hq
    | cont => exact False.elim hq
    | ret u =>
      obtain ⟨v, H', os, bare, un, hok', rv, q⟩ := hq
      have at1 : ∀ b p, cs.at b = some p → H' b = some (.frz p.2.2 (.own 0)) := fun b p z => un.frzs b _ _ (trk_at z)
      have ltC : ∀ b p, cs.at b = some p → s.heap.get? b = some p.2.2 := fun b p z => by
        obtain ⟨h1, h2⟩ := Cells.at_some z
        have e1 := (hc p h1).2.2.1
        rw [h2] at e1
        exact e1
      refine I.after ⟨v, untrk cs H', os, bare, ⟨fun b o y n hb hx => ?_, fun b o y n hb hx => ?_, fun b o y n hx => ?_, un.there, fun b xs y => ?_, fun b o u y => ?_, fun b ps y => ?_⟩, fun b u y => ?_, rv, q⟩
      · cases z : cs.at b with
        | none => exact un.keep b o y (by rw [trk_out z]; exact n) hb hx
        | some p =>
          obtain ⟨e2, _⟩ := hok' b _ (at1 b p z)
          rw [ltC b p z] at y
          cases y
          exact e2
      · exact un.slot b o y (by rw [trk_out (frN b hb)]; exact n) hb hx
      · cases z : cs.at b with
        | none => rw [untrk_out z]; exact un.free b o y (by rw [trk_out z]; exact n) hx
        | some p => exact untrk_at z
      · have z : cs.at b = none := by
          cases z : cs.at b with
          | none => rfl
          | some p =>
            obtain ⟨h1, h2⟩ := Cells.at_some z
            have e2 := hfree p h1
            rw [h2, y] at e2
            cases e2
        rw [untrk_out z]
        exact un.tups b xs (by rw [trk_out z]; exact y)
      · have z : cs.at b = none := by
          cases z : cs.at b with
          | none => rfl
          | some p =>
            obtain ⟨h1, h2⟩ := Cells.at_some z
            have e2 := hfree p h1
            rw [h2, y] at e2
            cases e2
        rw [untrk_out z]
        exact un.frzs b o u (by rw [trk_out z]; exact y)
      · have z : cs.at b = none := by
          cases z : cs.at b with
          | none => rfl
          | some p =>
            obtain ⟨h1, h2⟩ := Cells.at_some z
            have e2 := hfree p h1
            rw [h2, y] at e2
            cases e2
        obtain ⟨m, e2⟩ := un.tbls b ps (by rw [trk_out z]; exact y)
        exact ⟨m, by rw [untrk_out z]; exact e2⟩
      · cases z : cs.at b with
        | some p =>
          rw [untrk_at z] at y
          cases y
        | none =>
          rw [untrk_out z] at y
          have out : ∀ d u, H' d = some u → (∀ o, u ≠ .frz o (.own 0)) → untrk cs H' d = some u := fun d u a n => by
            cases z : cs.at d with
            | none => rw [untrk_out z]; exact a
            | some p =>
              rw [at1 d p z] at a
              exact absurd (Option.some.inj a).symm (n _)
          exact (hok' b u y).stay (fun _ _ _ a => a) (fun d a => out d _ a fun o z => by cases z) fun d xs a => out d _ a fun o z => by cases z
theorem pe_callT (c : C8.Cal X.prog X.w X.K X.mg X.base k x sp []) (hr : Room j X.A) (hk : k ≤ j) (hg : Gl X x) (hN : X.N.Nodup) (hst : X.stack = X.env :: X.outer) (js : List Nat) (hjs : js.map (fun i => X.N[i]?) = xs.map some) (hcl : ∀ y ∈ xs, X.env.scope.names.lookup y = some .cell ∧ X.fn y = true) (ha : PA X (e :: es) t)
    (hdb : (x == ("__debug__" : Str)) = false := by decide) (he : starEach (e :: es) X.env = (false, eval e X.env) :: starEach es X.env := by rfl) (hpl : (backTo pos (starEach es X.env)).any (·.1) = false := by rfl) :
    PE X (.Call (.Name x p) (e :: es) [] pos) (fun σ H Q => (∀ i ∈ js, ∃ v, σ[i]? = some (some v)) ∧ tCallT X xs sp t σ H Q) := by
  obtain ⟨f, fd, ps, ds, F, hm, kp, b, d⟩ := c.ex
  cases d
  refine ⟨fun pins s σ H Q I ⟨hv, h⟩ => ?_⟩
  refine wpAny_Call_Name_kw (ld_glob I hg hm ?_ hdb)
  refine PySem.W.callWith_K (h₀ := X.base) I.ok.mod.kin kp (thn (ha.run pos pins s σ H _ I h) fun us s1 ⟨vs, H1, I1, r, q⟩ => ⟨I1.kIn, ?_⟩) he hpl
  refine run_trk F (hr.mono hk) b (fun y hy => ?_) hN hst I1 r q
  obtain ⟨n, hn⟩ := List.mem_iff_getElem?.mp hy
  have e1 : (js.map fun i => X.N[i]?)[n]? = some (some y) := by
    rw [hjs, List.getElem?_map, hn]
    rfl
  rw [List.getElem?_map] at e1
  cases ei : js[n]? with
  | none =>
    rw [ei] at e1
    cases e1
  | some i =>
    rw [ei] at e1
    have e2 : X.N[i]? = some y := Option.some.inj e1
    exact ⟨(hcl y hy).1, (hcl y hy).2, i, e2, hv i (List.mem_of_getElem? ei)⟩
end
/-- the closure's cells among those tracked -/
theorem closH_of {X : Cx} {σ : L2.St} {H : Hp} {cs : Cells} {scope : Scope} {fr : List Str} {js : List Nat} {ws : List V} (C : CellsOf X σ H cs) (ok : X.Ok) (hN : ∀ y ∈ fr, ∃ p ∈ cs, p.1 = y) (hsub : ∀ y ∈ scope.names, y.2 = .free → y.1 ∈ fr) (hsup : ∀ y ∈ fr, (y, NameKind.free) ∈ scope.names)
    (hfree : ∀ y ∈ scope.names, y.2 = .free → X.env.scope.names.lookup y.1 = some .cell ∨ X.env.scope.names.lookup y.1 = some .free)
    (hjs : js.map (fun j => X.N[j]?) = fr.map some) (hws : js.map (fun j => σ[j]?) = ws.map fun v => some (some v)) : ClosH (cloFrom X.env.cells scope.names []) fr ws (trk cs H) := by
  have hf : ∀ y ∈ scope.names, y.2 = .free → ∃ c, X.env.cells.lookup y.1 = some c := fun y hy e => (hfree y hy e).elim (fun z => ok.has _ (.inl z)) fun z => ok.has _ (.inr z)
  have l1 : js.length = fr.length := by
    have q := congrArg List.length hjs
    rwa [List.length_map, List.length_map] at q
  have l2 : js.length = ws.length := by
    have q := congrArg List.length hws
    rwa [List.length_map, List.length_map] at q
  have core : ∀ (i : Nat) (y : Str), fr[i]? = some y → ∃ (c : Addr) (o : Obj) (u : Value) (v : V), X.env.cells.lookup y = some c ∧ trk cs H c = some (.frz o (.own 0)) ∧ o.data = .cell (some u) ∧ ws[i]? = some v ∧ RelV v u := fun i y hy => by
    have hi : i < fr.length := (List.getElem?_eq_some_iff.mp hy).1
    obtain ⟨p, hp, rfl⟩ := hN y (List.mem_of_getElem? hy)
    have hj : i < js.length := by omega
    have hw : i < ws.length := by omega
    have a1 : X.N[js[i]]? = some p.1 := by
      have q : (js.map fun j => X.N[j]?)[i]? = (fr.map some)[i]? := by rw [hjs]
      rw [List.getElem?_map, List.getElem?_map, hy, List.getElem?_eq_getElem hj] at q
      exact Option.some.inj q
    have a2 : σ[js[i]]? = some (some ws[i]) := by
      have q : (js.map fun j => σ[j]?)[i]? = (ws.map fun v => some (some v))[i]? := by rw [hws]
      rw [List.getElem?_map, List.getElem?_map, List.getElem?_eq_getElem hj, List.getElem?_eq_getElem hw] at q
      exact Option.some.inj q
    obtain ⟨u, hu, rv⟩ := C.val p hp _ _ a1 a2
    cases z : cs.at p.2.1 with
    | none => exact absurd rfl (Cells.at_none z p hp)
    | some p' =>
      obtain ⟨h1, h2⟩ := Cells.at_some z
      have e1 := C.cell p' h1
      rw [h2] at e1
      have en : p'.1 = p.1 := ok.inj _ _ _ e1 (C.cell p hp)
      obtain ⟨u', hu', rv'⟩ := C.val p' h1 _ _ (by rw [en]; exact a1) a2
      exact ⟨p.2.1, p'.2.2, u', ws[i], C.cell p hp, trk_at z, hu', List.getElem?_eq_getElem hw, rv'⟩
  refine ⟨by omega, fun y c e => ?_, fun x y c a b => ok.inj x y c (clo_cm hf a) (clo_cm hf b), fun i y v hy hv => ?_⟩
  · rcases cloFrom_mem (PySem.mem_of_lookup e) with hm | ⟨h1, _⟩
    · cases hm
    · obtain ⟨i, hi⟩ := List.mem_iff_getElem?.mp (hsub _ h1 rfl)
      obtain ⟨c', o, u, v, b1, b2, b3, _⟩ := core i y hi
      have e2 := clo_cm hf e
      rw [b1] at e2
      cases e2
      exact ⟨o, u, b2, b3⟩
  · obtain ⟨c, o, u, v', b1, b2, b3, b4, b5⟩ := core i y hy
    rw [b4] at hv
    cases hv
    exact ⟨c, o, u, clo_has hf (hsup y (List.mem_of_getElem? hy)) b1, b2, b3, b5⟩
end K46
set_option Elab.async false
set_option linter.all false
set_option maxRecDepth 100000
set_option maxHeartbeats 1000000
namespace K46
open PySem PySem.Spec PyProof.Rows L2
/-! ### zip(text, tuple), both of one length -/
def ItzS (K : PySem.W.Frag) (x : Str) (b : Addr) : It :=
  ⟨fun i H => i < x.cps.size ∧ ∃ (ys : List V) (y : V), SqT K H b ys ∧ ys[i]? = some y,
    fun i H v H' => ∃ (T : Addr) (c : Nat) (y : V), v = .ref T ∧ H T = none ∧ H' = upd H T (.tup [.str ⟨#[c]⟩, y]) ∧ x.cps[i]? = some c ∧ ∀ ys, SqT K H b ys → ys[i]? = some y,
    fun i H => i = x.cps.size ∧ ∃ ys : List V, SqT K H b ys ∧ ys.length = i⟩
theorem strIter_at {h h' : Heap} {it : Addr} {ty : String} {x : Str} {t : Tok} {i : Nat} (st : h.IsStrIter it ty x t i) (k : ∀ o, h.get? it = some o → h'.get? it = some o) : h'.IsStrIter it ty x t i := by
  obtain ⟨o, e, r⟩ := st
  exact ⟨o, k o e, r⟩
theorem zsep {z TI TO i1 i2 b : Addr} (h1 : i2 = i1 + 1) (h2 : TI = i1 + 2) (h3 : TO = i1 + 3) (h4 : z = i1 + 4) (hb : b < i1) : ZipSep2 z TI TO i1 i2 [i1] [i2, b] := by
  have e : ∀ {x y : Addr}, (x : Nat) ≠ y → x ≠ y := fun h => h
  have nin1 : ∀ {x : Addr}, (x : Nat) ≠ i1 → x ∉ [i1] := fun h z => h (List.mem_singleton.mp z)
  have nin2 : ∀ {x : Addr}, (x : Nat) ≠ i2 → (x : Nat) ≠ b → x ∉ [i2, b] := fun h h' z => by
    rcases List.mem_cons.mp z with q | q
    · exact h q
    · exact h' (List.mem_singleton.mp q)
  have hb' : (b : Nat) < i1 := hb
  subst h1 h2 h3 h4
  have nn : ∀ k : Nat, (i1 : Nat) + k = @HAdd.hAdd Nat Nat Nat _ i1 k := fun _ => rfl
  refine ⟨e ?_, e ?_, e ?_, e ?_, List.mem_singleton.mpr rfl, nin1 ?_, nin1 ?_, e ?_, List.mem_cons_self, nin2 ?_ ?_, nin2 ?_ ?_, nin2 ?_ ?_, nin1 ?_⟩ <;> (show ¬ ((_ : Nat) = _)) <;> unfold Addr at * <;> omega
theorem turn_zipS {P : Program} {w : World} {K : PySem.W.Frag} {elts : List Expr} {kk : Nat} {tpos : Pos} {b z TI TO i1 i2 : Addr} {x : Str} {t : Tok} (S : ZipSep2 z TI TO i1 i2 [i1] [i2, b]) :
    Turn P w K (.Tuple elts kk tpos) (ItzS K x b) [z, TI, TO, i1, i2] z (fun i h => IsZip h z TI TO .none ∧ IsTupOf2 h TI (.ref i1) (.ref i2) ∧ (∃ u v, IsTupOf2 h TO u v) ∧ h.IsStrIter i1 (strIterType x) x t i ∧ h.IsTupleIter i2 b i) where
  mem := List.mem_cons_self
  obj := fun i h st c hc => by
    obtain ⟨hz, hTI, ⟨u, v, hTO⟩, ⟨o1, e1, _, d1⟩, ⟨o2, e2, _, d2⟩⟩ := st
    have e' : c = z ∨ c = TI ∨ c = TO ∨ c = i1 ∨ c = i2 := by simpa using hc
    rcases e' with q | q | q | q | q
    · rw [q]
      exact ⟨_, hz, fun v q => nomatch q⟩
    · rw [q]
      exact ⟨_, hTI, fun v q => nomatch q⟩
    · rw [q]
      exact ⟨_, hTO, fun v q => nomatch q⟩
    · rw [q]
      exact ⟨o1, e1, fun v q => by rw [d1] at q; cases q⟩
    · rw [q]
      exact ⟨o2, e2, fun v q => by rw [d2] at q; cases q⟩
  keep := fun i h h' st k => by
    obtain ⟨hz, hTI, ⟨u, v, hTO⟩, h1, h2⟩ := st
    exact ⟨k z (by simp) _ hz, k TI (by simp) _ hTI, ⟨u, v, k TO (by simp) _ hTO⟩, strIter_at h1 fun o q => k i1 (by simp) o q, h2.at fun o q => k i2 (by simp) o q⟩
  item := by
    intro X hP hw hK hc i pins s σ H E I hf st hg
    subst hP hw hK
    obtain ⟨hz, hTI, ⟨x0, y0, hTO⟩, h1, h2⟩ := st
    obtain ⟨hix, ys, y, hqy, hy⟩ := hg
    obtain ⟨its, rv, p, _⟩ := I.tuple hqy
    obtain ⟨u2, hu2, ru2⟩ := rv.get hy
    have hin : X.A.in1.handled = none := I.ok.hd hc
    have hl : i < its.toArray.size := by
      rw [List.size_toArray, ← rv.length]
      exact (List.getElem?_eq_some_iff.mp hy).1
    have hzl : z < s.heap.objs.size := Heap.lt_size hz
    have nb : b ≠ i2 := fun q => (by
      have l1 : s.heap.IsTuple b its.toArray := p
      obtain ⟨o, ho, hc', n, hd⟩ := l1
      obtain ⟨o2, ho2, hc2, hd2⟩ := h2
      rw [q, ho2] at ho
      cases ho
      rw [hd2] at hd
      cases hd)
    refine wpAny_pyNext_zipD2_item S (Draws.text hin i1 x t) (Draws.tuple hin i2 b nb its.toArray) hz hTI hTO h1 ⟨h2, p⟩ hix hl fun v1 v2 h' tk y1 y2 z' TO' h1' h2' hT hsz hk => ?_
    obtain ⟨c, u, hcx, rfl⟩ := y1
    have ev2 : v2 = u2 := by
      have q : its.toArray[i]? = some u2 := by simpa using hu2
      rw [y2] at q
      exact Option.some.inj q
    subst ev2
    refine ⟨_, rfl, wpAny_letOwnedTupleGo_zip (s := { s with heap := h', toks := tk }) z' fun h'' z'' sb => ?_⟩
    have hT2 : h''.get? s.heap.objs.size = some { cls := .type "tuple", data := .seq #[.str ⟨#[c]⟩ u, v2] } := (sb.2 _ (Nat.ne_of_gt hzl)).trans hT
    have new : ObjOk X.prog X.w (upd H s.heap.objs.size (.tup [.str ⟨#[c]⟩, y])) h'' s.heap.objs.size (.tup [.str ⟨#[c]⟩, y]) :=
      ⟨by show 2 ≤ sizeLine; decide, [.str ⟨#[c]⟩ u, v2], .cons ⟨u, rfl⟩ (.cons ru2 .nil), ⟨_, hT2, rfl, _, rfl⟩⟩
    have I1 : Inv X pins σ (upd H s.heap.objs.size (.tup [.str ⟨#[c]⟩, y])) { s with heap := h'', toks := tk } :=
      I.turnedNew (t' := tk) (ch := [z, TI, TO, i1, i2]) (fun c o hb q => (sb.2 c (fun q' => hb (by simp [q']))).trans (hk c o (fun q' => hb (by simp [q'])) (fun q' => hb (by simp [q'])) (fun q' => hb (by simp [q'])) (fun q' => hb (by simp [q'])) q)) hf (Nat.le_refl _) new
    have i1z : i1 ≠ z := fun q => S.zf1 (by rw [← q]; exact List.mem_singleton.mpr rfl)
    have i2z : i2 ≠ z := fun q => S.zf2 (by rw [← q]; exact List.mem_cons_self)
    refine ⟨.ref s.heap.objs.size, _, I1, rfl, ⟨_, c, y, rfl, I.hok.fresh (Nat.le_refl _), rfl, hcx, fun l hl => by rw [I.tuple_inj hl hqy]; exact hy⟩, ⟨z'', ?_, ⟨.str ⟨#[c]⟩ u, v2, ?_⟩, ?_, ?_⟩, fun d hdm => ?_⟩
    · exact (sb.2 _ S.TIz).trans (hk _ _ S.TIz S.TITO S.TIi1 S.TIi2 hTI)
    · exact (sb.2 _ S.TOz).trans TO'
    · exact strIter_at h1' fun o q => (sb.2 _ i1z).trans q
    · exact h2'.1.at fun o q => (sb.2 _ i2z).trans q
    · have hlt : d < s.heap.objs.size := by
        have e' : d = z ∨ d = TI ∨ d = TO ∨ d = i1 ∨ d = i2 := by simpa using hdm
        rcases e' with q | q | q | q | q
        · rw [q]; exact hzl
        · rw [q]; exact Heap.lt_size hTI
        · rw [q]; exact Heap.lt_size hTO
        · rw [q]; obtain ⟨_, e1, _⟩ := h1; exact Heap.lt_size e1
        · rw [q]; obtain ⟨_, e2, _⟩ := h2; exact Heap.lt_size e2
      rw [upd_ne (Nat.ne_of_lt hlt)]
      exact (hf d hdm).1
  done := by
    intro X hP hw hK hc i pins s σ H E I hf st hg
    subst hP hw hK
    obtain ⟨hz, hTI, ⟨x0, y0, hTO⟩, h1, h2⟩ := st
    obtain ⟨hix, ys, hqy, hy⟩ := hg
    obtain ⟨its, rv, p, _⟩ := I.tuple hqy
    have hin : X.A.in1.handled = none := I.ok.hd hc
    have hl : its.toArray.size = i := by
      rw [List.size_toArray, ← rv.length]
      exact hy
    have nb : b ≠ i2 := fun q => by
      have l1 : s.heap.IsTuple b its.toArray := p
      obtain ⟨o, ho, hc', n, hd⟩ := l1
      obtain ⟨o2, ho2, hc2, hd2⟩ := h2
      rw [q, ho2] at ho
      cases ho
      rw [hd2] at hd
      cases hd
    exact wpAny_pyNext_zipD2_end S (Draws.text hin i1 x t) (Draws.tuple hin i2 b nb its.toArray) hz hTI hTO h1 ⟨h2, p⟩ (Nat.le_of_eq hix) (Nat.le_of_eq hl.symm) (.inl hix) fun h' tk hk => ⟨rfl, I.turnedL (t' := tk) (ch := [z, TI, TO, i1, i2]) (fun c o hb q =>
      hk c o (fun q' => hb (by simp [q'])) (fun q' => hb (by simp [q'])) (fun q' => hb (by simp [q'])) (fun q' => hb (by simp [q'])) q) hf⟩
  self := fun A i s Q E st h => wpAny_pyIter_zip st.1 h
def iZipS (K : PySem.W.Frag) (ta : TA) : TI := fun σ H R => ta σ H fun vs H1 => ∃ (x : Str) (b : Addr) (ys : List V), vs = [.str x, .ref b] ∧ SqT K H1 b ys ∧ R (ItzS K x b) H1
theorem pi_zipS {X : Cx} {e e2 : Expr} {ta : TA} {p pos tpos : Pos} {elts : List Expr} {kk : Nat} (hg : Gl X "zip") (hm : X.mg "zip" = none) (ha : PA X [e, e2] ta)
    (hs : starEach [e, e2] X.env = (false, eval e X.env) :: starEach [e2] X.env := by rfl) (hpl : (backTo pos (starEach [e2] X.env)).any (·.1) = false := by rfl) :
    PI X (.Tuple elts kk tpos) (.Call (.Name "zip" p) [e, e2] [] pos) (iZipS X.K ta) := by
  refine ⟨fun pins s σ H R I h => ?_⟩
  refine Call_ (ld_blt I hg hm PyProof.Rows.boot_zip (PyProof.Rows.callWith_type1 (thn (ha.run pos pins s σ H _ I h) fun us s1 ⟨vs, H1, I1, r1, q1⟩ => ?_) hs hpl))
  obtain ⟨x, b, ys, ex, hqy, q⟩ := q1
  subst ex
  cases r1 with
  | cons r rr =>
    cases rr with
    | cons r' rr =>
      cases rr
      obtain ⟨t, rfl⟩ := r
      cases r'
      obtain ⟨its, rv, p2, _⟩ := I1.tuple hqy
      have lb : b < s1.heap.objs.size := p2.lt
      refine zip_begins2 (begins_text x t) (begins_tuple b its.toArray) trivial p2 fun h' hz hTI hTO h1 h2 hsz hk => wpAny_pyIter_zip hz ?_
      have I2 : Inv X pins σ H1 { s1 with heap := h' } := I1.kept (t' := s1.toks) hk
      refine ⟨s1.heap.objs.size + 4, [s1.heap.objs.size + 4, s1.heap.objs.size + 2, s1.heap.objs.size + 3, s1.heap.objs.size, s1.heap.objs.size + 1], _, _, H1, rfl, I2, turn_zipS (t := t) (zsep rfl rfl rfl rfl lb), ⟨hz, hTI, ⟨_, _, hTO⟩, ⟨_, h1, rfl, rfl⟩, ⟨_, h2, rfl, rfl⟩⟩, fun c hcm => ?_, q⟩
      have e' : c = s1.heap.objs.size + 4 ∨ c = s1.heap.objs.size + 2 ∨ c = s1.heap.objs.size + 3 ∨ c = s1.heap.objs.size ∨ c = s1.heap.objs.size + 1 := by simpa using hcm
      have hle : s1.heap.objs.size ≤ c := by
        rcases e' with z | z | z | z | z
        · rw [z]; exact Nat.le_add_right _ _
        · rw [z]; exact Nat.le_add_right _ _
        · rw [z]; exact Nat.le_add_right _ _
        · rw [z]; exact Nat.le_refl _
        · rw [z]; exact Nat.le_add_right _ _
      exact I1.fpOk hle (I1.hok.fresh hle)
/-- the reading of such a loop -/
theorem for_zipS {K : PySem.W.Frag} {b : Addr} {x : Str} {ys : List V} {g : TG} {tb : TS} {D : Ends} {σ : L2.St} {H : Hp} (hl : x.cps.size = ys.length) (Pv : Nat → L2.St → Hp → Prop) (h0 : Pv 0 σ H) (hq : ∀ i σ H, Pv i σ H → SqT K H b ys)
    (hs : ∀ (i : Nat) (c : Nat) (y : V) (T : Addr) (σ : L2.St) (H : Hp), x.cps[i]? = some c → ys[i]? = some y → Pv i σ H → H T = none → g (.ref T) σ (upd H T (.tup [.str ⟨#[c]⟩, y])) fun σ2 H2 => tb { D with nx := Pv (i + 1), ct := Pv (i + 1), bk := D.nx } σ2 H2) (hd : ∀ σ H, Pv ys.length σ H → D.nx σ H) :
    ∃ W : Nat → Nat → L2.St → Hp → Prop, (∃ m, W 0 m σ H) ∧ ∀ i m σ H, W i m σ H → ((ItzS K x b).stop i H ∧ D.nx σ H) ∨ ((ItzS K x b).go i H ∧ ∃ N : L2.St → Hp → Prop, (∀ σ' H', N σ' H' → ∃ m', m' < m ∧ W (i + 1) m' σ' H') ∧
      ∀ x' H', (ItzS K x b).yld i H x' H' → g x' σ H' fun σ2 H2 => tb { D with nx := N, ct := N, bk := D.nx } σ2 H2) := by
  refine ⟨fun i m σ H => i + m = ys.length ∧ Pv i σ H, ⟨ys.length, Nat.zero_add _, h0⟩, fun i m σ H ⟨em, hP⟩ => ?_⟩
  by_cases hi : i < ys.length
  · refine .inr ⟨⟨by omega, ys, ys[i], hq i σ H hP, List.getElem?_eq_getElem hi⟩, Pv (i + 1), fun σ' H' h => ⟨m - 1, by omega, by omega, h⟩, fun x' H' hy => ?_⟩
    obtain ⟨T, c, y, rfl, nT, rfl, hc, hy⟩ := hy
    exact hs i c y T σ H hc (hy ys (hq i σ H hP)) hP nT
  · have e : i = ys.length := by omega
    subst e
    exact .inl ⟨⟨hl.symm, ys, hq _ σ H hP, rfl⟩, hd σ H hP⟩
end K46
set_option Elab.async false
set_option linter.all false
set_option maxRecDepth 100000
set_option maxHeartbeats 1000000
/-! sets of nested tuples of whole numbers -/
namespace K46
open PySem PySem.Spec PyProof.Rows L2 SeqAt
abbrev NK := NestedKey
/-! ### only whole numbers and tuples -/
mutual
def numK : NK → Prop
  | .num _ => True
  | .tup ks => numKs ks
  | _ => False
def numKs : List NK → Prop
  | [] => True
  | k :: ks => numK k ∧ numKs ks
end
/-- the tuple at b is the key k -/
structure IsN (h : Heap) (k : NK) (b : Addr) : Prop where
  is : NestedIs h k (.ref b)
  dp : k.depth ≤ 8
  nm : numK k
theorem IsN.obj {h : Heap} {k : NK} {b : Addr} (x : IsN h k b) : ∃ o vs n ks, k = .tup ks ∧ h.get? b = some o ∧ o.cls = .type "tuple" ∧ o.data = .seq vs n ∧ NestedAll h ks vs.toList := by
  have y := x.is
  cases y with
  | tup h1 h2 h3 h4 => exact ⟨_, _, _, _, rfl, h1, h2, h3, h4⟩
theorem IsN.keep {h h' : Heap} {k : NK} {b : Addr} (x : IsN h k b) (hk : ∀ c o, h.get? c = some o → h'.get? c = some o) : IsN h' k b := ⟨NestedIs.at (fun a o vs n e _ => hk a o e) _ _ x.is, x.dp, x.nm⟩
/-- a set is none of the tuples -/
theorem IsN.but {h h' : Heap} {k : NK} {a b : Addr} {o : Obj} {es : Array (Int × Value)} {ep : Nat} {t : SetTable} (x : IsN h k b) (ho : h.get? a = some o) (hd : o.data = .set es ep t) (hs : Heap.SameBut a h h') : IsN h' k b :=
  ⟨NestedIs.at (fun c u vs n e d => (hs.2 c fun z => by subst z; rw [ho] at e; cases e; rw [hd] at d; cases d).trans e) _ _ x.is, x.dp, x.nm⟩
theorem IsN.inj {h : Heap} {k k' : NK} {b : Addr} (x : IsN h k b) (y : IsN h k' b) : k = k' := NestedIs.inj _ _ _ x.is y.is
abbrev nhash (w : World) (k : NK) : Int := k.hash w
section
variable {P : Program} {w : World} {A : Around} {E : Value → Shared → Prop} {s : Shared}
/-! ### what a set asks of its elements -/
/-- by value, n levels down -/
def ByVal (P : Program) (w : World) (n : Nat) (s : Shared) (v : Value) : Prop := ∀ (A : Around) (E : Value → Shared → Prop) (Q : Bool → Shared → Prop), Q true s → wpAny (model P w) A (hashByValue n v) Q E s
/-- of no class statement -/
def NoCls (P : Program) (w : World) (n : Nat) (s : Shared) (v : Value) : Prop := ∀ (A : Around) (E : Value → Shared → Prop) (Q : Bool → Shared → Prop), Q false s → wpAny (model P w) A (ofAClassStatement n v) Q E s
theorem byVal_tup {n m : Nat} {b : Addr} {o : Obj} {vs : Array Value} (ho : s.heap.get? b = some o) (hc : o.cls = .type "tuple") (hd : o.data = .seq vs m) (hv : ∀ v ∈ vs.toList, ByVal P w n s v) : ByVal P w (n + 1) s (.ref b) := fun A E Q hq => by
  have ty : s.TypeIs (.ref b) "tuple" := ⟨o, ho, hc⟩
  unfold hashByValue
  refine wpAny_bind (wpAny_specialOf ty F.slot_tuple_hash.lookup ?_)
  show wpAny _ _ (seqItems? (.ref b) >>= _) _ _ s
  refine wpAny_bind (wpAny_seqItems ho hd (wpAny_bind ?_))
  show wpAny _ _ (forIn vs _ _) _ _ s
  rw [← Array.forIn_toList]
  refine wpAny_forIn_list _ (fun rest r s1 => r.1 = none ∧ s1 = s ∧ ∀ v ∈ rest, ByVal P w n s v) _ (fun v rest r s1 ⟨hr, e, al⟩ => ?_) (fun ⟨r1, r2⟩ s1 ⟨hr, e, _⟩ => ?_) _ _ ⟨rfl, rfl, hv⟩
  · subst e
    refine wpAny_bind (al v List.mem_cons_self _ _ _ ?_)
    simp only [Bool.not_true, Bool.false_eq_true, if_false]
    exact wpAny_pure ⟨rfl, rfl, fun u hu => al u (List.mem_cons_of_mem _ hu)⟩
  · subst e
    have hr' : r1 = none := hr
    subst hr'
    exact wpAny_pure hq
theorem noCls_tup {n m : Nat} {b : Addr} {o : Obj} {vs : Array Value} (ho : s.heap.get? b = some o) (hc : o.cls = .type "tuple") (hd : o.data = .seq vs m) (hv : ∀ v ∈ vs.toList, NoCls P w n s v) : NoCls P w (n + 1) s (.ref b) := fun A E Q hq => by
  have ty : s.TypeIs (.ref b) "tuple" := ⟨o, ho, hc⟩
  unfold ofAClassStatement
  refine wpAny_bind (wpAny_typeOf ty ?_)
  dsimp only
  have e0 : (("tuple" : String) == "tuple") = true := by decide
  simp only [e0, if_true, Bool.not_true, Bool.false_eq_true, if_false]
  try refine wpAny_bind (wpAny_pure ?_)
  try simp only [Bool.not_true, Bool.false_eq_true, if_false]
  show wpAny _ _ (seqItems? (.ref b) >>= _) _ _ s
  refine wpAny_bind (wpAny_seqItems ho hd ?_)
  dsimp only
  refine wpAny_bind ?_
  show wpAny _ _ (forIn vs _ _) _ _ s
  rw [← Array.forIn_toList]
  refine wpAny_forIn_list _ (fun rest r s1 => r.1 = none ∧ s1 = s ∧ ∀ v ∈ rest, NoCls P w n s v) _ (fun v rest r s1 ⟨hr, e, al⟩ => ?_) (fun ⟨r1, r2⟩ s1 ⟨hr, e, _⟩ => ?_) _ _ ⟨rfl, rfl, hv⟩
  · subst e
    refine wpAny_bind (al v List.mem_cons_self _ _ _ ?_)
    simp only [Bool.false_eq_true, if_false]
    exact wpAny_pure ⟨rfl, rfl, fun u hu => al u (List.mem_cons_of_mem _ hu)⟩
  · subst e
    have hr' : r1 = none := hr
    subst hr'
    exact wpAny_pure hq
mutual
theorem byVal_key : ∀ (k : NK) (v : Value) (n : Nat), NestedIs s.heap k v → k.depth ≤ n → numK k → ByVal P w n s v
  | .none, _, _, _, _, z => z.elim
  | .text _, _, _, _, _, z => z.elim
  | .num i, _, n, x, _, _ => fun A E Q q => by
    cases x with
    | bool e => cases n <;> exact wpAny_pure q
    | int _ t => cases n <;> exact wpAny_pure q
  | .tup ks, _, n, x, hn, z => by
    cases x with
    | tup h1 h2 h3 h4 =>
      simp only [NestedKey.depth] at hn
      cases n with
      | zero => omega
      | succ n => exact byVal_tup h1 h2 h3 (byVal_keys ks _ n h4 (by omega) z)
theorem byVal_keys : ∀ (ks : List NK) (vs : List Value) (n : Nat), NestedAll s.heap ks vs → NestedKey.depthAll ks ≤ n → numKs ks → ∀ v ∈ vs, ByVal P w n s v
  | [], _, _, x, _, _, v, hv => by cases x; cases hv
  | k :: ks, _, n, x, hn, z, v, hv => by
    cases x with
    | cons x1 x2 =>
      simp only [NestedKey.depthAll] at hn
      rcases List.mem_cons.mp hv with e | hv
      · subst e
        exact byVal_key k _ n x1 (by omega) z.1
      · exact byVal_keys ks _ n x2 (by omega) z.2 v hv
end
mutual
theorem noCls_key : ∀ (k : NK) (v : Value) (n : Nat), NestedIs s.heap k v → k.depth ≤ n → NoCls P w n s v
  | .none, _, n, x, _ => fun A E Q q => by
    cases x
    cases n <;> exact wpAny_pure q
  | .text _, _, n, x, _ => fun A E Q q => by
    cases x
    cases n <;> exact wpAny_pure q
  | .num i, _, n, x, _ => fun A E Q q => by
    cases x with
    | bool e => cases n <;> exact wpAny_pure q
    | int _ t => cases n <;> exact wpAny_pure q
  | .tup ks, _, n, x, hn => by
    cases x with
    | tup h1 h2 h3 h4 =>
      simp only [NestedKey.depth] at hn
      cases n with
      | zero => omega
      | succ n => exact noCls_tup h1 h2 h3 (noCls_keys ks _ n h4 (by omega))
theorem noCls_keys : ∀ (ks : List NK) (vs : List Value) (n : Nat), NestedAll s.heap ks vs → NestedKey.depthAll ks ≤ n → ∀ v ∈ vs, NoCls P w n s v
  | [], _, _, x, _, v, hv => by cases x; cases hv
  | k :: ks, _, n, x, hn, v, hv => by
    cases x with
    | cons x1 x2 =>
      simp only [NestedKey.depthAll] at hn
      rcases List.mem_cons.mp hv with e | hv
      · subst e
        exact noCls_key k _ n x1 (by omega)
      · exact noCls_keys ks _ n x2 (by omega) v hv
end
theorem IsN.byVal {k : NK} {b : Addr} {Q : Bool → Shared → Prop} (x : IsN s.heap k b) (q : Q true s) : wpAny (model P w) A (hashByValue 8 (.ref b)) Q E s := byVal_key k _ 8 x.is x.dp x.nm A E Q q
theorem IsN.noCls {k : NK} {b : Addr} {Q : Bool → Shared → Prop} (x : IsN s.heap k b) (q : Q false s) : wpAny (model P w) A (ofAClassStatement 8 (.ref b)) Q E s := noCls_key k _ 8 x.is x.dp A E Q q
theorem IsN.quiet {k : NK} {b : Addr} {Q : Bool → Shared → Prop} (x : IsN s.heap k b) (q : Q true s) : wpAny (model P w) A (eqIsQuiet 8 (.ref b)) Q E s := quiet_key k _ 8 s x.is x.dp A E Q q
theorem IsN.eq {k k' : NK} {b c : Addr} {Q : Bool → Shared → Prop} (hu : A.units + 8 < cLine) (x : IsN s.heap k b) (y : IsN s.heap k' c) (q : Q (decide (k = k')) s) : wpAny (model P w) A (eqBool (.ref b) (.ref c)) Q E s :=
  (nestedKind P w).eqBool hu ⟨x.is, x.dp⟩ ⟨y.is, y.dp⟩ q
/-- nobody sees the search -/
theorem IsN.unseen {k : NK} {b : Addr} {Q : Bool → Shared → Prop} (x : IsN s.heap k b) {ys : List Value} (hy : ∀ y ∈ ys, ∃ k' c, y = Value.ref c ∧ IsN s.heap k' c) (q : Q false s) : wpAny (model P w) A (searchCouldBeSeen (.ref b) ys) Q E s := by
  unfold searchCouldBeSeen
  refine wpAny_bind (wpAny_forIn_list _ (fun rest r s1 => r.1 = none ∧ s1 = s ∧ ∀ y ∈ rest, ∃ k' c, y = Value.ref c ∧ IsN s.heap k' c) _ (fun v rest r s1 ⟨hr, e, al⟩ => ?_) (fun ⟨r1, r2⟩ s1 ⟨hr, e, _⟩ => ?_) _ _ ⟨rfl, rfl, hy⟩)
  · subst e
    obtain ⟨k', c, ev, hc⟩ := al v List.mem_cons_self
    subst ev
    have al' : ∀ y ∈ rest, ∃ k' c, y = Value.ref c ∧ IsN s1.heap k' c := fun u hu => al u (List.mem_cons_of_mem _ hu)
    dsimp only
    by_cases hv : (b == c || (carriedByValue (.ref b) && carriedByValue (.ref c))) = true
    · exact wp_if_pos hv (wpAny_pure ⟨rfl, rfl, al'⟩)
    · refine wp_if_neg hv (wpAny_bind (x.quiet ?_))
      simp only [Bool.not_true, Bool.false_eq_true, if_false]
      refine wpAny_bind (hc.quiet ?_)
      simp only [Bool.not_true, Bool.false_eq_true, if_false]
      refine wpAny_bind (x.noCls ?_)
      simp only [Bool.false_eq_true, if_false]
      refine wpAny_bind (hc.noCls ?_)
      simp only [Bool.false_eq_true, if_false]
      exact wpAny_pure ⟨rfl, rfl, al'⟩
  · subst e
    have hr' : r1 = none := hr
    subst hr'
    exact wpAny_pure q
end
/-! ### the set -/
abbrev Row := Addr × NK
def rowsN (w : World) (L : List Row) : List (Int × Value) := L.map fun p => (nhash w p.2, Value.ref p.1)
structure SetN (w : World) (h : Heap) (a : Addr) (L : List Row) (es : Array (Int × Value)) (ep : Nat) (t : SetTable) : Prop where
  ob : ∃ o, h.get? a = some o ∧ o.ExactSet ∧ o.data = .set es ep t
  rw : es.toList = rowsN w L
  tb : TabOk t (L.map fun p => nhash w p.2)
  nd : (L.map (·.2)).Nodup
  el : ∀ p ∈ L, IsN h p.2 p.1
  pl : t.plain = true
  ld : w.params.followText "set-order" = true ∨ t.led = true
  rm : L.length * 5 < t.mask * 3
  fw : L.length < 64
theorem rowsN_len {w : World} {L : List Row} {es : Array (Int × Value)} (e : es.toList = rowsN w L) : es.size = L.length := by
  rw [← Array.length_toList, e, rowsN, List.length_map]
theorem rowsN_get {w : World} {L : List Row} {es : Array (Int × Value)} (e : es.toList = rowsN w L) {i : Nat} {p : Row} (hp : L[i]? = some p) : es[i]? = some (nhash w p.2, Value.ref p.1) := by
  rw [← Array.getElem?_toList, e, rowsN, List.getElem?_map, hp]
  rfl
theorem fits_of {w : World} {L : List Row} {es : Array (Int × Value)} {t : SetTable} (e : es.toList = rowsN w L) (hp : t.place.size = es.size) (hdm : t.dummies = #[]) (hm : L.length ≤ t.mask) : t.fits es.size = true := by
  have e1 := rowsN_len e
  unfold SetTable.fits SetTable.fill
  rw [hdm, Bool.and_eq_true, beq_iff_eq, decide_eq_true_eq]
  exact ⟨hp, by show t.place.size + 0 ≤ t.mask; omega⟩
section
variable {P : Program} {w : World} {A : Around} {E : Value → Shared → Prop} {s : Shared} {a : Addr} {L : List Row} {es : Array (Int × Value)} {ep : Nat} {t : SetTable}
theorem SetN.size (R : SetN w s.heap a L es ep t) : es.size = L.length := rowsN_len R.rw
theorem SetN.places (R : SetN w s.heap a L es ep t) : t.place.size = L.length := by
  have q := R.tb.sz
  rwa [List.length_map] at q
theorem SetN.fits (R : SetN w s.heap a L es ep t) : t.fits es.size = true := fits_of R.rw (R.places.trans R.size.symm) R.tb.dm (by have := R.rm; omega)
theorem SetN.gw (R : SetN w s.heap a L es ep t) : ¬ t.gaveWay = true := by
  unfold SetTable.gaveWay
  rw [mask_odd R.tb.mok]
  decide
theorem nth_dummy (m : Nat) : ∀ (n : Nat) (p : SetTable.Probe), p.dummy = none → (nth m p n).dummy = none
  | 0, _, h => h
  | n + 1, p, h => nth_dummy m n _ (by unfold adv; split <;> exact h)
abbrev stepN (t : SetTable) (h : Int) (c : Nat) : SetTable.Probe := nth t.mask (runAt t.mask (SetTable.bits h % (t.mask + 1)) (SetTable.bits h)) c
theorem stepN_add (t : SetTable) (h : Int) (c q : Nat) : nth t.mask (stepN t h c) q = stepN t h (c + q) := (nth_add t.mask c _ q).symm
theorem stepN_j (t : SetTable) (h : Int) (c q : Nat) : (nth t.mask (stepN t h c) q).j = way t.mask h (c + q) := congrArg SetTable.Probe.j (stepN_add t h c q)
/-- the search, from the c-th step on; f turns at hand -/
theorem searchN (R : SetN w s.heap a L es ep t) {x : Addr} {k : NK} (hx : IsN s.heap k x) (hu : A.units + 8 < cLine) {N : Nat} (hN1 : N < 10 * SetTable.turns t.mask) (hN : way t.mask (nhash w k) N ∉ t.place.toList) (hN2 : ∀ c, c < N → way t.mask (nhash w k) c ∈ t.place.toList)
    {Q : SetFound → Shared → Prop} (q1 : k ∈ L.map (·.2) → Q (.there none) s) (q2 : k ∉ L.map (·.2) → Q (.free (way t.mask (nhash w k) N) false) s) :
    ∀ (f c : Nat) (st : Option SetTable.Probe), st.getD (t.probeStart (nhash w k)) = stepN t (nhash w k) c → c ≤ N → N - c < f → (∀ (i : Nat) p, L[i]? = some p → p.2 = k → ∃ c', c ≤ c' ∧ c' < N ∧ t.place.toList[i]? = some (way t.mask (nhash w k) c')) →
      wpAny (model P w) A (setSearchFrom a (.ref x) (nhash w k) true f st) Q E s
  | 0, c, st, _, _, hf, _ => absurd hf (Nat.not_lt_zero _)
  | f + 1, c, st, hst, hc, hf, hre => by
    obtain ⟨o, ho, hex, hd⟩ := R.ob
    rw [setSearchFrom_succ]
    refine wpAny_bind (wpAny_setState_of ho hd R.fits ?_)
    dsimp only
    refine wp_if_neg R.gw ?_
    try refine wpAny_bind (wpAny_pure ?_)
    have ha : ∀ (i : Nat) p, L[i]? = some p → (es[i]?.map (·.1)).getD 0 = nhash w p.2 := fun i p hp => by
      rw [rowsN_get R.rw hp]
      rfl
    rcases go_spec t R.tb.ris R.tb.dm (fun i => (es[i]?.map (·.1)).getD 0) (nhash w k) (10 * SetTable.turns t.mask) (N - c) (stepN t (nhash w k) c) (nth_dummy _ _ _ rfl) (by omega)
      (fun q hq => by rw [stepN_j]; exact hN2 _ (by omega)) (by rw [stepN_j, Nat.add_sub_cancel' hc]; exact hN) with ⟨q, i, hq, hi, hh, hno, hpr⟩ | ⟨hno, hpr⟩
    · have hpr' : t.probe (fun i => (es[i]?.map (·.1)).getD 0) (nhash w k) (st.getD (t.probeStart (nhash w k))) = some (.candidate (way t.mask (nhash w k) (c + q)) i (stepN t (nhash w k) (c + (q + 1)))) := by
        rw [hst, ← stepN_j, ← stepN_add]
        exact hpr
      rw [hpr']
      dsimp only
      rw [stepN_j] at hi
      have il : i < L.length := by
        have l1 := (List.getElem?_eq_some_iff.mp hi).1
        rw [Array.length_toList, R.places] at l1
        exact l1
      obtain ⟨p, hp⟩ : ∃ p, L[i]? = some p := ⟨_, List.getElem?_eq_getElem il⟩
      have hm : p ∈ L := List.mem_of_getElem? hp
      have go : wpAny (model P w) A (searchRest a (.ref x) (nhash w k) true f es t (way t.mask (nhash w k) (c + q)) i (stepN t (nhash w k) (c + (q + 1)))) Q E s := by
        unfold searchRest
        rw [rowsN_get R.rw hp]
        dsimp only
        refine wpAny_bind (wpAny_holding ((R.el p hm).eq hu hx (wpAny_bind (wpAny_setState_of ho hd R.fits ?_))))
        dsimp only
        by_cases hk : p.2 = k
        · exact wp_if_pos (by simp [hk]) (wpAny_pure (q1 (List.mem_map.mpr ⟨p, hm, hk⟩)))
        · refine wp_if_neg (by simp [hk]) ?_
          try refine wpAny_bind (wpAny_pure ?_)
          rw [sameMem]
          dsimp only
          have sl : t.slot (way t.mask (nhash w k) (c + q)) = .live i := slot_live R.tb.ris hi
          simp only [if_true, sl, rowsN_get R.rw hp]
          refine wpAny_bind (wpAny_isSame_ref_self (wpAny_bind (wpAny_pure ?_)))
          simp only [if_true]
          refine wp_if_neg (by simp [hk]) (searchN R hx hu hN1 hN hN2 q1 q2 f (c + (q + 1)) _ rfl (by omega) (by omega) fun j p1 hj hk1 => ?_)
          obtain ⟨c', a1, a2, a3⟩ := hre j p1 hj hk1
          refine ⟨c', ?_, a2, a3⟩
          rcases Nat.lt_trichotomy c' (c + q) with z | z | z
          · refine absurd ?_ (hno (c' - c) j (by omega) (by rw [stepN_j, Nat.add_sub_cancel' a1]; exact a3))
            show (es[j]?.map (·.1)).getD 0 = nhash w k
            rw [ha j p1 hj, hk1]
          · subst z
            have s0 := slot_live R.tb.ris a3
            rw [sl] at s0
            injection s0 with s0
            rw [← s0, hp] at hj
            cases hj
            exact absurd hk1 hk
          · omega
      by_cases hl : t.led = true
      · refine wp_if_neg (by simp [hl]) ?_
        try refine wpAny_bind (wpAny_pure ?_)
        exact go
      · refine wp_if_pos (by simp [hl]) (wpAny_bind (hx.unseen (fun y hy => ?_) (wp_if_neg (by decide) ?_)))
        · obtain ⟨e, he, ee⟩ := List.mem_map.mp hy
          have he2 : e ∈ es.toList := by
            have he1 : e ∈ es ∧ e.1 = nhash w k := by simpa using he
            simpa using he1.1
          rw [R.rw] at he2
          obtain ⟨p2, hp2, e2⟩ := List.mem_map.mp he2
          exact ⟨p2.2, p2.1, by rw [← ee, ← e2], R.el p2 hp2⟩
        · try refine wpAny_bind (wpAny_pure ?_)
          exact go
    · have hpr' : t.probe (fun i => (es[i]?.map (·.1)).getD 0) (nhash w k) (st.getD (t.probeStart (nhash w k))) = some (.empty (way t.mask (nhash w k) N) none) := by
        have e2 : way t.mask (nhash w k) N = (nth t.mask (stepN t (nhash w k) c) (N - c)).j := by rw [stepN_j, Nat.add_sub_cancel' hc]
        rw [hst, e2]
        exact hpr
      rw [hpr']
      dsimp only
      refine wpAny_pure (q2 fun hm => ?_)
      obtain ⟨p0, h0, hk0⟩ := List.mem_map.mp hm
      obtain ⟨j, hj⟩ := List.mem_iff_getElem?.mp h0
      obtain ⟨c', a1, a2, a3⟩ := hre j p0 hj hk0
      refine hno (c' - c) j (by omega) (by rw [stepN_j, Nat.add_sub_cancel' a1]; exact a3) ?_
      show (es[j]?.map (·.1)).getD 0 = nhash w k
      rw [ha j p0 hj, hk0]
theorem findN (R : SetN w s.heap a L es ep t) {x : Addr} {k : NK} (hx : IsN s.heap k x) (hu : A.units + 8 < cLine) {Q : SetFound → Shared → Prop} (q1 : k ∈ L.map (·.2) → Q (.there none) s)
    (q2 : ∀ N, k ∉ L.map (·.2) → way t.mask (nhash w k) N ∉ t.place.toList → (∀ c, c < N → way t.mask (nhash w k) c ∈ t.place.toList) → Q (.free (way t.mask (nhash w k) N) false) s) : wpAny (model P w) A (setSearch a (.ref x) (nhash w k) true) Q E s := by
  have rm := R.rm
  obtain ⟨N, hN1, hN, hN2⟩ := R.tb.first (by rw [List.length_map]; omega) (nhash w k)
  have big : N < 100000 := by
    have : 10 * SetTable.turns t.mask ≤ 1420 := by
      unfold SetTable.turns
      rcases R.tb.mok with e | e | e <;> omega
    omega
  unfold setSearch
  refine searchN R hx hu hN1 hN hN2 q1 (fun hn => q2 N hn hN hN2) 100000 0 none rfl (Nat.zero_le _) (by omega) fun i p hp hk => ?_
  have hi : (L.map fun p => nhash w p.2)[i]? = some (nhash w k) := by
    rw [List.getElem?_map, hp, ← hk]
    rfl
  obtain ⟨j, hj⟩ : ∃ j, t.place.toList[i]? = some j := by
    have l1 : i < t.place.toList.length := by
      rw [Array.length_toList, R.places]
      exact (List.getElem?_eq_some_iff.mp hp).1
    exact ⟨_, List.getElem?_eq_getElem l1⟩
  obtain ⟨c, hc, e⟩ := R.tb.before hN hi hj
  exact ⟨c, Nat.zero_le _, hc, by rw [hj, e]⟩
end
end K46
set_option Elab.async false
set_option linter.all false
set_option maxRecDepth 100000
set_option maxHeartbeats 1000000
namespace K46
open PySem PySem.Spec PyProof.Rows L2 SeqAt
theorem rowsN_mid (w : World) (L : List Row) (p : Nat) (r : Row) : rowsN w (L.take p ++ r :: L.drop p) = (rowsN w L).take p ++ (nhash w r.2, Value.ref r.1) :: (rowsN w L).drop p := by
  simp [rowsN]
theorem getD_fst {w : World} {L : List Row} {es : Array (Int × Value)} (e : es.toList = rowsN w L) {i : Nat} (h : i < L.length) : (es.map (·.1)).getD i 0 = nhash w (L[i]).2 := by
  have e5 : (es.map (·.1))[i]? = some (nhash w (L[i]).2) := by
    rw [Array.getElem?_map, rowsN_get e (List.getElem?_eq_getElem h)]
    rfl
  simp [Array.getD_eq_getD_getElem?, e5]
theorem pick_rows {w : World} {L : List Row} {es : Array (Int × Value)} (e : es.toList = rowsN w L) : ∀ l : List Nat, (∀ i ∈ l, i < L.length) →
    l.filterMap (fun i => es[i]?) = rowsN w (l.filterMap fun i => L[i]?) ∧ ((l.filterMap fun i => L[i]?).map fun p => nhash w p.2) = l.map fun i => (es.map (·.1)).getD i 0
  | [], _ => ⟨rfl, rfl⟩
  | i :: l, hl => by
    have hi := hl i List.mem_cons_self
    obtain ⟨e1, e2⟩ := pick_rows e l fun j hj => hl j (List.mem_cons_of_mem _ hj)
    have g := List.getElem?_eq_getElem hi
    rw [List.filterMap_cons_some (rowsN_get e g), List.filterMap_cons_some g, e1, List.map_cons, e2, List.map_cons, getD_fst e hi]
    exact ⟨rfl, rfl⟩
theorem pick_all {α : Type} (L : List α) : ∀ n, n ≤ L.length → (List.range n).filterMap (fun i => L[i]?) = L.take n
  | 0, _ => rfl
  | n + 1, h => by
    rw [List.range_succ, List.filterMap_append, pick_all L n (Nat.le_of_succ_le h), List.take_succ, List.getElem?_eq_getElem h, List.filterMap_cons_some (List.getElem?_eq_getElem h)]
    rfl
section
variable {P : Program} {w : World} {A : Around} {E : Value → Shared → Prop} {s : Shared} {a : Addr} {L : List Row} {es : Array (Int × Value)} {ep : Nat} {t : SetTable}
/-- a larger table -/
theorem relayN {o : Obj} (ho : s.heap.get? a = some o) (hex : o.ExactSet) (hd : o.data = .set es ep t) (er : es.toList = rowsN w L) (hp : t.place.size = es.size) (hdm : t.dummies = #[]) (hfl : L.length ≤ t.mask) (nd : (L.map (·.2)).Nodup) (el : ∀ p ∈ L, IsN s.heap p.2 p.1)
    (pl : t.plain = true) (ld : w.params.followText "set-order" = true ∨ t.led = true) (fw : L.length < 64) {want M : Nat} (hw : SetTable.sizeAbove want - 1 = M) (hM : MaskOk M) (hw2 : SetTable.sizeAbove want ≤ 128) (hn : L.length * 5 < M * 3) {Q : Unit → Shared → Prop}
    (q : ∀ h' L' es' ep' t', Heap.SameBut a s.heap h' → SetN w h' a L' es' ep' t' → L'.Perm L → Q () { s with heap := h' }) : wpAny (model P w) A (setRelay a want) Q E s := by
  have sz := rowsN_len er
  obtain ⟨t', order, e, hpm, T, em, el', ep', ed⟩ := relaid_ok t (hs := es.map (·.1)) (wanted := want) hw hM (by rw [Array.size_map, sz]; omega)
  rw [Array.size_map, sz] at hpm
  obtain ⟨r1, r3⟩ := pick_rows er order.toList fun i hi => List.mem_range.mp (hpm.mem_iff.mp hi)
  have r2 : (order.toList.filterMap fun i => L[i]?).Perm L := by
    have z := hpm.filterMap fun i => L[i]?
    rwa [pick_all L L.length (Nat.le_refl _), List.take_length] at z
  rw [← r3] at T
  generalize (order.toList.filterMap fun i => L[i]?) = L2 at r1 r2 T
  have r1' : (order.filterMap (es[·]?)).toList = rowsN w L2 := by first | (rw [Array.toList_filterMap]; exact r1) | simpa using r1
  have s2 : (order.filterMap (es[·]?)).size = es.size := by rw [rowsN_len r1', sz, r2.length_eq]
  rw [setRelay_eq]
  refine wpAny_bind (wpAny_setState_of ho hd (fits_of er hp hdm hfl) ?_)
  dsimp only
  refine wp_if_neg (by rw [sizeLine_eq]; omega) ?_
  try refine wpAny_bind (wpAny_pure ?_)
  rw [e]
  dsimp only
  refine wpAny_bind (wp_if_neg (by rw [s2]; simp) ?_)
  try refine wpAny_bind (wpAny_pure ?_)
  refine wpAny_pure ?_
  dsimp only
  refine wpAny_storeSet_of ho hd ?_ (by rw [s2, sz, sizeLine_eq]; omega)
  have sb : Heap.SameBut a s.heap (s.heap.update a (Obj.putSet (order.filterMap (es[·]?)) t')) := Heap.SameBut.update ..
  exact q _ L2 _ (ep + 1) t' sb ⟨⟨_, store_at ho hd, ⟨hex.1, hex.2.1, hex.2.2⟩, rfl⟩, r1', T, (r2.map (·.2)).nodup_iff.mpr nd, fun p h => (el p (r2.mem_iff.mp h)).but ho hd sb, by rw [ep']; exact pl, by rw [el']; exact ld, by rw [r2.length_eq, em]; exact hn, by rw [r2.length_eq]; exact fw⟩ r2
/-- one more element -/
theorem addN (R : SetN w s.heap a L es ep t) {x : Addr} {k : NK} (hx : IsN s.heap k x) (hu : A.units + 8 < cLine) (hf : L.length + 1 < 64) {Q : Bool → Shared → Prop}
    (q : ∀ b h' L' es' ep' t', Heap.SameBut a s.heap h' → SetN w h' a L' es' ep' t' → (k ∈ L.map (·.2) → L' = L) → (k ∉ L.map (·.2) → L'.Perm ((x, k) :: L)) → Q b { s with heap := h' }) : wpAny (model P w) A (setAddHashed a (.ref x) (nhash w k)) Q E s := by
  obtain ⟨o, ho, hex, hd⟩ := R.ob
  have rm := R.rm
  unfold setAddHashed
  refine wpAny_holding ?_
  rw [show (100000 : Nat) = 99999 + 1 from rfl, setAddHashedIn_succ]
  refine wpAny_bind (wpAny_setState_of ho hd R.fits ?_)
  dsimp only
  refine wp_if_neg (by simp [byScan, Value.scannable]) ?_
  try refine wpAny_bind (wpAny_pure ?_)
  refine wpAny_bind (findN R hx hu (fun hm => ?_) fun N hm hN hb => ?_)
  · dsimp only
    exact wpAny_pure (q false s.heap L es ep t (Heap.SameBut.refl a s.heap) R (fun _ => rfl) fun z => absurd hm z)
  · dsimp only
    refine wpAny_bind (wpAny_setState_of ho hd R.fits ?_)
    dsimp only
    obtain ⟨q1, q2, q3, q4, q5, q6, q7, q8, q9⟩ := R.tb.put hN hb
    have pl1 : (t.put (way t.mask (nhash w k) N)).1.plain = true := by rw [q6]; exact R.pl
    generalize hpt : t.put (way t.mask (nhash w k) N) = pt at q1 q3 q4 q5 q6 q7 q8 q9 pl1 ⊢
    obtain ⟨t1, p⟩ := pt
    dsimp only at q1 q3 q4 q5 q6 q7 q8 q9 pl1 ⊢
    subst q1
    first
      | (refine wpAny_bind ?_; refine wp_if_pos pl1 ?_; refine hx.byVal ?_)
      | refine wp_if_pos pl1 (wpAny_bind (hx.byVal ?_))
    simp only [if_true]
    have ins : (SetTable.insertAt es (SetTable.below t.place (way t.mask (nhash w k) N)) (nhash w k, Value.ref x)).toList = rowsN w (L.take (SetTable.below t.place (way t.mask (nhash w k) N)) ++ (x, k) :: L.drop (SetTable.below t.place (way t.mask (nhash w k) N))) := by
      rw [SetTable.toList_insertAt, rowsN_mid, R.rw]
    generalize SetTable.below t.place (way t.mask (nhash w k) N) = p at q2 q3 ins ⊢
    have pm := put_perm L p (x, k)
    have hhs : (L.take p ++ (x, k) :: L.drop p).map (fun p => nhash w p.2) = (L.map fun p => nhash w p.2).take p ++ nhash w k :: (L.map fun p => nhash w p.2).drop p := by simp
    rw [← hhs] at q3
    have nd1 : ((L.take p ++ (x, k) :: L.drop p).map (·.2)).Nodup := (pm.map (·.2)).nodup_iff.mpr (List.nodup_cons.mpr ⟨hm, R.nd⟩)
    generalize L.take p ++ (x, k) :: L.drop p = L1 at pm q3 nd1 ins
    have ll : L1.length = L.length + 1 := pm.length_eq
    have hes := rowsN_len ins
    generalize SetTable.insertAt es p (nhash w k, Value.ref x) = es1 at ins hes ⊢
    refine wpAny_bind (wpAny_storeSet_of ho hd ?_ (by rw [hes, ll, sizeLine_eq]; omega))
    have sb : Heap.SameBut a s.heap (s.heap.update a (Obj.putSet es1 t1)) := Heap.SameBut.update ..
    have ho1 := store_at (es' := es1) (t' := t1) ho hd
    generalize s.heap.update a (Obj.putSet es1 t1) = h1 at sb ho1 ⊢
    have el1 : ∀ p ∈ L1, IsN h1 p.2 p.1 := fun p hp => by
      rcases List.mem_cons.mp (pm.mem_iff.mp hp) with e | hp
      · subst e
        exact hx.but ho hd sb
      · exact (R.el p hp).but ho hd sb
    have ld1 : w.params.followText "set-order" = true ∨ t1.led = true := by rw [q5]; exact R.ld
    have fl : t1.tooFull = decide ((L.length + 1) * 5 ≥ t1.mask * 3) := by
      unfold SetTable.tooFull
      rw [q9, List.length_map]
    by_cases hf2 : t1.tooFull = true
    · first
        | (refine wpAny_bind ?_; refine wp_if_pos (by simp [hf2]) ?_)
        | (refine wp_if_pos (by simp [hf2]) ?_; refine wpAny_bind ?_)
      have full : (L.length + 1) * 5 ≥ t1.mask * 3 := of_decide_eq_true (fl.symm.trans hf2)
      rw [R.size]
      have two : (t.mask = 7 ∧ L.length = 4) ∨ (t.mask = 31 ∧ L.length = 18) := by
        rcases R.tb.mok with e | e | e
        · rw [q4, e] at full; rw [e] at rm; exact .inl ⟨e, by omega⟩
        · rw [q4, e] at full; rw [e] at rm; exact .inr ⟨e, by omega⟩
        · exfalso; rw [q4, e] at full; omega
      have place1 : t1.place.size = es1.size := by
        have z := q3.sz
        rwa [List.length_map, ← hes] at z
      have go : ∀ M, SetTable.sizeAbove (SetTable.grown (L.length + 1)) - 1 = M → MaskOk M → SetTable.sizeAbove (SetTable.grown (L.length + 1)) ≤ 128 → (L.length + 1) * 5 < M * 3 →
          wpAny (model P w) A (setRelay a (SetTable.grown (L.length + 1))) (fun _ s' => wpAny (model P w) A (pure true) Q E s') E { s with heap := h1 } := fun M z1 z2 z3 z4 =>
        relayN (s := { s with heap := h1 }) ho1 ⟨hex.1, hex.2.1, hex.2.2⟩ rfl ins place1 q3.dm (by rw [ll, q4]; rcases two with ⟨e, e2⟩ | ⟨e, e2⟩ <;> omega) nd1 el1 pl1 ld1 (by rw [ll]; exact hf) z1 z2 z3 (by rw [ll]; exact z4)
          fun h2 L2 es2 ep2 t2 sb2 R2 pm2 => wpAny_pure (q true h2 L2 es2 ep2 t2 (sb.trans sb2) R2 (fun z => absurd z hm) fun _ => pm2.trans pm)
      rcases two with ⟨_, e2⟩ | ⟨_, e2⟩
      · exact go 31 (by rw [e2, size_20]) (.inr (.inl rfl)) (by rw [e2, size_20]; decide) (by omega)
      · exact go 127 (by rw [e2, size_76]) (.inr (.inr rfl)) (by rw [e2, size_76]; decide) (by omega)
    · first
        | refine wp_if_neg (by simp [hf2]) ?_
        | (refine wpAny_bind ?_; refine wp_if_neg (by simp [hf2]) ?_; refine wpAny_pure ?_)
      refine wpAny_pure (q true h1 L1 es1 (ep + 1) t1 sb ⟨⟨_, ho1, ⟨hex.1, hex.2.1, hex.2.2⟩, rfl⟩, ins, q3, nd1, el1, pl1, ld1, ?_, by rw [ll]; exact hf⟩ (fun z => absurd z hm) fun _ => pm)
      have nf : ¬ (L.length + 1) * 5 ≥ t1.mask * 3 := fun z => hf2 (fl.trans (decide_eq_true z))
      rw [ll]
      omega
end
/-! ### set(xs) -/
/-- what stands in it of the first i -/
structure Has (ks : List Row) (i : Nat) (L : List Row) : Prop where
  sub : ∀ p ∈ L, p ∈ ks.take i
  all : ∀ p ∈ ks.take i, p.2 ∈ L.map (·.2)
  len : L.length ≤ i
theorem Has.step {ks L : List Row} {i : Nat} {x : Row} (g : Has ks i L) (h : ks[i]? = some x) {L' : List Row} (c1 : x.2 ∈ L.map (·.2) → L' = L) (c2 : x.2 ∉ L.map (·.2) → L'.Perm (x :: L)) : Has ks (i + 1) L' := by
  have e := take_next h
  by_cases c : x.2 ∈ L.map (·.2)
  · rw [c1 c]
    refine ⟨fun p hp => ?_, fun p hp => ?_, Nat.le_succ_of_le g.len⟩
    · rw [e]
      exact List.mem_append_left _ (g.sub p hp)
    · rw [e] at hp
      rcases List.mem_append.mp hp with z | z
      · exact g.all p z
      · rw [List.mem_singleton.mp z]
        exact c
  · have pm := c2 c
    refine ⟨fun p hp => ?_, fun p hp => ?_, by rw [pm.length_eq, List.length_cons]; exact Nat.succ_le_succ g.len⟩
    · rw [e]
      rcases List.mem_cons.mp (pm.mem_iff.mp hp) with z | z
      · rw [z]
        exact List.mem_append_right _ (List.mem_singleton.mpr rfl)
      · exact List.mem_append_left _ (g.sub p z)
    · rw [(pm.map (·.2)).mem_iff, List.map_cons]
      rw [e] at hp
      rcases List.mem_append.mp hp with z | z
      · exact List.mem_cons_of_mem _ (g.all p z)
      · rw [List.mem_singleton.mp z]
        exact List.mem_cons_self
section
variable {P : Program} {w : World} {A : Around} {E : Value → Shared → Prop} {s : Shared}
theorem SetN.keep {h h' : Heap} {a : Addr} {L : List Row} {es : Array (Int × Value)} {ep : Nat} {t : SetTable} (R : SetN w h a L es ep t) (ha : ∀ o, h.get? a = some o → h'.get? a = some o) (hl : ∀ p ∈ L, IsN h' p.2 p.1) : SetN w h' a L es ep t := by
  obtain ⟨o, ho, r⟩ := R.ob
  exact ⟨⟨o, ha o ho, r⟩, R.rw, R.tb, R.nd, hl, R.pl, R.ld, R.rm, R.fw⟩
abbrev emptySet (w : World) : Obj := { cls := .type "set", dict := none, data := .set #[] 0 (.fresh 0 0 (!w.params.followText "set-order")) }
theorem setN_new {h : Heap} {a : Addr} (ho : h.get? a = some (emptySet w)) : SetN w h a [] #[] 0 (.fresh 0 0 (!w.params.followText "set-order")) :=
  ⟨⟨_, ho, ⟨rfl, rfl, rfl⟩, rfl⟩, rfl, ⟨List.Pairwise.nil, rfl, rfl, .inl rfl, fun x hx => (by cases hx), fun i h j hi => (by simp at hi)⟩, List.nodup_nil, fun p hp => (by cases hp), rfl, (by
    show _ ∨ (!w.params.followText "set-order") = true
    cases w.params.followText "set-order"
    · exact .inr rfl
    · exact .inl rfl), (by show 0 * 5 < 7 * 3; decide), (by show 0 < 64; decide)⟩
/-- the loop of set.update -/
theorem updateN {I : Addr} {fp wr : List Addr} {G : Array GenState → Array GenState → Prop} {n : Nat} {Pv : Nat → Value → Prop} {St : Nat → Shared → Prop} {R : Result → Shared → Prop} (W : WalksS P w A.in1 I fp wr G n Pv St) (S : Addr) (hS : S ∉ fp) (ks : List Row) (hn : n = ks.length) (few : ks.length < 64)
    (hv : ∀ i v, Pv i v → ∃ p, ks[i]? = some p ∧ v = .ref p.1) (h0 : Heap) (hk : ∀ p ∈ ks, IsN h0 p.2 p.1) (nS : h0.get? S = none) (nw : ∀ b ∈ wr, h0.get? b = none) (hu : A.in1.units + 8 < cLine) :
    ∀ (m i : Nat) (s : Shared), n - i = m → i ≤ n → St i s → (∀ b o, h0.get? b = some o → s.heap.get? b = some o) → (∃ L es ep t, SetN w s.heap S L es ep t ∧ Has ks i L) →
      (∀ s' L es ep t, Moved (S :: wr) G s s' → SetN w s'.heap S L es ep t → Has ks n L → (∀ b o, h0.get? b = some o → s'.heap.get? b = some o) → R (.ok (.ret .none)) s') →
      codeAny (model P w) A (.builtin "set.update.loop" ⟨[.ref S, .ref I], []⟩) R s := by
  have nSw : S ∉ wr := fun h => hS (W.sub _ h)
  have up : ∀ b ∈ wr, b ∈ S :: wr := fun b hb => List.mem_cons_of_mem _ hb
  have kp : ∀ {s s' : Shared}, Moved wr G s s' → (∀ b o, h0.get? b = some o → s.heap.get? b = some o) → ∀ b o, h0.get? b = some o → s'.heap.get? b = some o := fun hm k b o e =>
    hm.heap b o (fun hb => by rw [nw b hb] at e; cases e) (k b o e)
  intro m
  induction m with
  | zero =>
    intro i s hm hi st k ⟨L, es, ep, t, R0, g⟩ r
    obtain rfl : i = n := by omega
    refine codeAny_builtin F.entry_set_update_loop ?_
    rw [Around.under_plainId F.plain_set_update_loop _]
    show wpAny _ A.in1 (pyNext (.ref I) >>= _) _ _ s
    refine wpAny_bind (W.done s _ _ st fun s' mv => ?_)
    show wpAny _ A.in1 (ret Value.none) _ _ s'
    have k' := kp mv k
    exact wpAny_pure (r s' L es ep t (mv.mono up) (R0.keep (fun o e => mv.heap S o nSw e) fun p hp => (hk p (List.mem_of_mem_take (g.sub p hp))).keep k') g k')
  | succ m ih =>
    intro i s hm hi st k ⟨L, es, ep, t, R0, g⟩ r
    refine codeAny_builtin F.entry_set_update_loop ?_
    rw [Around.under_plainId F.plain_set_update_loop _]
    show wpAny _ A.in1 (pyNext (.ref I) >>= _) _ _ s
    refine wpAny_bind (W.item i s _ _ (by omega) st fun v s' hP st' mv => ?_)
    obtain ⟨p, hp, rfl⟩ := hv i v hP
    have k' := kp mv k
    have R1 : SetN w s'.heap S L es ep t := R0.keep (fun o e => mv.heap S o nSw e) fun q hq => (hk q (List.mem_of_mem_take (g.sub q hq))).keep k'
    have hx : IsN s'.heap p.2 p.1 := (hk p (List.mem_of_getElem? hp)).keep k'
    show wpAny _ A.in1 (holding [Value.ref p.1] (setAdd S (.ref p.1)) >>= _) _ _ s'
    refine wpAny_bind (wpAny_holding ?_)
    unfold setAdd
    refine wpAny_holding (wpAny_bind (pyHash_key p.2 _ A.in1 s' _ hx.is (by have := hx.dp; omega) ?_))
    refine addN (s := { s' with toks := s'.toks + p.2.draws }) R1 hx hu (by have := g.len; omega) fun b h' L' es' ep' t' sb R2 c1 c2 => ?_
    have k2 : ∀ b o, h0.get? b = some o → h'.get? b = some o := fun b o e => (sb.2 b (fun z => by rw [z, nS] at e; cases e)).trans (k' b o e)
    refine wpAny_pure ⟨plainId_quiet F.plain_set_update_loop _, ih (i + 1) _ (by omega) (by omega) (W.frame _ s' _ _ st' (Nat.le_add_right _ _) fun b hb o e => ?_) k2 ⟨L', es', ep', t', R2, g.step hp c1 c2⟩ fun s2 L2 es2 ep2 t2 mv2 R3 g2 k3 => ?_⟩
    · rw [sb.2 b (fun z : b = S => hS (by rw [← z]; exact hb))]
      exact e
    · refine r s2 L2 es2 ep2 t2 (Moved.trans W.gtrans ((mv.mono up).then_heap (Nat.le_add_right _ _) fun b o hb e => ?_) mv2) R3 g2 k3
      rw [sb.2 b (fun z : b = S => hb (by rw [z]; exact List.mem_cons_self))]
      exact e
end
end K46
set_option Elab.async false
set_option linter.all false
set_option maxRecDepth 100000
set_option maxHeartbeats 3200000
namespace K46
open PySem PySem.Spec PyProof.Rows L2 SeqAt
section
variable {P : Program} {w : World} {A : Around} {E : Value → Shared → Prop} {s : Shared}
theorem get_none {h : Heap} {b : Addr} (hb : h.objs.size ≤ b) : h.get? b = none := by
  cases q : h.get? b with
  | none => rfl
  | some o => exact absurd (Nat.lt_of_lt_of_le (Heap.lt_size q) hb) (Nat.lt_irrefl _)
theorem setOfN {l : Addr} {items : Array Value} (ks : List Row) {Q : Value → Shared → Prop} (hh : A.handled = none) (hl : s.heap.IsList l items) (hit : items.toList = ks.map fun p => Value.ref p.1) (hk : ∀ p ∈ ks, IsN s.heap p.2 p.1) (few : ks.length < 64) (hu : A.units + 11 < cLine)
    (q : ∀ (h' : Heap) (tk : Nat) L es ep t, SetN w h' s.heap.objs.size L es ep t → Has ks ks.length L → (∀ b o, s.heap.get? b = some o → h'.get? b = some o) → Q (.ref s.heap.objs.size) { s with heap := h', toks := tk }) :
    wpAny (model P w) A (call (.type "set") [.ref l]) Q E s := by
  have isz : items.size = ks.length := by
    have z := congrArg List.length hit
    rwa [Array.length_toList, List.length_map] at z
  obtain ⟨c, tl, hmro⟩ := F.called_set.mro
  have hmade := F.called_set.made
  have hsub := F.called_set.sub
  refine wpAny_call (codeAny_of_tree ?_)
  show wpAny _ _ (callAny (.type "set") _) _ _ _
  refine wpAny_pure ⟨Code.quiet_builtin _ (by decide +kernel), codeAny_builtin F.entry_type_call ?_⟩
  rw [Around.under_plain (weight_type_call_type "set" [.ref l] []) rfl]
  have n1 := F.called_set.notType
  have n2 := F.called_set.canCreate
  have n3 := F.typeCall_set_1 (.ref l)
  repeat (any_goals (first | assumption | wp_step))
  refine codeAny_mono (code_set_led1 (.ref l) (E := E) (Q₁ := fun obj s₁ => obj = .ref s.heap.objs.size ∧ s₁ = { s with heap := s.heap.push { cls := .type "set", dict := none, data := .set #[] 0 (.fresh 0 0 (!w.params.followText "set-order")) } }) ⟨rfl, rfl⟩) fun r s₁ hr => ?_
  cases r with
  | error e => exact hr
  | ok fl =>
    cases fl with
    | ret obj =>
      obtain ⟨rfl, rfl⟩ := hr
      have gS : (s.heap.push { cls := .type "set", dict := none, data := .set #[] 0 (.fresh 0 0 (!w.params.followText "set-order")) }).get? s.heap.objs.size = some { cls := .type "set", dict := none, data := .set #[] 0 (.fresh 0 0 (!w.params.followText "set-order")) } := Heap.get?_push_size _ rfl
      have tS : Shared.TypeIs { s with heap := s.heap.push { cls := .type "set", dict := none, data := .set #[] 0 (.fresh 0 0 (!w.params.followText "set-order")) } } (.ref s.heap.objs.size) "set" := ⟨_, gS, rfl⟩
      have i1 := F.called_set.init.lookup
      have i2 := F.called_set.init.bind (.ref s.heap.objs.size)
      repeat (any_goals (first | assumption | wp_step))
      refine codeAny_mono (codeAny_call_builtin (R := wants (fun r s₂ => r = .none ∧ ∃ h' tk L es ep t, s₂ = { s with heap := h', toks := tk } ∧ SetN w h' s.heap.objs.size L es ep t ∧ Has ks ks.length L ∧ (∀ b o, s.heap.get? b = some o → h'.get? b = some o)) E)
        F.called_set.init.plain F.entry_set_init (check_set_init_1 tS ?_)) fun r₂ s₂ hr₂ => ?_
      · obtain ⟨ol, hol, hcl, nl, hdl⟩ := hl
        obtain ⟨ocls, odict, odata, oslots⟩ := ol
        simp only at hcl hdl
        subst hcl; subst hdl
        have hol1 : (s.heap.push { cls := .type "set", dict := none, data := .set #[] 0 (.fresh 0 0 (!w.params.followText "set-order")) }).get? l = some { cls := .type "list", dict := odict, data := .seq items nl, slots := oslots } := Heap.get?_push_of_some _ hol
        have m1 := F.sub_list_set
        have m2 := F.sub_list_frozenset
        have m3 : (Value.type "list" == Value.type "dict") = false := by decide
        have hl1 : (s.heap.push { cls := .type "set", dict := none, data := .set #[] 0 (.fresh 0 0 (!w.params.followText "set-order")) }).IsList l items := ⟨_, hol1, rfl, nl, rfl⟩
        unfold Builtin.«set.__init__» noKeywords Builtin.Frozenset.updateFrom
        generalize hPI : pyIter = PI
        wp_walk
        subst hPI
        refine wpAny_pyIter_list hl1 (wpAny_bind (wpAny_runValue ?_))
        have lS : l < s.heap.objs.size := Heap.lt_size hol
        have h3 : A.in1.in1.in1.handled = none := by simp [hh]
        have neI : l ≠ (s.heap.push { cls := .type "set", dict := none, data := .set #[] 0 (.fresh 0 0 (!w.params.followText "set-order")) }).objs.size := by
          rw [Heap.size_push]; exact Nat.ne_of_lt (Nat.lt_succ_of_lt lS)
        have nf : s.heap.objs.size ∉ [(s.heap.push { cls := .type "set", dict := none, data := .set #[] 0 (.fresh 0 0 (!w.params.followText "set-order")) }).objs.size, l] := by
          rw [Heap.size_push]; simp only [List.mem_cons, List.mem_singleton, List.not_mem_nil, or_false, not_or]
          exact ⟨Nat.ne_of_lt (Nat.lt_succ_self _), Nat.ne_of_gt lS⟩
        have val : ∀ (i : Nat) (v : Value), items[i]? = some v → ∃ p, ks[i]? = some p ∧ v = .ref p.1 := fun i v hv => by
          have z : items.toList[i]? = some v := by rw [Array.getElem?_toList]; exact hv
          rw [hit, List.getElem?_map] at z
          cases hq : ks[i]? with
          | none => rw [hq] at z; cases z
          | some p =>
            rw [hq] at z
            exact ⟨p, rfl, (Option.some.inj z).symm⟩
        refine updateN ((Walks.list h3 _ l neI items).toS) s.heap.objs.size nf ks isz few val s.heap hk (get_none (Nat.le_refl _)) (fun b hb => get_none (by rw [List.mem_singleton.mp hb, Heap.size_push]; exact Nat.le_succ _)) (by simp only [Around.in1_units]; omega) (items.size - 0) 0 _ (by omega) (Nat.zero_le _)
          ⟨⟨_, Heap.get?_push_size _ rfl, rfl, rfl⟩, (hl1.push _)⟩ (fun b o e => Heap.get?_push_of_some _ (Heap.get?_push_of_some _ e)) ?first ?last
        case first => exact ⟨[], #[], 0, _, setN_new (Heap.get?_push_of_some _ gS), ⟨fun p h => (by cases h), fun p h => (by simp at h), Nat.le_refl _⟩⟩
        case last =>
          intro s' L es ep t hm R1 g1 kp
          obtain ⟨h', g2, d', tk', os'⟩ := s'
          obtain rfl : g2 = s.gens := hm.gens
          obtain rfl : d' = s.drawn := hm.drawn
          obtain rfl : os' = s.os := hm.os
          show wpAny _ _ _ _ _ _
          refine wpAny_pure ?_
          show wpAny _ _ (ret Value.none) _ _ _
          rw [isz] at g1
          exact wpAny_pure ⟨rfl, h', tk', L, es, ep, t, rfl, R1, g1, kp⟩
      · cases r₂ with
        | error e => exact hr₂
        | ok fl₂ =>
          cases fl₂ with
          | ret r =>
            obtain ⟨rfl, h', tk, L, es, ep, t, rfl, R1, g1, kp⟩ := hr₂
            repeat (any_goals (first | assumption | wp_step))
            exact q _ _ _ _ _ _ R1 g1 kp
          | _ => exact hr₂.elim
    | _ => exact hr.elim
end
end K46
set_option Elab.async false
set_option linter.all false
set_option maxRecDepth 100000
set_option maxHeartbeats 1600000
namespace K46
open PySem PySem.Spec PyProof.Rows L2 SeqAt
/-! ### marks: (n, (n1, .., nk)) -/
abbrev Mark := Int × List Int
def mk (m : Mark) : NK := .tup [.num m.1, .tup (m.2.map .num)]
theorem nums_inj : ∀ {a b : List Int}, a.map NestedKey.num = b.map NestedKey.num → a = b
  | [], [], _ => rfl
  | [], _ :: _, h => by cases h
  | _ :: _, [], h => by cases h
  | x :: a, y :: b, h => by
    rw [List.map_cons, List.map_cons] at h
    injection h with h1 h2
    injection h1 with h1
    rw [h1, nums_inj h2]
theorem mk_inj {a b : Mark} (h : mk a = mk b) : a = b := by
  unfold mk at h
  injection h with h
  injection h with h1 h2
  injection h1 with h1
  injection h2 with h2 _
  injection h2 with h2
  exact Prod.ext h1 (nums_inj h2)
theorem depth_nums : ∀ ns : List Int, NestedKey.depthAll (ns.map .num) = 0
  | [] => by simp [NestedKey.depthAll]
  | n :: ns => by
    rw [List.map_cons, NestedKey.depthAll, depth_nums ns]
    simp [NestedKey.depth]
theorem mk_depth (m : Mark) : (mk m).depth = 2 := by
  simp [mk, NestedKey.depth, NestedKey.depthAll, depth_nums]
theorem numKs_nums : ∀ ns : List Int, numKs (ns.map .num)
  | [] => by simp [numKs]
  | n :: ns => by
    rw [List.map_cons, numKs]
    exact ⟨by simp [numK], numKs_nums ns⟩
theorem mk_num (m : Mark) : numK (mk m) := by
  simp [mk, numK, numKs, numKs_nums]
theorem datas_nums : ∀ ns : List Int, NestedKey.datas (ns.map .num) = ns.map PyData.int
  | [] => by simp [NestedKey.datas]
  | n :: ns => by
    rw [List.map_cons, NestedKey.datas, datas_nums ns]
    simp [NestedKey.data]
def encM (m : Mark) : PyData := .tuple [.int m.1, .tuple (m.2.map .int)]
theorem depth_encM (m : Mark) : (encM m).depth = 2 := by
  simp [encM, PyData.depth, PyData.depthAll, PySem.W.depth_ints]
theorem alike_encM (a b : Mark) : PySem.W.alike (encM a) (encM b) = true := by
  simp [encM, PySem.W.alike, PySem.W.alikeAll, PySem.W.alike_ints]
/-- the tuple at p is the mark m -/
def MarkH (K : PySem.W.Frag) (H : Hp) (p : Addr) (m : Mark) : Prop := ∃ b, SqT K H p [.int m.1, .ref b] ∧ SqT K H b (m.2.map V.int)
theorem same_seqT {K : PySem.W.Frag} {H H' : Hp} {a : Addr} {xs : List V} (e : Same H H') (h : SqT K H a xs) : SqT K H' a xs := by
  rcases h with (h | ⟨o, h⟩) | h
  · exact .inl (.inl (e _ _ h))
  · exact .inl (.inr ⟨o, e _ _ h⟩)
  · exact .inr h
theorem MarkH.same {K : PySem.W.Frag} {H H' : Hp} {p : Addr} {m : Mark} (x : MarkH K H p m) (s : Same H H') : MarkH K H' p m := by
  obtain ⟨b, h1, h2⟩ := x
  exact ⟨b, same_seqT s h1, same_seqT s h2⟩
theorem nested_ints {h : Heap} : ∀ {ns : List Int} {us : List Value}, Vals (ns.map V.int) us → NestedAll h (ns.map .num) us
  | [], _, .nil => .nil
  | _ :: _, _, .cons r t => by
    obtain ⟨k, rfl⟩ := r
    exact .cons (.int _ k) (nested_ints t)
theorem reads_ints {h : Heap} : ∀ {ns : List Int} {us : List Value}, Vals (ns.map V.int) us → ReadsAll h us (ns.map .int) []
  | [], _, .nil => .nil
  | _ :: _, _, .cons r t => by
    obtain ⟨k, rfl⟩ := r
    exact .cons (as := []) (.int _ k) (reads_ints t)
section
variable {X : Cx} {pins : List (Addr × Obj)} {σ : L2.St} {H : Hp} {s : Shared}
theorem mark_raw (I : Inv X pins σ H s) {p : Addr} {m : Mark} (x : MarkH X.K H p m) : IsN s.heap (mk m) p ∧ Reads s.heap (.ref p) (encM m) [] := by
  obtain ⟨b, h1, h2⟩ := x
  obtain ⟨its, rv, ⟨o, ho, hc, n, hd⟩, _⟩ := I.tuple h1
  obtain ⟨its2, rv2, ⟨o2, ho2, hc2, n2, hd2⟩, _⟩ := I.tuple h2
  cases rv with
  | cons r t =>
    cases t with
    | cons r2 t2 =>
      cases t2
      obtain ⟨k, rfl⟩ := r
      cases r2
      exact ⟨⟨.tup ho hc hd (.cons (.int _ k) (.cons (.tup ho2 hc2 hd2 (by simpa using nested_ints rv2)) .nil)), by rw [mk_depth]; decide, mk_num m⟩,
        .tuple ho hc hd (.cons (as := []) (.int _ k) (.cons (as := []) (.tuple ho2 hc2 hd2 (by simpa using reads_ints rv2)) .nil))⟩
end
abbrev MRow := Addr × Mark
abbrev mrow (p : MRow) : Row := (p.1, mk p.2)
/-- the set at a, without the tuples -/
structure SetN0 (w : World) (h : Heap) (a : Addr) (L : List Row) : Prop where
  ex : ∃ (es : Array (Int × Value)) (ep : Nat) (t : SetTable), (∃ o, h.get? a = some o ∧ o.ExactSet ∧ o.data = .set es ep t) ∧ es.toList = rowsN w L ∧ TabOk t (L.map fun p => nhash w p.2) ∧ (L.map (·.2)).Nodup ∧ t.plain = true ∧ (w.params.followText "set-order" = true ∨ t.led = true) ∧ L.length * 5 < t.mask * 3 ∧ L.length < 64
def SetNO (w : World) (a : Addr) (L : List MRow) : HO := .ext fun h => SetN0 w h a (L.map mrow)
theorem setNO_ok {P : Program} {w : World} {H : Hp} {h : Heap} {a : Addr} {L : List MRow} (R : SetN0 w h a (L.map mrow)) : ObjOk P w H h a (SetNO w a L) := by
  have ⟨es, ep, t, ⟨o, ho, r⟩, q⟩ := R.ex
  refine ⟨R, ⟨o, ho⟩, fun h1 h2 x k => ?_⟩
  have ⟨es', ep', t', ⟨o', ho', r'⟩, q'⟩ := SetN0.ex x
  exact ⟨es', ep', t', ⟨o', k o' ho', r'⟩, q'⟩
theorem refs_us : ∀ {ks : List MRow} {us : List Value}, Vals (ks.map fun p => V.ref p.1) us → us = ks.map fun p => Value.ref p.1
  | [], _, .nil => rfl
  | p :: ks, _, .cons r t => by
    cases r
    rw [refs_us t]
    rfl
theorem us_refs : ∀ (ks : List MRow), Vals (ks.map fun p => V.ref p.1) (ks.map fun p => Value.ref p.1)
  | [] => .nil
  | p :: ks => .cons rfl (us_refs ks)
theorem perm_of_map {α β : Type} {f : α → β} : ∀ {vs ws : List β}, vs.Perm ws → ∀ {L : List α}, ws = L.map f → ∃ L1 : List α, L1.Perm L ∧ vs = L1.map f := by
  intro vs ws h
  induction h with
  | nil =>
    intro L e
    cases L with
    | nil => exact ⟨[], .refl _, rfl⟩
    | cons => cases e
  | cons x _ ih =>
    intro L e
    cases L with
    | nil => cases e
    | cons y L =>
      rw [List.map_cons] at e
      injection e with e1 e2
      obtain ⟨L1, p, q⟩ := ih e2
      exact ⟨y :: L1, p.cons y, by rw [List.map_cons, ← q, e1]⟩
  | swap x y l =>
    intro L e
    match L, e with
    | a :: b :: L, e =>
      simp only [List.map_cons] at e
      injection e with e1 e2
      injection e2 with e2 e3
      exact ⟨b :: a :: L, .swap a b L, by simp [e1, e2, e3]⟩
    | [_], e => simp at e
    | [], e => simp at e
  | trans _ _ i1 i2 =>
    intro L e
    obtain ⟨L2, p2, q2⟩ := i2 e
    obtain ⟨L1, p1, q1⟩ := i1 q2
    exact ⟨L1, p1.trans p2, q1⟩
section
variable {X : Cx}
/-- set(xs), xs a list of marks -/
def rSetM (K : PySem.W.Frag) (w : World) : List V → Hp → VK → Prop := fun xs H Q => ∃ (l : Addr) (ks : List MRow), xs = [V.ref l] ∧ SqL K H l (ks.map fun p => V.ref p.1) ∧ (∀ p ∈ ks, MarkH K H p.1 p.2) ∧ ks.length < 64 ∧
  ∀ a L, H a = none → (∀ p ∈ L, p ∈ ks) → (∀ p ∈ ks, p.2 ∈ L.map (·.2)) → Q (.ref a) (upd H a (SetNO w a L))
theorem cr_setM (hc : X.calm = true) (hu : X.A.units + 64 < cLine) : CallR X (.type "set") (rSetM X.K X.w) := by
  intro pins s σ H xs us Q I r h
  obtain ⟨l, ks, rfl, hl, hk, hf, q⟩ := h
  rw [Vals.ref1 r]
  obtain ⟨its, rv, pl, hz⟩ := I.list hl
  have nS : H s.heap.objs.size = none := I.hok.fresh (Nat.le_refl _)
  have ei : its.toArray.toList = (ks.map mrow).map fun p => Value.ref p.1 := by
    rw [List.map_map, refs_us rv]
    rfl
  refine setOfN (P := X.prog) (w := X.w) (ks.map mrow) (I.ok.hd hc) pl.isList ei (fun p hp => ?_) (by rw [List.length_map]; exact hf) (by omega) fun h' tk L es ep t R g k => ?_
  · obtain ⟨p', hp', rfl⟩ := List.mem_map.mp hp
    exact (mark_raw I (hk p' hp')).1
  · have sub : ∀ p ∈ L, p ∈ ks.map mrow := fun p hp => List.mem_of_mem_take (g.sub p hp)
    have all : ∀ p ∈ ks.map mrow, p.2 ∈ L.map (·.2) := fun p hp => g.all p (by rw [List.length_map, ← List.length_map mrow, List.take_length]; exact hp)
    obtain ⟨L', eL⟩ : ∃ L' : List MRow, L = L'.map mrow := by
      clear R g all
      induction L with
      | nil => exact ⟨[], rfl⟩
      | cons p L ih =>
        obtain ⟨p', hp', e⟩ := List.mem_map.mp (sub p List.mem_cons_self)
        obtain ⟨L', e'⟩ := ih fun x hx => sub x (List.mem_cons_of_mem _ hx)
        exact ⟨p' :: L', by rw [List.map_cons, e, e']⟩
    subst eL
    refine ⟨.ref s.heap.objs.size, upd H s.heap.objs.size (SetNO X.w s.heap.objs.size L'), I.laid (t' := tk) k (Nat.le_refl _) (setNO_ok ⟨es, ep, t, R.ob, R.rw, R.tb, R.nd, R.pl, R.ld, R.rm, R.fw⟩), rfl, q _ L' nS (fun p hp => ?_) fun p hp => ?_⟩
    · obtain ⟨p', hp', e⟩ := List.mem_map.mp (sub (mrow p) (List.mem_map.mpr ⟨p, hp, rfl⟩))
      have e1 : p'.1 = p.1 := congrArg (fun x : Row => x.1) e
      have e2 : p'.2 = p.2 := mk_inj (congrArg (fun x : Row => x.2) e)
      have e3 : p' = p := Prod.ext e1 e2
      rw [← e3]
      exact hp'
    · have z := all (mrow p) (List.mem_map.mpr ⟨p, hp, rfl⟩)
      rw [List.map_map] at z
      obtain ⟨p', hp', e⟩ := List.mem_map.mp z
      exact List.mem_map.mpr ⟨p', hp', mk_inj e⟩
/-- sorted(set): some order, each once -/
def rSortedM (K : PySem.W.Frag) (w : World) : List V → Hp → VK → Prop := fun vs H Q => ∃ (a : Addr) (L : List MRow), vs = [V.ref a] ∧ H a = some (SetNO w a L) ∧ (∀ p ∈ L, MarkH K H p.1 p.2) ∧
  ∀ (L' : List MRow) (p : Addr), L'.Perm L → (L'.map (·.2)).Nodup → L'.length < 64 → H p = none → Q (.ref p) (upd H p (.lst (L'.map fun q => V.ref q.1)))
theorem cr_sortedM (hc : X.calm = true) (hu : X.A.units + 64 < cLine) : CallR X (.builtin "sorted") (rSortedM X.K X.w) := by
  intro pins s σ H vs us Q I r h
  obtain ⟨a, L, rfl, ha, hk, q⟩ := h
  rw [Vals.ref1 r]
  obtain ⟨es, ep, t, ⟨o, ho, hex, hd⟩, h2, h3, h4, h5, h6, h7, h8⟩ := SetN0.ex ((I.hok a _ ha).1)
  have fit : t.fits es.size = true := fits_of h2 (by rw [rowsN_len h2]; simpa using h3.sz) h3.dm (by omega)
  have few : L.length < 64 := by rwa [List.length_map] at h8
  refine Calls.call_function_entry kind_sorted plain_sorted entry_sorted (args_sorted1 _) ?_
  unfold Builtin.«sorted»
  refine wpAny_bind (m := checkCount "sorted" 1 1 _) (wpAny_pure ?_)
  refine wpAny_bind (collect_set (A := X.A.in1) (I.ok.hd hc) ⟨o, ho, hex.1, hd⟩ fit (by rw [rowsN_len h2]; unfold scanBound; omega) h3.ris h6 fun s1 vs k1 hz g1 o1 pm => ?_)
  rw [h2, rowsN, List.map_map, List.map_map] at pm
  obtain ⟨L1, pL, ev⟩ := perm_of_map pm (L := L) rfl
  have ev' : vs = L1.map fun p => Value.ref p.1 := ev
  subst ev'
  clear ev pm
  have vl : (L1.map fun p => Value.ref p.1).length < 64 := by rw [List.length_map, pL.length_eq]; exact few
  refine wpAny_bind (wpAny_newList ?_ (by rw [sizeLine_eq]; omega))
  have hoL : (s1.heap.push (seqObj "list" (L1.map fun p => Value.ref p.1).toArray 0)).get? s1.heap.objs.size = some (seqObj "list" (L1.map fun p => Value.ref p.1).toArray 0) := Heap.get?_push_size _ rfl
  have each : ∀ l : List MRow, (∀ p ∈ l, p ∈ L) → PySem.W.EachIs (fun (v : Value) (p : MRow) => v = .ref p.1) (l.map fun p => Value.ref p.1) l ∧
      PySem.W.EachIs (fun (v : Value) (p : MRow) => ∃ as, Reads (s1.heap.push (seqObj "list" (L1.map fun p => Value.ref p.1).toArray 0)) v (encM p.2) as ∧ s1.heap.objs.size ∉ as) (l.map fun p => Value.ref p.1) l := by
    intro l hl
    induction l with
    | nil => exact ⟨.nil, .nil⟩
    | cons p l ih =>
      obtain ⟨i1, i2⟩ := ih fun x hx => hl x (List.mem_cons_of_mem _ hx)
      exact ⟨.cons rfl i1, .cons ⟨[], PyProof.Rows.Reads.keeps (fun b u e => Heap.get?_push_of_some _ (k1 b u e)) (mark_raw I (hk p (hl p List.mem_cons_self))).2, by simp⟩ i2⟩
  obtain ⟨ea, eb⟩ := each L1 fun p hp => pL.mem_iff.mp hp
  refine wpAny_bind (wpAny_holding (PySem.W.list_sort_data (s := { s1 with heap := s1.heap.push (seqObj "list" (L1.map fun p => Value.ref p.1).toArray 0) }) (bs := L1) (enc := fun p => encM p.2) (R := fun v p => v = .ref p.1) hoL ea eb (PySem.W.AllAlike.of fun b b' => alike_encM _ _) (PySem.W.Sortable.tuples fun b => ⟨_, _, rfl⟩)
    (by rw [sizeLine_eq, pL.length_eq]; omega) (fun b _ => by rw [depth_encM, Around.in1_units]; omega) fun out lo eo => ?_))
  have pS : (L1.mergeSort (PySem.W.dataLe false fun p : MRow => encM p.2)).Perm L1 := List.mergeSort_perm _ _
  generalize L1.mergeSort (PySem.W.dataLe false fun p : MRow => encM p.2) = L2 at eo pS
  have eo' : out = L2.map fun p => Value.ref p.1 := by
    clear pS lo
    induction eo with
    | nil => rfl
    | cons e _ ih => rw [List.map_cons, e, ih]
  subst eo'
  obtain ⟨c, hcx⟩ := sortedHeap_at (vs := L1.map fun p => Value.ref p.1) (out := (L2.map fun p => Value.ref p.1).toArray) hoL
  have pp : L2.Perm L := pS.trans pL
  have k2 : ∀ b u, s.heap.get? b = some u → (sortedHeap (s1.heap.push (seqObj "list" (L1.map fun p => Value.ref p.1).toArray 0)) s1.heap.objs.size (L1.map fun p => Value.ref p.1) (L2.map fun p => Value.ref p.1).toArray).get? b = some u := fun b u e => by
    have e1 := k1 b u e
    have lt := Heap.lt_size e1
    rw [sortedHeap_old (Nat.ne_of_lt lt) (by rw [size_push']; exact Nat.lt_succ_of_lt lt)]
    exact Heap.get?_push_of_some _ e1
  generalize sortedHeap (s1.heap.push (seqObj "list" (L1.map fun p => Value.ref p.1).toArray 0)) s1.heap.objs.size (L1.map fun p => Value.ref p.1) (L2.map fun p => Value.ref p.1).toArray = h9 at k2 hcx
  have nD : H s1.heap.objs.size = none := I.hok.fresh hz
  have ok9 : ObjOk X.prog X.w (upd H s1.heap.objs.size (.lst (L2.map fun q => V.ref q.1))) h9 s1.heap.objs.size (.lst (L2.map fun q => V.ref q.1)) :=
    ⟨by rw [List.length_map, pp.length_eq, sizeLine_eq]; omega, _, c, us_refs L2, by simpa using hcx⟩
  have J : Inv X pins σ (upd H s1.heap.objs.size (.lst (L2.map fun q => V.ref q.1))) { s1 with heap := h9 } := I.call' (ch := []) o1 (Un.laid k2 hz nD) (I.hok.laid k2 hz ok9) (by show AllBare s1.gens; rw [g1]; exact I.bare) (fun _ z => nomatch z)
  refine wpAny_pure ⟨_, rfl, .ref s1.heap.objs.size, _, J, rfl, q L2 _ pp ?_ (by rw [pp.length_eq]; exact few) nD⟩
  refine (pp.map (·.2)).nodup_iff.mpr ?_
  rw [List.map_map] at h4
  have e9 : L.map ((fun x : Row => x.2) ∘ mrow) = (L.map (·.2)).map mk := by rw [List.map_map]; rfl
  rw [e9] at h4
  exact nodup_of_map h4
end
end K46
set_option Elab.async false
set_option linter.all false
set_option maxRecDepth 100000
set_option maxHeartbeats 1600000
namespace K46
open PySem PySem.Spec PyProof.Rows L2 SeqAt
/-! ### list(d.values()) -/
def ViewO (p d : Addr) : HO := .ext fun h => h.IsValuesView p d
section
variable {X : Cx}
def rVals : V → List V → Hp → VK → Prop := fun x xs H Q => ∃ (d : Addr) (kvs : List (Key × V)), x = .ref d ∧ xs = [] ∧ H d = some (.dK kvs) ∧ ∀ p, H p = none → Q (.ref p) (upd H p (ViewO p d))
theorem mt_vals : MtR X "dict.values" rVals := by
  intro pins s σ H x xs v us Q I rx r h
  obtain ⟨d, kvs, rfl, rfl, hd, q⟩ := h
  cases r
  cases rx
  obtain ⟨_, hsys, vs, rel, dof⟩ := dk_of I.hok hd
  obtain ⟨ep, dat⟩ := dof.dictAt
  obtain ⟨ob, es, ho, ex, _⟩ := id dat
  refine call_meetsIn F.slot_dict_values ⟨ob, ho, ex.1⟩ F.entry_dict_values (F.args_dict_values_1 _) (meets_dict_values (mixKind X.prog X.w) d hsys) ⟨⟨vs, dof⟩, ?_⟩
  have vw : (s.heap.push { cls := .type "dict_values", data := .fields #[.ref d] }).IsValuesView s.heap.objs.size d := ⟨_, Heap.get?_push_size _ rfl, rfl, rfl⟩
  have ok1 : ObjOk X.prog X.w (upd H s.heap.objs.size (ViewO s.heap.objs.size d)) (s.heap.push { cls := .type "dict_values", data := .fields #[.ref d] }) s.heap.objs.size (ViewO s.heap.objs.size d) :=
    ⟨vw, ⟨_, Heap.get?_push_size _ rfl⟩, fun h1 h2 ⟨o, ho, z⟩ k => ⟨o, k o ho, z⟩⟩
  exact ⟨.ref s.heap.objs.size, _, I.laid (t' := s.toks) (fun b u e => Heap.get?_push_of_some _ e) (Nat.le_refl _) ok1, rfl, q _ (I.hok.fresh (Nat.le_refl _))⟩
def rListVals : List V → Hp → VK → Prop := fun xs H Q => ∃ (p d : Addr) (kvs : List (Key × V)), xs = [.ref p] ∧ H p = some (ViewO p d) ∧ H d = some (.dK kvs) ∧ ∀ l, H l = none → Q (.ref l) (upd H l (.lst (kvs.map (·.2))))
theorem cr_listVals (hc : X.calm = true) : CallR X (.type "list") rListVals := by
  intro pins s σ H xs us Q I r h
  obtain ⟨p, d, kvs, rfl, hp, hd, q⟩ := h
  rw [Vals.ref1 r]
  have vw : s.heap.IsValuesView p d := (I.hok p _ hp).1
  obtain ⟨hz, hsys, vs, rel, dof⟩ := dk_of I.hok hd
  obtain ⟨ep, dat⟩ := dof.dictAt
  refine PySem.W.kdl_call (PySem.W.kdl_values (knd := mixKind X.prog X.w) (r := p) (d := d) (kvs := vs) (ep := ep)) (I.ok.hd hc) ⟨vw, dat⟩ (by rw [← rel.length]; exact hz) fun h' tk acc c k ho hacc => ?_
  have ea : acc.toList = vs.map (·.2) := PySem.W.kdl_vals_eq acc.toList (by rw [Array.length_toList]; exact hacc.1) fun j v e => hacc.2 j v (by rw [← Array.getElem?_toList]; exact e)
  have rv : Vals (kvs.map (·.2)) acc.toList := by
    rw [ea]
    clear q hp hd hz dof dat vw hacc ea ho
    induction rel with
    | nil => exact .nil
    | cons r _ ih => exact .cons r.2 ih
  have ok1 : ObjOk X.prog X.w (upd H s.heap.objs.size (.lst (kvs.map (·.2)))) h' s.heap.objs.size (.lst (kvs.map (·.2))) := ⟨by rw [List.length_map]; exact hz, acc.toList, c, rv, by simpa using ho⟩
  exact ⟨.ref s.heap.objs.size, _, I.laid (t' := tk) k (Nat.le_refl _) ok1, rfl, q _ (I.hok.fresh (Nat.le_refl _))⟩
/-! ### len(set(xs)), xs ints -/
/-- how many different ones -/
def many (ns : List Int) : Nat := (firstMet (fun i => ns.getD i 0) ns.length).length
theorem intsAre_of : ∀ {ns : List Int} {us : List Value}, Vals (ns.map V.int) us → PyProof.Rows.IntsAre us ns
  | [], _, .nil => .nil
  | n :: _, _, .cons r t => by
    obtain ⟨k, rfl⟩ := r
    exact .cons n k (intsAre_of t)
def tLenSet (K : PySem.W.Frag) (ta : TE) : TE := fun σ H Q => ta σ H fun x H1 => ∃ (l : Addr) (ns : List Int), x = .ref l ∧ SqL K H1 l (ns.map V.int) ∧ ns.length < 1000 ∧ Q (.int (many ns : Nat)) H1
theorem pe_lenSet {a : Expr} {ta : TE} {p p2 q pos : Pos} (hc : X.calm = true) (hg : Gl X "len") (hm : X.mg "len" = none) (hg2 : Gl X "set") (hm2 : X.mg "set" = none) (ha : PE X a ta) (na : starEach [a] X.env = (false, eval a X.env) :: starEach [] X.env := by rfl) :
    PE X (.Call (.Name "len" p) [.Call (.Name "set" p2) [a] [] q] [] pos) (tLenSet X.K ta) := by
  refine ⟨fun pins s σ H Q I h => Call_ (ld_blt I hg hm PySem.boot_len ?_)⟩
  refine PyProof.Rows.callWith_builtin1 (PyProof.Rows.args_cons (Call_ (ld_blt I hg2 hm2 PyProof.Rows.boot_set ?_)) rfl) rfl rfl
  refine PyProof.Rows.callWith_type1 (PyProof.Rows.args_cons (thn (ha.run pins s σ H _ I h) fun v s1 ⟨x, H1, I1, r1, q1⟩ => PyProof.Rows.args_nil ?_) na) na rfl
  obtain ⟨l, ns, rfl, hq, hl, q1⟩ := q1
  cases r1
  obtain ⟨its, r, pl, hz⟩ := I1.list hq
  have sz : its.toArray.size = ns.length := by rw [List.size_toArray, ← r.length, List.length_map]
  refine call_set_list (I1.ok.hd hc) pl.isList (ns := ns) (by simpa using intsAre_of r) (by rw [sz]; unfold scanBound; omega) fun h' tk hS hk => PyProof.Rows.args_nil ?_
  rw [sz] at hS
  obtain ⟨o, es, ep, t, ho, hex, hd, _, _, hb, hf, hn⟩ := hS
  have I2 : Inv X pins σ H1 { s1 with heap := h', toks := tk } := I1.kept fun b o e => hk b o (Heap.lt_size e) e
  exact call_len_set ho hex hd hf (by unfold scanBound at hb; omega) ⟨.int (many ns : Nat), H1, I2.tok _, ⟨_, by rw [hn, many]⟩, q1⟩
end
/-! ### dicts whose keys are marks -/
abbrev NEnt := Mark × Addr × V
def NRel : List NEnt → List (NK × Addr × Value) → Prop := Paired fun (p : NEnt) (q : NK × Addr × Value) => mk p.1 = q.1 ∧ p.2.1 = q.2.1 ∧ RelV p.2.2 q.2.2
def NdO (P : Program) (w : World) (d : Addr) (kvs : List NEnt) : HO := .ext fun h => (d == sysModules) = false ∧ ∃ ys, NRel kvs ys ∧ ∃ o es ep, h.get? d = some o ∧ o.ExactDict ∧ o.data = .dict es ep ∧ es.toList = ys.map (entryOfKey (nestedKind P w)) ∧ (ys.map (·.1)).Nodup
theorem NRel.keys : ∀ {kvs : List NEnt} {ys : List (NK × Addr × Value)}, NRel kvs ys → ys.map (·.1) = kvs.map fun p => mk p.1
  | _, _, .nil => rfl
  | _, _, .cons r t => by
    rw [List.map_cons, List.map_cons, NRel.keys t, r.1]
theorem NRel.len {kvs : List NEnt} {ys : List (NK × Addr × Value)} (r : NRel kvs ys) : ys.length = kvs.length := by
  have z := congrArg List.length r.keys
  rwa [List.length_map, List.length_map] at z
theorem NRel.mem : ∀ {kvs : List NEnt} {ys : List (NK × Addr × Value)}, NRel kvs ys → ∀ y ∈ ys, ∃ p ∈ kvs, mk p.1 = y.1 ∧ p.2.1 = y.2.1 ∧ RelV p.2.2 y.2.2
  | _, _, .nil, y, h => by cases h
  | _, _, .cons (a := p) r t, y, h => by
    rcases List.mem_cons.mp h with e | h
    · subst e
      exact ⟨p, List.mem_cons_self, r⟩
    · obtain ⟨p', h1, h2⟩ := NRel.mem t y h
      exact ⟨p', List.mem_cons_of_mem _ h1, h2⟩
theorem NRel.mem' : ∀ {kvs : List NEnt} {ys : List (NK × Addr × Value)}, NRel kvs ys → ∀ p ∈ kvs, ∃ y ∈ ys, mk p.1 = y.1 ∧ p.2.1 = y.2.1 ∧ RelV p.2.2 y.2.2
  | _, _, .nil, y, h => by cases h
  | _, _, .cons (b := y) r t, p, h => by
    rcases List.mem_cons.mp h with e | h
    · subst e
      exact ⟨y, List.mem_cons_self, r⟩
    · obtain ⟨y', h1, h2⟩ := NRel.mem' t p h
      exact ⟨y', List.mem_cons_of_mem _ h1, h2⟩
theorem NRel.snoc : ∀ {kvs : List NEnt} {ys : List (NK × Addr × Value)} {m : Mark} {a : Addr} {z : V} {u : Value}, NRel kvs ys → RelV z u → NRel (kvs ++ [(m, a, z)]) (ys ++ [(mk m, a, u)])
  | _, _, _, _, _, _, .nil, r => .cons ⟨rfl, rfl, r⟩ .nil
  | _, _, _, _, _, _, .cons r t, r' => .cons r (NRel.snoc t r')
theorem ndO_ok {P : Program} {w : World} {H : Hp} {h : Heap} {d : Addr} {kvs : List NEnt} {ys : List (NK × Addr × Value)} (hs : (d == sysModules) = false) (r : NRel kvs ys) (x : ∃ o es ep, h.get? d = some o ∧ o.ExactDict ∧ o.data = .dict es ep ∧ es.toList = ys.map (entryOfKey (nestedKind P w)) ∧ (ys.map (·.1)).Nodup) : ObjOk P w H h d (NdO P w d kvs) := by
  obtain ⟨o, es, ep, ho, z⟩ := x
  exact ⟨⟨hs, ys, r, o, es, ep, ho, z⟩, ⟨o, ho⟩, fun h1 h2 ⟨hs, ys, r, o, es, ep, ho, z⟩ k => ⟨hs, ys, r, o, es, ep, k o ho, z⟩⟩
section
variable {X : Cx} {pins : List (Addr × Obj)} {σ : L2.St} {H : Hp} {s : Shared}
theorem nd_of (I : Inv X pins σ H s) {d : Addr} {kvs : List NEnt} (hd : H d = some (NdO X.prog X.w d kvs)) (hk : ∀ q ∈ kvs, MarkH X.K H q.2.1 q.1) : (d == sysModules) = false ∧ ∃ ys, NRel kvs ys ∧ s.heap.DictOfH (nestedKind X.prog X.w) d ys := by
  obtain ⟨⟨hs, ys, r, o, es, ep, ho, hx, hdd, he, hn⟩, _⟩ := I.hok d _ hd
  refine ⟨hs, ys, r, o, es, ep, ho, hx, hdd, he, fun y hy => ?_, hn⟩
  obtain ⟨p, hp, e1, e2, _⟩ := r.mem y hy
  have z := (mark_raw I (hk p hp)).1
  rw [← e1, ← e2]
  exact ⟨z.is, z.dp⟩
theorem atKey_of_mem {ys : List (NK × Addr × Value)} (hn : (ys.map (·.1)).Nodup) {y : NK × Addr × Value} (h : y ∈ ys) : atKey ys y.1 = some y.2 := by
  obtain ⟨i, hi⟩ := List.mem_iff_getElem?.mp h
  exact atKey_of_get hn hi
/-- d[m] -/
def rIxNd (K : PySem.W.Frag) (P : Program) (w : World) : R2 := fun x y H Q => ∃ (d p : Addr) (kvs : List NEnt) (m : Mark) (a : Addr) (v : V), x = .ref d ∧ y = .ref p ∧ H d = some (NdO P w d kvs) ∧ (∀ q ∈ kvs, MarkH K H q.2.1 q.1) ∧ MarkH K H p m ∧ (m, a, v) ∈ kvs ∧ Q v H
def tIxNd (K : PySem.W.Frag) (P : Program) (w : World) (ta tb : TE) : TE := tOp (rIxNd K P w) ta tb
theorem pe_ixNd {o i : Expr} {td ty : TE} {pos : Pos} (hu : X.A.units + 64 < cLine) (ho : PE X o td) (hi : PE X i ty) (hs : NoSl i) : PE X (.Subscript o i pos) (tIxNd X.K X.prog X.w td ty) := by
  refine ⟨fun pins s σ H Q I h => ?_⟩
  refine subD_of PySem.F.slot_dict_getitem.lookup hs (thn (ho.run pins s σ H _ I h) fun u s1 ⟨x, H1, I1, rx, q1⟩ => thn (hi.run pins s1 σ H1 _ I1 q1) fun iv s2 ⟨y, H2, I2, ry, q2⟩ => ?_)
  obtain ⟨d, p, kvs, m, a, v, rfl, rfl, hd, hk, hp, hm, q⟩ := q2
  cases rx
  cases ry
  obtain ⟨hsys, ys, r, dof⟩ := nd_of I2 hd hk
  obtain ⟨y, hy, e1, e2, rv⟩ := r.mem' _ hm
  have key : (nestedKind X.prog X.w).is s2.heap (mk m) p := ⟨(mark_raw I2 hp).1.is, (mark_raw I2 hp).1.dp⟩
  have at1 : atKey ys (mk m) = some y.2 := by
    rw [show mk m = y.1 from e1]
    exact atKey_of_mem dof.nodup hy
  exact ⟨dof.typeIs, wpAny_getItem_heap (by show X.A.in1.units + 8 < cLine; rw [Around.in1_units]; omega) key dof at1 ⟨v, H2, I2.tok _, rv, q⟩⟩
def rLenNd (K : PySem.W.Frag) (P : Program) (w : World) : List V → Hp → VK → Prop := fun xs H Q => ∃ (d : Addr) (kvs : List NEnt), xs = [.ref d] ∧ H d = some (NdO P w d kvs) ∧ (∀ q ∈ kvs, MarkH K H q.2.1 q.1) ∧ kvs.length < 1000 ∧ Q (.int (kvs.length : Nat)) H
theorem call_lenNd : CallR X (.builtin "len") (rLenNd X.K X.prog X.w) := by
  intro pins s σ H xs us Q I r h
  obtain ⟨d, kvs, rfl, hd, hk, hl, q⟩ := h
  rw [Vals.ref1 r]
  obtain ⟨hsys, ys, r, dof⟩ := nd_of I hd hk
  refine call_len_dictH hsys dof (by rw [r.len]; omega) ?_
  rw [r.len]
  exact ⟨.int (kvs.length : Nat), H, I.tok _, ⟨_, rfl⟩, q⟩
theorem storeNd {E : Value → Shared → Prop} {D : Addr} {kvs : List NEnt} {m : Mark} {a : Addr} {v : V} {r : Value} {Q : Unit → Shared → Prop} (hu : X.A.units + 64 < cLine) (I : Inv X pins σ H s) (hD : H D = some (NdO X.prog X.w D kvs)) (hk : ∀ q ∈ kvs, MarkH X.K H q.2.1 q.1) (hm : MarkH X.K H a m) (new : m ∉ kvs.map (·.1))
    (hl : kvs.length < 1000) (rv : RelV v r) (q : ∀ s', Inv X pins σ (upd H D (NdO X.prog X.w D (kvs ++ [(m, a, v)]))) s' → Q () s') : wpAny (model X.prog X.w) X.A (dictSet D (.ref a) r) Q E s := by
  obtain ⟨hsys, ys, rel, dof⟩ := nd_of I hD hk
  have key : (nestedKind X.prog X.w).is s.heap (mk m) a := ⟨(mark_raw I hm).1.is, (mark_raw I hm).1.dp⟩
  have no : atKey ys (mk m) = none := atKey_none_of_get fun j p e => new (by
    obtain ⟨p', h1, h2, _⟩ := rel.mem _ (List.mem_of_getElem? e)
    exact List.mem_map.mpr ⟨p', h1, mk_inj h2⟩)
  refine wpAny_dictSet_heap (hsz := by rw [rel.len, sizeLine_eq]; omega) (by show X.A.units + 8 < cLine; omega) key dof fun h' dof' hs => q _ ?_
  rw [storedH_new no] at dof'
  obtain ⟨o, es, ep, ho, h2, h3, h4, _, h5⟩ := dof'
  exact d_write I (by rw [hD]; exact True.intro) hs ⟨o, ho⟩ (ndO_ok hsys (rel.snoc rv) ⟨o, es, ep, ho, h2, h3, h4, h5⟩)
end
/-! ### {k: v for ..}, the keys marks, each once -/
section
variable {X : Cx}
def tDcN (X : Cx) (wi : TI) (g : TG) (tt : TT) (tk tv : TE) (vs : List Nat) : TE := fun σ H Q => wi σ H fun J H1 => ∀ D, H1 D = none → ∃ W : Nat → Nat → Hp → Prop, (∃ m, W 0 m (upd H1 D (NdO X.prog X.w D []))) ∧ ∀ i m H, W i m H →
  (J.stop i H ∧ Q (.ref D) H) ∨ (J.go i H ∧ ∃ Nx : Hp → Prop, (∀ H', Nx H' → ∃ m', m' < m ∧ W (i + 1) m' H') ∧ ∀ x H', J.yld i H x H' → g x (wipe σ vs) H' fun σ2 H2 => wipe σ2 vs = wipe σ vs ∧ tt σ2 H2 fun b H3 =>
    if b = true then tk σ2 H3 fun y H4 => tv σ2 H4 fun z H5 => ∃ kvs m a, y = .ref a ∧ H5 D = some (NdO X.prog X.w D kvs) ∧ (∀ q ∈ kvs, MarkH X.K H5 q.2.1 q.1) ∧ MarkH X.K H5 a m ∧ m ∉ kvs.map (·.1) ∧ kvs.length < 1000 ∧ Nx (upd H5 D (NdO X.prog X.w D (kvs ++ [(m, a, z)]))) else Nx H3)
theorem pe_dcN {kx vx tg iter : Expr} {ifs : List Expr} {scope : Scope} {own : List (Str × Nat)} {pos : Pos} {wi : TI} {g : TG} {tt : TT} {tk tv : TE} (hc : X.calm = true) (hu : X.A.units + 64 < cLine) (hN : X.N.Nodup) (hi : PI X tg iter wi) (ok : BlkOk X.N X.env.scope scope own)
    (hg : ∀ (s : Shared) (H : Hp) (C : Addr) (cl : List (Str × Addr)) (fp : List Addr), PG (X.blk s H scope (compEnvC scope cl C X.env) fp) tg g) (ht : ∀ (s : Shared) (H : Hp) (C : Addr) (cl : List (Str × Addr)) (fp : List Addr), PTs (X.blk s H scope (compEnvC scope cl C X.env) fp) ifs tt)
    (hk : ∀ (s : Shared) (H : Hp) (C : Addr) (cl : List (Str × Addr)) (fp : List Addr), PE (X.blk s H scope (compEnvC scope cl C X.env) fp) kx tk) (he : ∀ (s : Shared) (H : Hp) (C : Addr) (cl : List (Str × Addr)) (fp : List Addr), PE (X.blk s H scope (compEnvC scope cl C X.env) fp) vx tv)
    (hs : ∀ x, foldedSetIterable iter X.env x = pure x := by intro _; rfl) : PE X (.DictComp kx vx [⟨tg, iter, ifs, 0⟩] scope pos) (tDcN X wi g tt tk tv (own.map (·.2))) := by
  refine ⟨fun pins s σ H Q I h => ?_⟩
  rw [arm_eval_DictComp]
  have fr : ∀ y ∈ scope.names, y.2 = .free → ∃ c, X.env.cells.lookup y.1 = some c := fun y hy e => (ok.free y hy e).elim (fun z => I.ok.has _ (.inl z)) fun z => I.ok.has _ (.inr z)
  refine wpAny_comprehension_free rfl hs (closure_ok fr) ok.kind (fun y hy e => by rw [ok.uniq y hy, e]) (thn (hi.run pins s σ H _ I h) fun xv s1 hx => thn hx fun itv s2 h2 => ?_)
  obtain ⟨it, fp, tn, J, H2, rfl, I2, T, st2, f2, q⟩ := h2
  refine wpAny_newObj_type (newEnv_comp ?_)
  generalize eD : s2.heap.objs.size = D
  obtain ⟨W, ⟨m0, w0⟩, turn⟩ := q D (I2.hok.fresh (Nat.le_of_eq eD))
  generalize e3 : ({ s2 with heap := s2.heap.push { cls := .type "dict", data := .dict #[] } } : Shared) = s3
  have h3 : s3.heap = s2.heap.push { cls := .type "dict", data := .dict #[] } := by rw [← e3]
  have I3 : Inv X pins σ (upd H2 D (NdO X.prog X.w D [])) s3 := by
    rw [← e3]
    refine I2.laid (t' := s2.toks) (fun b o e => Heap.get?_push_of_some _ e) (Nat.le_of_eq eD) ?_
    obtain ⟨_, b1, _⟩ := (show ObjOk X.prog X.w H2 _ s2.heap.objs.size (.dK []) from dk_empty s2.heap I2.big)
    rw [← eD]
    exact ndO_ok b1 .nil ⟨_, #[], _, Heap.get?_push_size _ rfl, ⟨rfl, rfl, rfl⟩, rfl, rfl, List.nodup_nil⟩
  have f3 : ∀ b ∈ fp, FpOk X pins (upd H2 D (NdO X.prog X.w D [])) b ∧ b < s3.heap.objs.size := fun b hb => by
    obtain ⟨o, e, _⟩ := T.obj _ _ st2 b hb
    have lt := Heap.lt_size e
    refine ⟨⟨?_, (f2 b hb).2⟩, by rw [h3, Heap.size_push]; exact Nat.lt_succ_of_lt lt⟩
    rw [upd_ne (by rw [← eD]; exact Nat.ne_of_lt lt)]
    exact (f2 b hb).1
  have st3 : tn 0 s3.heap := T.keep _ _ _ st2 fun b _ o e => by rw [h3]; exact Heap.get?_push_of_some _ e
  have I4 := block_start I3 ok hN f3
  have pg := hg s3 (upd H2 D (NdO X.prog X.w D [])) s3.heap.objs.size (cellsFrom (s3.heap.objs.size + 1) scope.names (cloFrom X.env.cells scope.names [])) fp
  have pt := ht s3 (upd H2 D (NdO X.prog X.w D [])) s3.heap.objs.size (cellsFrom (s3.heap.objs.size + 1) scope.names (cloFrom X.env.cells scope.names [])) fp
  have pk := hk s3 (upd H2 D (NdO X.prog X.w D [])) s3.heap.objs.size (cellsFrom (s3.heap.objs.size + 1) scope.names (cloFrom X.env.cells scope.names [])) fp
  have pe := he s3 (upd H2 D (NdO X.prog X.w D [])) s3.heap.objs.size (cellsFrom (s3.heap.objs.size + 1) scope.names (cloFrom X.env.cells scope.names [])) fp
  show codeAny _ _ (.compStart (.DictComp kx vx [⟨tg, iter, ifs, 0⟩] scope pos) 0 (.ref it) (.ref D) (compEnvC scope (cellsFrom (s3.heap.objs.size + 1) scope.names (cloFrom X.env.cells scope.names [])) s3.heap.objs.size X.env)) _ { s3 with heap := pushCells (s3.heap.push { cls := .type "dict", data := .dict #[] }) scope.names }
  have nfp : ∀ b ∈ fp, (upd H2 D (NdO X.prog X.w D [])) b = none := fun b hb => (f3 b hb).1.1
  generalize hce : compEnvC scope (cellsFrom (s3.heap.objs.size + 1) scope.names (cloFrom X.env.cells scope.names [])) s3.heap.objs.size X.env = ce at I4 pg pt pk pe ⊢
  have cL : ce.locals = s3.heap.objs.size := by subst hce; rfl
  generalize upd H2 D (NdO X.prog X.w D []) = H3 at I3 I4 pg pt pk pe w0 nfp f3
  generalize hs4 : ({ s3 with heap := pushCells (s3.heap.push { cls := .type "dict", data := .dict #[] }) scope.names } : Shared) = s4 at I4 ⊢
  have st4 : tn 0 s4.heap := T.keep _ _ _ st3 fun b _ o e => by rw [← hs4]; exact pushCells_keeps _ _ _ _ (Heap.get?_push_of_some _ e)
  have stat : ∀ {σ' : L2.St} {H' : Hp} {s' : Shared}, Inv (X.blk s3 H3 scope ce fp) [] σ' H' s' → (∀ b ∈ fp, H' b = none) → ∀ b ∈ fp, FpOk (X.blk s3 H3 scope ce fp) [] H' b := fun {σ' H' s'} I' hn b hb =>
    ⟨hn b hb, (I'.ok.exf b hb).1, I'.ok.exfs b hb, .inl hb, fun x c e => (I'.ok.exf b hb).2 x c e, fun p hp => absurd (show p ∈ ([] : List (Addr × Obj)) ++ [] from hp) (by simp)⟩
  refine codeAny_compStart_dict ?loop (T.self X.A 0 _ _ _ st4 ?loop)
  case loop =>
    refine compLoop_anyD (fun n s' => ∃ i H', Inv (X.blk s3 H3 scope ce fp) [] (wipe σ (own.map (·.2))) H' s' ∧ tn i s'.heap ∧ (∀ b ∈ fp, H' b = none) ∧ W i n H') ?_ m0 ⟨0, H3, I4, st4, nfp, w0⟩
    rintro n s5 ⟨i, H5, I5, st5, n5, w5⟩
    rcases turn i n H5 w5 with ⟨stop, qq⟩ | ⟨go, Nx, hNx, step⟩
    · refine thnF (T.done (X.blk s3 H3 scope ce fp) rfl rfl rfl hc i [] s5 _ H5 (fun _ _ => False) I5 (stat I5 n5) st5 stop) fun r s6 ⟨hr, I6⟩ => ?_
      subst hr
      have I7 : Inv X pins σ H5 s6 := I3.call' (ch := fp) I6.os I6.base I6.hok I6.bare fun b hb => ⟨(f3 b hb).1.2.2.2.1, (f3 b hb).1.2.1, (f3 b hb).1.2.2.2.2.1, (f3 b hb).1.2.2.2.2.2⟩
      have nC : H5 s3.heap.objs.size = none := by
        have z : H5 ce.locals = none := I6.free
        rwa [cL] at z
      obtain ⟨m, hn, _⟩ := I6.loc
      have hn : s6.heap.Ns ce.locals m := hn
      rw [cL] at hn
      refine ⟨m, hn, fun h'' sb => ?_⟩
      obtain ⟨f0, f1, f2, f3, f4, f5⟩ := I3.fpOk (Nat.le_refl _) nC
      exact ⟨.ref D, H5, I7.turned (t' := s6.toks) (fun b o hb e => (sb.2 b hb).trans e) f0 f1 f3 f4 f5, rfl, qq⟩
    · refine thnF (T.item (X.blk s3 H3 scope ce fp) rfl rfl rfl hc i [] s5 _ H5 (fun _ _ => False) I5 (stat I5 n5) st5 go) fun r s6 ⟨u, hr, h6⟩ => ?_
      subst hr
      refine thnF h6 fun _ s7 ⟨x, H7, I7, r7, y7, st7, n7⟩ => ?_
      refine thnF (pg.run _ s7 _ H7 x u _ (I7.pinned (stat I7 n7) (T.obj _ _ st7)) r7 (step x H7 y7)) fun _ s8 ⟨σ8, H8, I8, hw8, q8⟩ => ?_
      refine thnF (pt.run _ s8 σ8 H8 _ I8 q8) fun b s9 ⟨H9, I9, q9⟩ => ?_
      have fin : ∀ {s' : Shared} {H' : Hp}, Inv (X.blk s3 H3 scope ce fp) ([] ++ pinsAt fp s7.heap) σ8 H' s' → Nx H' → ∃ m, m < n ∧ ∃ i H', Inv (X.blk s3 H3 scope ce fp) [] (wipe σ (own.map (·.2))) H' s' ∧ tn i s'.heap ∧ (∀ b ∈ fp, H' b = none) ∧ W i m H' := fun {s' H'} I' nx => by
        obtain ⟨m', hm, w'⟩ := hNx H' nx
        have pin' : ∀ b ∈ fp, ∀ o, s7.heap.get? b = some o → s'.heap.get? b = some o ∧ H' b = none := fun b hb o e =>
          have z := I'.pin (b, o) (List.mem_append_right _ (List.mem_append_right _ (mem_pinsAt hb e)))
          ⟨z.1, z.2.1⟩
        refine ⟨m', hm, i + 1, H', (I'.unpinned (pins := [])).weak (by rw [← hw8, wipe_length]) (fun j v e => ?_), T.keep _ _ _ st7 fun b hb o e => (pin' b hb o e).1, fun b hb => ?_, w'⟩
        · rw [← hw8] at e
          exact (wipe_some e).1
        · obtain ⟨o, e, _⟩ := T.obj _ _ st7 b hb
          exact (pin' b hb o e).2
      cases b with
      | false =>
        simp only [Bool.false_eq_true, if_false] at q9 ⊢
        exact fin I9 q9
      | true =>
        simp only [if_true] at q9 ⊢
        refine thnF (pk.run _ s9 σ8 H9 _ I9 q9) fun z s10 ⟨yk, H10, I10, r10, q10⟩ => thnF (pe.run _ s10 σ8 H10 _ I10 q10) fun z2 s11 ⟨yv, H11, I11, r11, q11⟩ => ?_
        obtain ⟨kvs, m, a, rfl, hD, hks, hma, hnew, hlen, nx⟩ := q11
        cases r10
        exact storeNd (X := X.blk s3 H3 scope ce fp) hu I11 hD hks hma hnew hlen r11 fun s12 I12 => fin I12 nx
end
end K46
set_option Elab.async false
set_option linter.all false
set_option maxRecDepth 100000
set_option maxHeartbeats 1600000
/-! a generator whose consumer is a comprehension: while it sleeps the list at S gets one item more and the object at C (the comprehension's names) changes -/
namespace K46
open PySem PySem.Spec PyProof.Rows L2 GenW
structure Sl (S C : Addr) (v : Value) (s s' : Shared) : Prop where
  os : s'.os = s.os
  bare : AllBare s'.gens
  keep : ∀ b o, b ≠ S → b ≠ C → s.heap.get? b = some o → s'.heap.get? b = some o
  own : ∀ acc c, s.heap.get? S = some (lstObj acc c) → ∃ c', s'.heap.get? S = some (lstObj (acc.push v) c')
  oth : ∀ o, s.heap.get? C = some o → ∃ o', s'.heap.get? C = some o' ∧ ∀ u, o'.data ≠ .cell u
/-- running: ys stands in S; C is as it was at the waking s₀ -/
def GJ (X : Cx) (S C : Addr) (s₀ : Shared) (ys : List V) (σ : L2.St) (H : Hp) (s : Shared) : Prop :=
  ∃ (acc : Array Value) (c : Nat) (oC : Obj), Vals ys acc.toList ∧ s₀.heap.get? C = some oC ∧ s₀.heap.get? S = some (lstObj acc c) ∧ Inv X [(S, lstObj acc c), (C, oC)] σ H s
/-- where S and C stand -/
structure Off (X : Cx) (S C : Addr) : Prop where
  ne : S ≠ C
  ex : ∀ b, b = S ∨ b = C → (b ∈ X.ex ∨ X.s_0.heap.objs.size ≤ b) ∧ b ≠ X.env.locals ∧ (∀ x c, X.env.cells.lookup x = some c → c ≠ b) ∧ ∀ p ∈ X.pn, p.1 ≠ b
  nx : ∀ e s', ¬ X.xe e s'
theorem GJ.at {X : Cx} {S C : Addr} {s₀ s : Shared} {ys : List V} {σ : L2.St} {H : Hp} (h : GJ X S C s₀ ys σ H s) :
    H S = none ∧ H C = none ∧ S ∉ X.fs ∧ C ∉ X.fs ∧ ∃ (acc : Array Value) (c : Nat) (oC : Obj), Vals ys acc.toList ∧ s₀.heap.get? C = some oC ∧ s₀.heap.get? S = some (lstObj acc c) ∧ s.heap.get? S = some (lstObj acc c) ∧ s.heap.get? C = some oC := by
  obtain ⟨acc, c, oC, r, e1, e2, I⟩ := h
  obtain ⟨h1, h2, h3, h4, _⟩ := I.pin (S, lstObj acc c) (List.mem_append_right _ List.mem_cons_self)
  obtain ⟨k1, k2, k3, k4, _⟩ := I.pin (C, oC) (List.mem_append_right _ (List.mem_cons_of_mem _ List.mem_cons_self))
  exact ⟨h2, k2, h4, k4, acc, c, oC, r, e1, e2, h1, k1⟩
theorem GJ.woken {X : Cx} {S C : Addr} {s₀ s s' : Shared} {ys : List V} {x : V} {v : Value} {σ : L2.St} {H : Hp} (O : Off X S C) (h : GJ X S C s₀ ys σ H s) (rv : RelV x v) (z : Sl S C v s s') : GJ X S C s' (ys ++ [x]) σ H s' := by
  obtain ⟨hS0, hC0, hSf, hCf, acc, c, oC, r, _, _, eS, eC⟩ := h.at
  obtain ⟨acc1, c1, oC1, _, _, _, I⟩ := h
  have I0 : Inv X [] σ H s := I.pins_of fun p hp => by
    have hp' : p ∈ X.pn := by simpa using hp
    exact I.pin p (List.mem_append_left _ hp')
  have nt : ∀ b u, H b = some u → b ≠ S ∧ b ≠ C := fun b u q => ⟨fun hb => (by rw [hb, hS0] at q; cases q), fun hb => (by rw [hb, hC0] at q; cases q)⟩
  obtain ⟨z1, z2, z3, z4, z5⟩ := z
  obtain ⟨c', eS'⟩ := z4 acc c eS
  obtain ⟨oC', eC', dC⟩ := z5 oC eC
  obtain ⟨hh, g, d, t, o⟩ := s'
  obtain rfl : o = s.os := z1
  have nc : ∀ b, b ∉ [S, C] → b ≠ S ∧ b ≠ C := fun b hb => ⟨fun e => hb (by simp [e]), fun e => hb (by simp [e])⟩
  have LS := (O.ex S (.inl rfl)).2.1
  have LC := (O.ex C (.inr rfl)).2.1
  have J : Inv X [] σ H { s with heap := hh, gens := g, drawn := d, toks := t } := by
    refine I0.step (g' := g) (t' := t) (d' := d) (ch := [S, C]) (fun b hb => ?_) (fun b ob _ _ hc q _ => z3 b ob (nc b hc).1 (nc b hc).2 q) (fun b ob _ _ hc q _ => ⟨ob.slots, z3 b ob (nc b hc).1 (nc b hc).2 q⟩) (fun _ _ _ _ n => n)
      (fun b ob hc q => ⟨ob, z3 b ob (nc b hc).1 (nc b hc).2 q⟩) (fun _ _ q => q) (fun _ _ _ q => q) (fun b ps q => ⟨#[], by rw [q]; simp⟩) (fun m hm => ?_) (fun b u q => ?_) z2
    · obtain ⟨a1, a2, a3, a4⟩ := O.ex b (by simpa using hb)
      exact ⟨a1, a2, a3, fun p hp => a4 p (by simpa using hp)⟩
    · obtain ⟨ob, es, ep, ho, r⟩ := hm
      exact ⟨ob, es, ep, z3 _ ob (Ne.symm LS) (Ne.symm LC) ho, r⟩
    · refine (I0.hok b u q).stay (fun c v hc y => ?_) (fun _ y => y) fun _ _ y => y
      have n2 : c ≠ S ∧ c ≠ C := by
        rcases hc with y | y
        · rw [y]
          exact nt b u q
        · exact nt c _ y
      exact z3 c v n2.1 n2.2 y
  refine ⟨acc.push v, c', oC', ?_, eC', eS', J.pins_of fun p hp => ?_⟩
  · rw [Array.toList_push]
    exact r.append (.cons rv .nil)
  · rcases List.mem_cons.mp hp with rfl | hp
    · exact ⟨eS', hS0, LS, hSf, fun u q => by cases q⟩
    · rw [List.mem_singleton.mp hp]
      exact ⟨eC', hC0, LC, hCf, dC⟩
/-! ### the protocol -/
def GYx (X : Cx) (S C : Addr) : Protocol := fun n s₀ v s kap => ∃ ys x σ H, n + 1 + ys.length = sizeLine ∧ RelV x v ∧ GJ X S C s₀ ys σ H s ∧ ∀ s', Sl S C v s s' → kap (.send .none) s'
def GRx (X : Cx) (S C : Addr) (Q : List V → VK) : GenEnd := fun n s₀ r s => match r with
  | .ok (.ret u) => ∃ ys v σ H, n + ys.length = sizeLine ∧ GJ X S C s₀ ys σ H s ∧ RelV v u ∧ Q ys v H
  | _ => False
def GSPx (X : Cx) (S C : Addr) (s₀ : Shared) (D : GEnds) (ys : List V) (f : Flow) (s : Shared) : Prop :=
  match f with
  | .next => ∃ σ H, GJ X S C s₀ ys σ H s ∧ D.nx ys σ H
  | .brk => ∃ σ H, GJ X S C s₀ ys σ H s ∧ D.bk ys σ H
  | .cont => ∃ σ H, GJ X S C s₀ ys σ H s ∧ D.ct ys σ H
  | .ret u => ∃ v σ H, GJ X S C s₀ ys σ H s ∧ RelV v u ∧ D.rt ys v H
structure GCx (X : Cx) (S C : Addr) (A : Around) (c : Code) (fs : List Frame) (gd : Bool → Bool) : Prop where
  off : Off X S C
  over : A.over c fs = X.A
  split : splitAtGen fs = none
  guard : fs.any Frame.guarded = false
  gd : gd false = false
def GKx (X : Cx) (S C : Addr) (A : Around) (R : GenEnd) (c : Code) (fs : List Frame) (K : Flow → Sem PySem.Fin) (D : GEnds) : Prop :=
  ∀ (n : Nat) (ys : List V) (s₀ s : Shared) (f : Flow), n + ys.length = sizeLine → GSPx X S C s₀ D ys f s → Seg (model X.prog X.w) A R (GYx X S C) n s₀ c (K f) fs s
structure GSx (X : Cx) (st : List Stmt) (t : TGn) : Prop where
  run : ∀ (A : Around) (S C : Addr) (R : GenEnd) (n : Nat) (ys : List V) (s₀ : Shared) (c : Code) (fs : List Frame) (K : Flow → Sem PySem.Fin) (J : Value → Sem PySem.Fin) (gd : Bool → Bool) (lv : List Value → List Value) (s : Shared) (σ : L2.St) (H : Hp) (D : GEnds),
    GCx X S C A c fs gd → n + ys.length = sizeLine → GKx X S C A R c fs K D → GJ X S C s₀ ys σ H s → t D ys σ H → Seg (model X.prog X.w) A R (GYx X S C) n s₀ c ((execs st X.env).wrap K J gd lv) fs s
structure GS1x (X : Cx) (st : Stmt) (t : TGn) : Prop where
  run : ∀ (A : Around) (S C : Addr) (R : GenEnd) (n : Nat) (ys : List V) (s₀ : Shared) (c : Code) (fs : List Frame) (K : Flow → Sem PySem.Fin) (J : Value → Sem PySem.Fin) (gd : Bool → Bool) (lv : List Value → List Value) (s : Shared) (σ : L2.St) (H : Hp) (D : GEnds),
    GCx X S C A c fs gd → n + ys.length = sizeLine → GKx X S C A R c fs K D → GJ X S C s₀ ys σ H s → t D ys σ H → Seg (model X.prog X.w) A R (GYx X S C) n s₀ c ((exec st X.env).wrap K J gd lv) fs s
section
variable {X : Cx} {st : Stmt} {rest : List Stmt}
theorem sp_gspx {S C : Addr} {s₀ s : Shared} {acc : Array Value} {c : Nat} {oC : Obj} {D : GEnds} {ys : List V} {f : Flow} (r : Vals ys acc.toList) (e1 : s₀.heap.get? C = some oC) (e2 : s₀.heap.get? S = some (lstObj acc c)) (h : SP X [(S, lstObj acc c), (C, oC)] (D.at ys) f s) : GSPx X S C s₀ D ys f s := by
  cases f with
  | next => obtain ⟨σ, H, I, q⟩ := h; exact ⟨σ, H, ⟨acc, c, oC, r, e1, e2, I⟩, q⟩
  | brk => obtain ⟨σ, H, I, q⟩ := h; exact ⟨σ, H, ⟨acc, c, oC, r, e1, e2, I⟩, q⟩
  | cont => obtain ⟨σ, H, I, q⟩ := h; exact ⟨σ, H, ⟨acc, c, oC, r, e1, e2, I⟩, q⟩
  | ret u => obtain ⟨v, σ, H, I, r1, q⟩ := h; exact ⟨v, σ, H, ⟨acc, c, oC, r, e1, e2, I⟩, r1, q⟩
/-- a statement that hands out nothing -/
theorem gx_one {t : TS} (h : PS X st t) : GS1x X st (tPlain t) := by
  refine ⟨fun A S C R n ys s₀ c fs K J gd lv s σ H D g hn k hI ht => seg_wrap ?_⟩
  obtain ⟨acc, cc, oC, r, e1, e2, I⟩ := hI
  rw [g.over]
  exact wpAny_mono (h.run _ s σ H (D.at ys) I ht) (fun f s' hs => k n ys s₀ s' f hn (sp_gspx r e1 e2 hs)) fun x s' hx => absurd hx (g.off.nx x s')
theorem gx_all {t : TS} (h : PSs X rest t) : GSx X rest (tPlain t) := by
  refine ⟨fun A S C R n ys s₀ c fs K J gd lv s σ H D g hn k hI ht => seg_wrap ?_⟩
  obtain ⟨acc, cc, oC, r, e1, e2, I⟩ := hI
  rw [g.over]
  exact wpAny_mono (h.run _ s σ H (D.at ys) I ht) (fun f s' hs => k n ys s₀ s' f hn (sp_gspx r e1 e2 hs)) fun x s' hx => absurd hx (g.off.nx x s')
theorem gx_cons {t u : TGn} (a : GS1x X st t) (b : GSx X rest u) : GSx X (st :: rest) (tGThen t u) := by
  refine ⟨fun A S C R n ys s₀ c fs K J gd lv s σ H D g hn k hI ht => seg_execs_cons ?_⟩
  refine a.run A S C R n ys s₀ c fs _ J gd lv s σ H { D with nx := fun ys' σ' H' => u D ys' σ' H' } g hn (fun n' ys' s₀' s' f hn' hs => ?_) hI ht
  cases f with
  | next =>
    obtain ⟨σ', H', I', q⟩ := hs
    exact b.run A S C R n' ys' s₀' c fs K J gd lv s' σ' H' D g hn' k I' q
  | brk => exact k n' ys' s₀' s' .brk hn' hs
  | cont => exact k n' ys' s₀' s' .cont hn' hs
  | ret u => exact k n' ys' s₀' s' (.ret u) hn' hs
theorem gx_yield {e : Expr} {yp pos : Pos} {te : TE} (he : PE X e te) (hco : X.env.scope.isCoroutine = false := by rfl) (hi : interactive X.env = false := by rfl) : GS1x X (.Expr (.Yield (some e) yp) pos) (tGYield te) := by
  refine ⟨fun A S C R n ys s₀ c fs K J gd lv s σ H D g hn k hI ht => ?_⟩
  obtain ⟨hlt, ht⟩ := ht
  obtain ⟨n, rfl⟩ : ∃ m, n = m + 1 := ⟨n - 1, by omega⟩
  obtain ⟨acc, cc, oC, r, e1, e2, I⟩ := hI
  refine seg_Expr_Yield g.split g.gd g.guard ?_ hco hi
  rw [g.over]
  refine wpAny_mono (he.run _ s σ H _ I ht) (fun v s' hv => ?_) fun x s' hx => absurd hx (g.off.nx x s')
  obtain ⟨x, H1, I1, rv, q⟩ := hv
  have G1 : GJ X S C s₀ ys σ H1 s' := ⟨acc, cc, oC, r, e1, e2, I1⟩
  intro kap hk
  refine ⟨ys, x, σ, H1, hn, rv, G1, fun s'' z => hk .none s'' (k n (ys ++ [x]) s'' s'' .next ?_ ⟨σ, H1, G1.woken g.off rv z, q⟩)⟩
  rw [List.length_append, List.length_singleton]
  omega
theorem gx_while {test : Expr} {body : List Stmt} {pos : Pos} {tc : TT} {tb : TGn} (hc : PT X test tc) (hb : GSx X body tb) : GS1x X (.While test body [] pos) (tGWhile tc tb) := by
  refine ⟨fun A S C R n ys s₀ c fs K J gd lv s σ H D g hn k hI ht => ?_⟩
  obtain ⟨W, ⟨m0, w0⟩, turn⟩ := ht
  refine seg_While fun p => ?_
  have gl : ∀ kk : Result → Sem PySem.Fin, GCx X S C A (.whileLoop test body [] X.env) (.ret kk none (gd false) (lv []) c p [] :: fs) id := fun kk =>
    ⟨g.off, (over_loop rfl rfl).trans g.over, by show (splitAtGen fs).map _ = none; rw [g.split]; rfl, by show (gd false || fs.any Frame.guarded) = false; rw [g.gd, g.guard]; rfl, rfl⟩
  have loop : ∀ (m n : Nat) (ys : List V) (s₀ s : Shared) (σ : L2.St) (H : Hp), n + ys.length = sizeLine → W m ys σ H → GJ X S C s₀ ys σ H s →
      Seg (model X.prog X.w) A R (GYx X S C) n s₀ (.whileLoop test body [] X.env) ((model X.prog X.w).den (.whileLoop test body [] X.env))
        (.ret (fun r => ((match r with | .ok f => (.pure f : Sem Flow) | .error e => .raise e).onRaise (cameBack X.env)).wrap K J gd lv) none (gd false) (lv []) c p [] :: fs) s := by
    intro m
    induction m using Nat.strongRecOn with
    | ind m ih =>
      intro n ys s₀ s σ H hn w hI
      refine seg_whileLoop ?_
      rw [(gl _).over]
      obtain ⟨acc, cc, oC, r, e1, e2, I⟩ := hI
      refine wpAny_mono (hc.run _ s σ H _ I (turn m ys σ H w)) (fun b s' hb' => ?_) fun x s' hx => absurd hx (g.off.nx x s')
      obtain ⟨H2, I2, q2⟩ := hb'
      cases b with
      | true =>
        obtain ⟨N, hN, q2⟩ := q2
        rw [if_pos rfl]
        refine hb.run A S C R n ys s₀ _ _ _ _ id id s' σ H2 { D with nx := N, ct := N, bk := D.nx } (gl _) hn (fun n' ys' s₀' s3 f hn' hs => ?_) ⟨acc, cc, oC, r, e1, e2, I2⟩ q2
        cases f with
        | next =>
          obtain ⟨σ3, H3, I3, n3⟩ := hs
          obtain ⟨m', hm, w3⟩ := hN ys' σ3 H3 n3
          exact seg_again rfl (ih m' hm n' ys' s₀' s3 σ3 H3 hn' w3 I3)
        | cont =>
          obtain ⟨σ3, H3, I3, n3⟩ := hs
          obtain ⟨m', hm, w3⟩ := hN ys' σ3 H3 n3
          exact seg_again rfl (ih m' hm n' ys' s₀' s3 σ3 H3 hn' w3 I3)
        | brk => exact seg_leaf (.ok .next) (k n' ys' s₀' s3 .next hn' hs)
        | ret v => exact seg_leaf (.ok (.ret v)) (k n' ys' s₀' s3 (.ret v) hn' hs)
      | false =>
        rw [if_neg Bool.false_ne_true]
        exact seg_execs_nil (seg_leaf (.ok .next) (k n ys s₀ s' .next hn ⟨σ, H2, ⟨acc, cc, oC, r, e1, e2, I2⟩, q2⟩))
  exact loop m0 n ys s₀ s σ H hn w0 hI
end
end K46
set_option Elab.async false
set_option linter.all false
set_option maxRecDepth 100000
set_option maxHeartbeats 1600000
namespace K46
open PySem PySem.Spec PyProof.Rows L2 GenW
abbrev noH : Hp := fun _ => none
theorem env0_none {P : Program} {w : World} {K : PySem.W.Frag} {mg : Str → Option Value} {base : Heap} {A : Around} {outer : List Env} {s : Shared} {H : Hp} (e : Env0 P w K mg base A outer s H) : Env0 P w K mg base A outer s noH :=
  ⟨e.frames, e.mod, fun b o q => ⟨(e.bs b o q).1, rfl⟩, e.bsz, e.funs, fun _ _ => rfl, fun _ _ q => (by cases q), e.bare⟩
/-- a generator def's body's context: nothing is tracked at its entry; S and C are the consumer's -/
def gcxE (P : Program) (w : World) (K : PySem.W.Frag) (mg : Str → Option Value) (base : Heap) (N : List Str) (qual : Str) (scope : Scope) (f : Addr) (cd : Value) (A : Around) (outer : List Env) (s : Shared) (S C : Addr) (pn : List (Addr × Obj)) : Cx :=
  { cxOf CX0 P w K mg base N qual scope f cd A outer s noH E0 with ex := [S, C], pn := pn, xe := fun _ _ => False }
/-- the consumer's two objects, at the call -/
structure Mine (base : Heap) (outer : List Env) (h : Heap) (S C : Addr) : Prop where
  ne : S ≠ C
  all : ∀ b, b = S ∨ b = C → b < h.objs.size ∧ base.get? b = none ∧ b ∉ frs outer
abbrev SpX := List V → List V → (List V → Prop) → Prop
def REx (outer : List Env) (s : Shared) (S C a : Addr) (g : Nat) (Q : List V → Prop) : GenEnd := fun n s₀ r s1 =>
  r = .ok (.ret .none) ∧ ∃ H' ys acc c oC, s1.os = s.os ∧ AllBare s1.gens ∧ s1.heap.NoLimit ∧ Un (frs outer) [S, C] noH H' s.heap s1.heap ∧ s₀.heap.get? S = some (lstObj acc c) ∧ s1.heap.get? S = some (lstObj acc c) ∧ s₀.heap.get? C = some oC ∧ s1.heap.get? C = some oC ∧ Vals ys acc.toList ∧ ys.length ≤ sizeLine ∧ Q ys
def YIx (outer : List Env) (s : Shared) (S C a : Addr) (g : Nat) : Protocol := fun n s₀ v s1 kap =>
  ∃ H' ys x acc c oC, s1.os = s.os ∧ AllBare s1.gens ∧ s1.heap.NoLimit ∧ s1.heap.IsGen a g ∧ Un (frs outer) [S, C] noH H' s.heap s1.heap ∧ s₀.heap.get? S = some (lstObj acc c) ∧ s1.heap.get? S = some (lstObj acc c) ∧ s₀.heap.get? C = some oC ∧ s1.heap.get? C = some oC ∧
    Vals ys acc.toList ∧ RelV x v ∧ n + 1 + acc.size = sizeLine ∧ ∀ s', Sl S C v s1 s' → kap (.send .none) s'
/-- what a call of it gives -/
def GMx (P : Program) (w : World) (k : Nat) (outer : List Env) (s : Shared) (S C : Addr) (pre : List V) (Q : List V → Prop) (u : Value) (s' : Shared) : Prop :=
  ∃ (a : Addr) (g : Nat) (c : Code), u = .ref a ∧ s.heap.objs.size ≤ a ∧ a < s'.heap.objs.size ∧ s'.heap.IsGen a g ∧ s'.gens[g]? = some (.fresh c) ∧ s'.os = s.os ∧ AllBare s'.gens ∧ s'.heap.NoLimit ∧ (∀ b o, s.heap.get? b = some o → s'.heap.get? b = some o) ∧
    ∀ (A : Around) (s2 : Shared), Room k A → A.frames = some outer → (∀ b o, s'.heap.get? b = some o → s2.heap.get? b = some o) → (∃ acc c, s.heap.get? S = some (lstObj acc c) ∧ Vals pre acc.toList) → (∃ oC, s.heap.get? C = some oC ∧ ∀ u, oC.data ≠ .cell u) → s2.os = s.os → AllBare s2.gens → pre.length ≤ sizeLine →
      Seg (model P w) A (REx outer s S C a g Q) (YIx outer s S C a g) (sizeLine - pre.length) s2 c ((model P w).den c) [] s2
structure GFx (P : Program) (w : World) (K : PySem.W.Frag) (mg : Str → Option Value) (base : Heap) (k : Nat) (f : Addr) (fd : FuncData) (ps : List Str) (sp : SpX) : Prop where
  len : ∀ vs pre Q, sp vs pre Q → vs.length = ps.length
  run : ∀ (A : Around) (outer : List Env) (s : Shared) (H : Hp) (args : Args) (us : List Value) (vs : List V) (S C : Addr) (pre : List V) (Q : List V → Prop), Room k A → Env0 P w K mg base A outer s H → BindsTo s fd args (ps.zip us) → Vals vs us → Mine base outer s.heap S C → sp vs pre Q →
    codeAny (model P w) A (.call (.ref f) args) (fun r s' => match r with | .ok (.ret u) => GMx P w k outer s S C pre Q u s' | _ => False) s
theorem gfx_of {P : Program} {w : World} {K : PySem.W.Frag} {mg : Str → Option Value} {base : Heap} {k : Nat} {f : Addr} {name qual : Str} {params : Arguments} {body : List Stmt} {scope : Scope} {dV kV doc pm cdv ct oc : Value} {an od : Option Addr} {osl : Array (Option Value)} {N ps : List Str} {sp : SpX}
    (lk : K.lookup f = some ⟨oc, od, .func (PySem.W.fnOf name qual params body scope dV kV doc pm an cdv ct), osl⟩) (hcd : PySem.W.codeIn K cdv qual = true) (Sc : GScope N ps scope) (len : ∀ vs pre Q, sp vs pre Q → vs.length = ps.length)
    (hbody : ∀ (A : Around) (outer : List Env) (s : Shared) (vs pre : List V) (Q : List V → Prop) (S C : Addr) (pn : List (Addr × Obj)), Room k (A.deeper (envOfC qual scope s.heap.objs.size f cdv)) → sp vs pre Q →
      ∃ t, GSx (gcxE P w K mg base N qual scope f cdv A outer s S C pn) body t ∧ t { nx := fun ys _ _ => Q ys, rt := fun ys v _ => v = .non ∧ Q ys } pre (start N vs) noH) :
    GFx P w K mg base (k + 1) f (PySem.W.fnOf name qual params body scope dV kV doc pm an cdv ct) ps sp := by
  refine ⟨len, fun A outer s H args us vs S C pre Q hr e0' hb r M hsp => ?_⟩
  have e0 := env0_none e0'
  have hl := len _ _ _ hsp
  have KX : K.In s.heap := e0.mod.kin.keeps fun b o e => (e0.bs b o e).1
  have lim : s.heap.NoLimit := e0.mod.nolimit.keeps fun b o e => (e0.bs b o e).1
  have hkind : ∀ y ∈ ps.zip us, scope.names.lookup y.1 = some .local ∨ (scope.names.lookup y.1 = some .cell ∧ ((cellsFrom (s.heap.objs.size + 1) scope.names []).lookup y.1).isSome = true) := fun ⟨n, v⟩ hy =>
    (Sc.par n (List.of_mem_zip hy).1).elim .inl fun q => .inr ⟨q, PySem.W.cellsFrom_some _ _ _ (.inl q)⟩
  refine codeAny_call_generator hr.depth (KX _ _ lk) rfl Sc.co Sc.gen rfl (PySem.W.codeRec_of KX hcd) (hb _ _ _ _ (wpAny_newFunctionEnv_cells Sc.kind hkind fun env he s1 x => ?_))
  subst he
  have lim1 : s1.heap.NoLimit := lim.keeps x.toInCall.keep
  refine ⟨lim1, ?_⟩
  obtain ⟨h1, tk, es1, hk1⟩ := x.done
  have os1 : s1.os = s.os := by rw [es1]
  have gen1 : s1.gens = s.gens := by rw [es1]
  have lt1 : s.heap.objs.size < s1.heap.objs.size := x.toInCall.ns.lt
  have kp1 : ∀ b o, s.heap.get? b = some o → s1.heap.get? b = some o := x.toInCall.keep
  have main : ∀ (go : Obj) (nm qn : Value) (tk2 : Nat), go.cls = .type "generator" → go.data = .fields #[.int s1.gens.size 0, nm, qn] → go.slots = #[] → (∀ h : Heap, (h.push go).get? h.objs.size = some go) →
      GMx P w (k + 1) outer s S C pre Q (.ref s1.heap.objs.size) { s1 with gens := s1.gens.push (.fresh (.func body (envOfC qual scope s.heap.objs.size f cdv))), toks := tk2, heap := s1.heap.push go } := by
    intro go nm qn tk2 hgc hgd0 hgs hgp
    have isG : ∀ h : Heap, h.get? s1.heap.objs.size = some go → h.IsGen s1.heap.objs.size s1.gens.size := fun h e => ⟨go, nm, qn, e, hgc, hgd0, hgs⟩
    have pushed : (s1.heap.push go).get? s1.heap.objs.size = some go := hgp _
    refine ⟨s1.heap.objs.size, s1.gens.size, _, rfl, Nat.le_of_lt lt1, by show _ < (s1.heap.push _).objs.size; rw [Heap.size_push]; exact Nat.lt_succ_self _, isG _ pushed, Array.getElem?_push_size .., os1, AllBare.push (by rw [gen1]; exact e0.bare) rfl,
      lim1.keeps fun b o e => Heap.get?_push_of_some _ e, fun b o e => Heap.get?_push_of_some _ (kp1 b o e), ?_⟩
    intro Aw s2 hrw hfr hk2 ⟨acc0, c0, eS, rS⟩ ⟨oC, eC, dC⟩ hos hba hz
    have e0w : Env0 P w K mg base Aw outer s noH := ⟨hfr, e0.mod, e0.bs, e0.bsz, e0.funs, e0.frf, e0.hok, e0.bare⟩
    obtain ⟨t, ht, hq⟩ := hbody Aw outer s vs pre Q S C [(s1.heap.objs.size, go)] (hrw.deeper _) hsp
    have I1 : Inv (gcxOf P w K mg base N qual scope f cdv Aw outer s noH E0 []) [] (start N vs) noH s1 := inv_startG Sc hrw.hd e0w hl r x
    have kp2 : ∀ b o, s1.heap.get? b = some o → s2.heap.get? b = some o := fun b o e => hk2 b o (Heap.get?_push_of_some _ e)
    have I2 : Inv (gcxOf P w K mg base N qual scope f cdv Aw outer s noH E0 []) [] (start N vs) noH s2 := I1.call' (ch := []) (hos.trans os1.symm) (Un.kept kp2) (I1.hok.kept kp2) hba fun b z => by simp at z
    have hea : s2.heap.get? s1.heap.objs.size = some go := hk2 s1.heap.objs.size go pushed
    have hgd : ∀ v, go.data ≠ .cell v := fun v q => by rw [hgd0] at q; cases q
    have sSC : ∀ b, b = S ∨ b = C → b ≠ s.heap.objs.size ∧ ∀ y c, (cellsFrom (s.heap.objs.size + 1) scope.names []).lookup y = some c → c ≠ b := fun b hb => by
      have l1 := (M.all b hb).1
      refine ⟨Nat.ne_of_lt l1, fun y c e z => ?_⟩
      have l2 := x.above y c (PySem.mem_of_lookup e)
      subst z
      exact absurd (Nat.lt_trans l1 l2) (Nat.lt_irrefl _)
    have gSC : ∀ b, b = S ∨ b = C → b ≠ s1.heap.objs.size := fun b hb z => by
      have l1 := (M.all b hb).1
      rw [z] at l1
      exact absurd (Nat.lt_trans l1 lt1) (Nat.lt_irrefl _)
    have mem2 : ∀ b, b ∈ [S, C] → b = S ∨ b = C := fun b hb => by simpa using hb
    have eS2 : s2.heap.get? S = some (lstObj acc0 c0) := kp2 _ _ (kp1 _ _ eS)
    have eC2 : s2.heap.get? C = some oC := kp2 _ _ (kp1 _ _ eC)
    have I3 : Inv (gcxE P w K mg base N qual scope f cdv Aw outer s S C [(s1.heap.objs.size, go)]) [(S, lstObj acc0 c0), (C, oC)] (start N vs) noH s2 :=
      ⟨⟨I2.ok.mod, I2.ok.kind, I2.ok.glob, I2.ok.blt, I2.ok.above, I2.ok.inj, I2.ok.has, I2.ok.cab, fun _ => (hrw.deeper (envOfC qual scope s.heap.objs.size f cdv)).hd, I2.ok.frames, I2.ok.stk, fun b hb => ⟨(sSC b (mem2 b hb)).1, (sSC b (mem2 b hb)).2⟩, I2.ok.bs, I2.ok.bsz,
          fun b o e hb => (by
            have e2 : base.get? b = some o := e
            rw [(M.all b (mem2 b hb)).2.1] at e2
            cases e2), fun b hb => (M.all b (mem2 b hb)).2.2, I2.ok.funs, I2.ok.frf⟩,
        I2.os, I2.bare, ⟨fun b o e n hb hx => I2.base.keep b o e n hb (fun z => by cases z), fun b o e n hb hx => I2.base.slot b o e n hb (fun z => by cases z), fun b o e n hx => I2.base.free b o e n (fun z => by cases z), fun b o e hx => I2.base.there b o e (fun z => by cases z), I2.base.tups, I2.base.frzs, I2.base.tbls⟩,
        I2.loc, I2.cell, rfl, fun _ _ _ => rfl, fun p hp => by
          have hp' : p ∈ [(s1.heap.objs.size, go)] ++ [(S, lstObj acc0 c0), (C, oC)] := hp
          rcases List.mem_append.mp hp' with z | z
          · rw [List.mem_singleton.mp z]
            exact ⟨hea, rfl, Nat.ne_of_gt lt1, I1.nofs (Nat.le_refl _), hgd⟩
          · rcases List.mem_cons.mp z with z | z
            · rw [z]
              exact ⟨eS2, rfl, (sSC S (.inl rfl)).1, (M.all S (.inl rfl)).2.2, fun v q => by cases q⟩
            · rw [List.mem_singleton.mp z]
              exact ⟨eC2, rfl, (sSC C (.inr rfl)).1, (M.all C (.inr rfl)).2.2, dC⟩, fun _ _ q => (by cases q), I2.len⟩
    have hG : GJ (gcxE P w K mg base N qual scope f cdv Aw outer s S C [(s1.heap.objs.size, go)]) S C s2 pre (start N vs) noH s2 := ⟨acc0, c0, oC, rS, eC2, eS2, I3⟩
    have hO : Off (gcxE P w K mg base N qual scope f cdv Aw outer s S C [(s1.heap.objs.size, go)]) S C :=
      ⟨M.ne, fun b hb => ⟨.inl (by show b ∈ [S, C]; rcases hb with rfl | rfl <;> simp), (sSC b hb).1, (sSC b hb).2, fun p hp => by
        have hp' : p ∈ [(s1.heap.objs.size, go)] := hp
        rw [List.mem_singleton.mp hp']
        exact (gSC b hb).symm⟩, fun _ _ z => z⟩
    have pinned : ∀ {ps : List (Addr × Obj)} {s' : Shared} {σ' : L2.St} {H' : Hp}, Inv (gcxE P w K mg base N qual scope f cdv Aw outer s S C [(s1.heap.objs.size, go)]) ps σ' H' s' → s'.heap.IsGen s1.heap.objs.size s1.gens.size := fun {ps s' σ' H'} J =>
      isG _ (J.pin (s1.heap.objs.size, go) (List.mem_append_left _ (List.mem_singleton.mpr rfl))).1
    refine seg_func (seg_imp (R := GRx (gcxE P w K mg base N qual scope f cdv Aw outer s S C [(s1.heap.objs.size, go)]) S C (fun ys v _ => v = .non ∧ Q ys)) (Y := GYx (gcxE P w K mg base N qual scope f cdv Aw outer s S C [(s1.heap.objs.size, go)]) S C) (fun n s₀ r s1' hR => ?_) (fun n s₀ v s1' kap kap' hkk hY => ?_) (sizeLine - pre.length) ?_)
    · cases r with
      | error e => exact hR.elim
      | ok fl =>
        cases fl with
        | next => exact hR.elim
        | brk => exact hR.elim
        | cont => exact hR.elim
        | ret u =>
          obtain ⟨ys, v, σ', H', hn, hI, rv, ev, hQ⟩ := hR
          subst ev
          obtain rfl : u = Value.none := rv
          obtain ⟨_, _, _, _, acc, cc, oC', ra, ec0, es0, es1', ec1⟩ := hI.at
          obtain ⟨_, _, _, _, _, _, J⟩ := hI
          exact ⟨rfl, H', ys, acc, cc, oC', J.os, J.bare, J.nolimit, J.base, es0, es1', ec0, ec1, ra, by omega, hQ⟩
    · obtain ⟨ys, xx, σ', H', hn, h2, hI, h3⟩ := hY
      obtain ⟨_, _, _, _, acc, cc, oC', ra, ec0, es0, es1', ec1⟩ := hI.at
      obtain ⟨_, _, _, _, _, _, J⟩ := hI
      have asz : acc.size = ys.length := by
        have e1 := ra.length
        rw [Array.length_toList] at e1
        exact e1.symm
      exact ⟨H', ys, xx, acc, cc, oC', J.os, J.bare, J.nolimit, pinned J, J.base, es0, es1', ec0, ec1, ra, h2, by rw [asz]; exact hn, fun s' z => hkk _ _ (h3 s' z)⟩
    · refine ht.run Aw S C _ (sizeLine - pre.length) pre s2 _ [] _ _ id id s2 (start N vs) noH _ ⟨hO, over_func, rfl, rfl, rfl⟩ (by omega) (fun n ys s₀ s' fl hn hs => ?_) hG hq
      cases fl with
      | next =>
        obtain ⟨σ', H', hI, hQ⟩ := hs
        exact seg_end (.ok (.ret .none)) ⟨ys, .non, σ', H', hn, hI, rfl, rfl, hQ⟩
      | brk => obtain ⟨_, _, _, q⟩ := hs; exact q.elim
      | cont => obtain ⟨_, _, _, q⟩ := hs; exact q.elim
      | ret u =>
        obtain ⟨v, σ', H', hI, rv, ev, hQ⟩ := hs
        exact seg_end (.ok (.ret u)) ⟨ys, v, σ', H', hn, hI, rv, ev, hQ⟩
  exact main _ _ _ _ rfl rfl rfl fun h => Heap.get?_push_size _ rfl
end K46
set_option Elab.async false
set_option linter.all false
set_option maxRecDepth 100000
set_option maxHeartbeats 1600000
namespace K46
open PySem PySem.Spec PyProof.Rows L2 GenW
/-! ### a comprehension's inner loop over a generator: what it keeps since the call (state sc) -/
structure CJ (X : Cx) (sc : Shared) (D : Addr) (t : Str) (m0 : Str → Option Value) (s : Shared) : Prop where
  os : s.os = sc.os
  bare : AllBare s.gens
  keep : ∀ b o, sc.heap.get? b = some o → b ≠ D → b ≠ X.env.locals → b ∉ X.fs → s.heap.get? b = some o
  slot : ∀ b o, sc.heap.get? b = some o → b ≠ D → b ≠ X.env.locals → b ∈ X.fs → ∃ sl, s.heap.get? b = some { o with slots := sl }
  loc : ∃ m, s.heap.Ns X.env.locals m ∧ ∀ y, y ≠ t → m y = m0 y
theorem ns_fun {h : Heap} {a : Addr} {m m' : Str → Option Value} (x : h.Ns a m) (y : h.Ns a m') (z : Str) : m z = m' z := by
  obtain ⟨o, es, ep, h1, h2, _, h4⟩ := x
  obtain ⟨o', es', ep', k1, k2, _, k4⟩ := y
  rw [h1] at k1
  cases k1
  rw [h2] at k2
  cases k2
  rw [← h4, ← k4]
section
variable {X : Cx} {pins : List (Addr × Obj)} {σ : L2.St} {H : Hp} {sc s : Shared} {D : Addr} {t : Str} {m0 : Str → Option Value}
theorem inv_back {zs ys : List V} {i : Nat} {acc : Array Value} {c : Nat} (I : Inv X pins σ H sc) (hst : X.stack = X.outer) (hN : X.N.Nodup) (hi : X.N[i]? = some t) (hD : H D = some (.lst zs)) (hm : sc.heap.Ns X.env.locals m0) (J : CJ X sc D t m0 s)
    (eD : s.heap.get? D = some (lstObj acc c)) (rv : Vals ys acc.toList) (hz : ys.length ≤ sizeLine) : Inv X pins (σ.set i none) (upd H D (.lst ys)) s := by
  have neD : ∀ b, H b = none → b ≠ D := fun b n z => by rw [z, hD] at n; cases n
  have old : ∀ b o, X.s_0.heap.get? b = some o → b ≠ X.env.locals := fun b o e => Nat.ne_of_lt (Nat.lt_of_lt_of_le (Heap.lt_size e) I.ok.above)
  have cellK : ∀ x c, X.env.cells.lookup x = some c → ∀ v, sc.heap.IsCell c v → s.heap.IsCell c v := fun x c e v ⟨o, ho, hd⟩ => by
    by_cases hf : c ∈ X.fs
    · obtain ⟨sl, q⟩ := J.slot c o ho (neD c (I.freeC x c e)) (I.cne x c e) hf
      exact ⟨_, q, hd⟩
    · exact ⟨o, J.keep c o ho (neD c (I.freeC x c e)) (I.cne x c e) hf, hd⟩
  have fsN : ∀ b ∈ X.fs, H b = none := fun b hb => I.stkFree b (by rw [hst]; exact hb)
  refine ⟨I.ok, J.os.trans I.os, J.bare, ⟨fun b o e n hb hx => ?_, fun b o e n hb hx => ?_, fun b o e n hx => ?_, fun b o e hx => ?_, fun b xs e => ?_, fun b o u e => ?_, fun b ps e => ?_⟩, ?_, fun x c e => ?_, ?_, fun x c e => ?_, fun p hp => ?_, fun b u e => ?_, by rw [List.length_set]; exact I.len⟩
  · exact J.keep b o (I.base.keep b o e n hb hx) (neD b (I.base.free b o e n hx)) (old b o e) hb
  · obtain ⟨sl, e1⟩ := I.base.slot b o e n hb hx
    obtain ⟨sl', e2⟩ := J.slot b _ e1 (neD b (I.base.free b o e n hx)) (old b o e) hb
    exact ⟨sl', e2⟩
  · have z := I.base.free b o e n hx
    rw [upd_ne (neD b z)]
    exact z
  · obtain ⟨o', e1⟩ := I.base.there b o e hx
    by_cases hbD : b = D
    · exact ⟨_, by rw [hbD]; exact eD⟩
    · by_cases hf : b ∈ X.fs
      · obtain ⟨sl, e2⟩ := J.slot b o' e1 hbD (old b o e) hf
        exact ⟨_, e2⟩
      · exact ⟨o', J.keep b o' e1 hbD (old b o e) hf⟩
  · have z := I.base.tups b xs e
    rw [upd_ne (ne_of z hD (fun z => by cases z))]
    exact z
  · have z := I.base.frzs b o u e
    rw [upd_ne (ne_of z hD (fun z => by cases z))]
    exact z
  · obtain ⟨m, z⟩ := I.base.tbls b ps e
    exact ⟨m, by rw [upd_ne (ne_of z hD (fun z => by cases z))]; exact z⟩
  · obtain ⟨m, hn, hmm⟩ := J.loc
    obtain ⟨m1, hn1, hl⟩ := I.loc
    refine ⟨m, hn, fun j x v e1 e2 e3 => ?_⟩
    have hji : j ≠ i := fun z => by
      subst z
      rw [List.getElem?_set] at e2
      split at e2
      · split at e2 <;> cases e2
      · exact absurd rfl (by assumption)
    rw [List.getElem?_set_ne (Ne.symm hji)] at e2
    have hxt : x ≠ t := fun z => by
      rw [z] at e1
      exact hji (nodup_ix hN e1 hi)
    obtain ⟨u, r, l⟩ := hl j x v e1 e2 e3
    refine ⟨u, r, ?_⟩
    rcases l with ⟨k, e⟩ | ⟨k, c', e, z⟩
    · exact .inl ⟨k, by rw [hmm x hxt, ns_fun hm hn1]; exact e⟩
    · exact .inr ⟨k, c', e, cellK x c' e _ z⟩
  · obtain ⟨v, z⟩ := I.cell x c e
    exact ⟨v, cellK x c e v z⟩
  · rw [upd_ne (neD _ I.free)]
    exact I.free
  · rw [upd_ne (neD _ (I.freeC x c e))]
    exact I.freeC x c e
  · obtain ⟨e, n, ne, nf, d⟩ := I.pin p hp
    exact ⟨J.keep p.1 p.2 e (neD _ n) ne nf, by rw [upd_ne (neD _ n)]; exact n, ne, nf, d⟩
  · by_cases hb : b = D
    · subst hb
      rw [upd_same] at e
      cases e
      exact ⟨hz, acc.toList, c, rv, by simpa using eD⟩
    · rw [upd_ne hb] at e
      have nD : ∀ d u, H d = some u → d ≠ D → upd H D (.lst ys) d = some u := fun d u q n => by rw [upd_ne n]; exact q
      refine (I.hok b u e).stay (fun d v hd q => ?_) (fun d q => nD d _ q (ne_of q hD (fun z => by cases z))) fun d xs q => nD d _ q (ne_of q hD (fun z => by cases z))
      have trk : ∃ u', H d = some u' ∧ d ≠ D := by
        rcases hd with z | z
        · rw [z]
          exact ⟨u, e, hb⟩
        · exact ⟨_, z, ne_of z hD (fun z => by cases z)⟩
      obtain ⟨u', hu', hdD⟩ := trk
      refine J.keep d v q hdD (fun z => ?_) fun z => ?_
      · rw [z, I.free] at hu'
        cases hu'
      · rw [fsN d z] at hu'
        cases hu'
theorem get_none' {h : Heap} {b : Addr} (hb : h.objs.size ≤ b) : h.get? b = none := by
  cases q : h.get? b with
  | none => rfl
  | some o => exact absurd (Nat.lt_of_lt_of_le (Heap.lt_size q) hb) (Nat.lt_irrefl _)
theorem mine_of {zs : List V} (I : Inv X pins σ H sc) (hst : X.stack = X.outer) (hD : H D = some (.lst zs)) : Mine X.base X.stack sc.heap D X.env.locals := by
  refine ⟨fun z => ?_, fun b hb => ?_⟩
  · rw [z, I.free] at hD
    cases hD
  · rcases hb with rfl | rfl
    · refine ⟨I.hok.lt hD, ?_, fun z => ?_⟩
      · cases q : X.base.get? b with
        | none => rfl
        | some o =>
          have n := (I.bs b o q).2
          rw [hD] at n
          cases n
      · have n := I.stkFree b z
        rw [hD] at n
        cases n
    · refine ⟨I.lt, get_none' (Nat.le_trans I.ok.bsz I.ok.above), fun z => ?_⟩
      rw [hst] at z
      obtain ⟨_, o, ho, _⟩ := I.ok.funs.mem z
      exact absurd (Nat.lt_of_lt_of_le (Heap.lt_size ho) I.ok.above) (Nat.lt_irrefl _)
/-- the loop itself: from a generator that has just been made -/
theorem inner_loop {k : Nat} {zs : List V} {i : Nat} {Q : List V → Prop} {u : Value} {s' : Shared} {t0 i0 i1 : Expr} {ifs0 : List Expr} {scope : Scope} {pos tp ep : Pos} {R : Result → Shared → Prop} (I : Inv X pins σ H sc) (hr : Room (k + 1) X.A) (hst : X.stack = X.outer) (hN : X.N.Nodup) (hi : X.N[i]? = some t)
    (ht : X.env.scope.names.lookup t = some .local) (hdb : (t == ("__debug__" : Str)) = false) (hD : H D = some (.lst zs)) (G : GMx X.prog X.w k X.stack sc D X.env.locals zs Q u s') (hR : ∀ s2 ys, Inv X pins (σ.set i none) (upd H D (.lst ys)) s2 → Q ys → R (.ok .next) s2) :
    codeAny (model X.prog X.w) X.A (.compLoop (.ListComp (.Name t ep) [⟨t0, i0, ifs0, 0⟩, ⟨.Name t tp, i1, [], 0⟩] scope pos) 1 u (.ref D) X.env) R s' := by
  obtain ⟨a, g, c, rfl, ha1, ha2, hg, hgs, hos, hb, hl, hkp, wake⟩ := G
  have M := mine_of I hst hD
  obtain ⟨m0, hm0, _⟩ := I.loc
  obtain ⟨hz, its, n0, rz, eD⟩ := I.hok D _ hD
  obtain ⟨oC, esC, epC, eC, dC, rC⟩ := id hm0
  have fr : ∀ b, b ∈ frs X.stack ↔ b ∈ X.fs := fun b => by rw [hst]
  have un_keep : ∀ {H' : Hp} {s1 : Shared}, Un (frs X.stack) [D, X.env.locals] noH H' sc.heap s1.heap → (∀ b o, sc.heap.get? b = some o → b ≠ D → b ≠ X.env.locals → b ∉ X.fs → s1.heap.get? b = some o) ∧ (∀ b o, sc.heap.get? b = some o → b ≠ D → b ≠ X.env.locals → b ∈ X.fs → ∃ sl, s1.heap.get? b = some { o with slots := sl }) := fun {H' s1} U =>
    ⟨fun b o e h1 h2 h3 => U.keep b o e rfl (fun z => h3 ((fr b).mp z)) (fun z => by simp at z; exact z.elim h1 h2), fun b o e h1 h2 h3 => U.slot b o e rfl ((fr b).mpr h3) (fun z => by simp at z; exact z.elim h1 h2)⟩
  have seg0 := wake X.A.in1 { (s'.setGen g .running) with gens := (s'.setGen g .running).gens } ⟨hr.hd, by have := hr.dp; show X.A.depth + 3 * k + 5 < _; omega, by have := hr.un; rw [Around.in1_units]; omega⟩ I.ok.frames (fun b o e => e) ⟨its.toArray, n0, eD, by simpa using rz⟩ ⟨oC, eC, fun v z => by rw [dC] at z; cases z⟩ hos (allBare_setGen hb rfl) hz
  let R1 : GenEnd := fun n s₀ r s1 => ((r = .ok (.ret .none) ∨ r = .ok .next) ∧ (REx X.stack sc D X.env.locals a g Q) n s₀ (.ok (.ret .none)) s1) ∨ ∃ e, r = .error e ∧ False
  have go0 : (GenState.fresh c).Goes (model X.prog X.w) X.A.in1 R1 (YIx X.stack sc D X.env.locals a g) (sizeLine - zs.length) (.send .none) (s'.setGen g .running) :=
    ⟨rfl, seg_imp (R := REx X.stack sc D X.env.locals a g Q) (Y := YIx X.stack sc D X.env.locals a g) (fun n s₀ r s1 h => .inl ⟨.inl h.1, rfl, h.2⟩) (fun n s₀ v s kap kap' hk ⟨H', ys, x, acc, c, oC, h1, h2, h3, h4, h5, h6, h7, h8, h9, h10, h11, h12, h13⟩ => ⟨H', ys, x, acc, c, oC, h1, h2, h3, h4, h5, h6, h7, h8, h9, h10, h11, h12, fun s'' z => hk _ _ (h13 s'' z)⟩) _ seg0⟩
  let LJ : Nat → Shared → Prop := fun n s => CJ X sc D t m0 s ∧ (∃ acc c, s.heap.get? D = some (lstObj acc c) ∧ acc.size + n = sizeLine) ∧ s.heap.IsGen a g ∧ ∃ gs, s.gens[g]? = some gs ∧ gs.Goes (model X.prog X.w) X.A.in1 R1 (YIx X.stack sc D X.env.locals a g) n (.send .none) (s.setGen g .running)
  have aD : a ≠ D := fun z => by rw [z] at ha1; exact absurd (Nat.lt_of_lt_of_le (M.all D (.inl rfl)).1 ha1) (Nat.lt_irrefl _)
  have aC : a ≠ X.env.locals := fun z => by rw [z] at ha1; exact absurd (Nat.lt_of_lt_of_le I.lt ha1) (Nat.lt_irrefl _)
  have limOf : ∀ s, CJ X sc D t m0 s → s.heap.NoLimit := fun s J => I.mod.nolimit.keeps fun b o e => by
    have z := I.bs b o e
    refine J.keep b o z.1 (fun y => ?_) (fun y => ?_) (I.ok.nofr e)
    · rw [y, hD] at z
      cases z.2
    · have l1 := Heap.lt_size e
      rw [y] at l1
      exact absurd (Nat.lt_of_lt_of_le l1 (Nat.le_trans I.ok.bsz I.ok.above)) (Nat.lt_irrefl _)
  refine compLoop2_in LJ (fun n s hLJ => ?_) (sizeLine - zs.length) ⟨⟨hos, hb, fun b o e _ _ _ => hkp b o e, fun b o e _ _ _ => ⟨o.slots, hkp b o e⟩, ⟨m0, ?_, fun _ _ => rfl⟩⟩, ⟨its.toArray, n0, hkp _ _ eD, ?_⟩, hg, _, hgs, go0⟩
  · obtain ⟨J, ⟨acc, cD, eDs, hsz⟩, hga, gs, hgs', hgo⟩ := hLJ
    have hgl : g < s.gens.size := (Array.getElem?_eq_some_iff.mp hgs').1
    refine wpAny_gsz (n := g + 1) hgl (next_genG (F := fun n s₀ s1 => (REx X.stack sc D X.env.locals a g Q) n s₀ (.ok (.ret .none)) s1) (Er := fun _ _ => False) hr.hd (limOf s J) (by have := hr.dp; omega) hga hgs' hgo (fun v s1 gs' hbare hv => ?_) (fun s1 hp h' hk => ?_) fun e s1 he => he.elim)
    · intro gsz
      obtain ⟨H', ys, x, acc1, c1, oC1, os1, b1, lim1, hg1, U, e1, e2, e3, e4, rv1, rx, hn1, kap⟩ := hv
      have e1' : s.heap.get? D = some (lstObj acc1 c1) := e1
      rw [eDs] at e1'
      cases e1'
      obtain ⟨n, rfl⟩ : ∃ m, n = m + 1 := by
        cases n with
        | zero => omega
        | succ m => exact ⟨m, rfl⟩
      have gsz1 : g < s1.gens.size := by
        have q : (s1.setGen g gs').gens.size = s1.gens.size := setGen_size _ _ _
        omega
      obtain ⟨k1, k2⟩ := un_keep U
      obtain ⟨m, hn, hmm⟩ := J.loc
      have hn1' : s1.heap.Ns X.env.locals m := hn.at' fun o e => by
        have e3' : s.heap.get? X.env.locals = some oC1 := e3
        rw [e] at e3'
        cases e3'
        exact e4
      show wpAny _ _ (letOwnedTupleGo (.Name t tp) (.ref a) v) _ _ _
      refine wpAny_pure (wpAny_assign_Name (wpAny_storeName_local (m := m) ht hn1' (fun h2 hn2 sb2 => ?_) (by rw [I.ok.kind]; rfl)))
      refine wpAny_pure ?_
      rw [if_pos rfl]
      refine wpAny_Name (wpAny_loadName_local I.ok.kind ht hn2 (v := v) (by simp) ?_) hdb
      have eD2 : h2.get? D = some (lstObj acc cD) := (sb2.2 D M.ne).trans e2
      refine append_at (hsz := by omega) eD2 fun h3 sb3 eD3 => ?_
      have k3 : ∀ b o, b ≠ D → b ≠ X.env.locals → s1.heap.get? b = some o → h3.get? b = some o := fun b o n1 n2 e => (sb3.2 b n1).trans ((sb2.2 b n2).trans e)
      have hn3 := hn2.sameBut sb3 M.ne.symm
      refine ⟨n, Nat.lt_succ_self n, ⟨os1, allBare_setGen b1 hbare, fun b o e n1 n2 n3 => k3 b o n1 n2 (k1 b o e n1 n2 n3), fun b o e n1 n2 n3 => ?_, _, hn3, fun y hy => ?_⟩, ⟨_, _, eD3, ?_⟩, ?_, gs', setGen_at gsz1, ?_⟩
      · obtain ⟨sl, q⟩ := k2 b o e n1 n2 n3
        exact ⟨sl, k3 b _ n1 n2 q⟩
      · show (if y = t then some v else m y) = m0 y
        rw [if_neg hy]
        exact hmm y hy
      · rw [Array.size_push]
        omega
      · obtain ⟨o, nm, qn, ho, r⟩ := hg1
        exact ⟨o, nm, qn, k3 a o aD aC ho, r⟩
      · refine kap _ ⟨os1.trans (os1.symm), ?_, fun b o n1 n2 e => k3 b o n1 n2 e, fun acc' c' e => ?_, fun o e => ?_⟩
        · exact allBare_setGen (s := { (s1.setGen g gs') with heap := h3 }) (allBare_setGen b1 hbare) rfl
        · rw [e2] at e
          cases e
          exact ⟨_, eD3⟩
        · obtain ⟨o', es, ep, ho, hd, _⟩ := hn3
          exact ⟨o', ho, fun w z => by rw [hd] at z; cases z⟩
    · intro gsz
      obtain ⟨_, H', ys, acc1, c1, oC1, os1, b1, lim1, U, e1, e2, e3, e4, rv1, hle, hQ⟩ := hp
      obtain ⟨k1, k2⟩ := un_keep U
      obtain ⟨m, hn, hmm⟩ := J.loc
      have hn1' : s1.heap.Ns X.env.locals m := hn.at' fun o e => by
        have e3' : s.heap.get? X.env.locals = some oC1 := e3
        rw [e] at e3'
        cases e3'
        exact e4
      refine hR _ ys (inv_back (c := c1) (acc := acc1) I hst hN hi hD hm0 ⟨os1, allBare_setGen b1 rfl, fun b o e n1 n2 n3 => hk b o (k1 b o e n1 n2 n3), fun b o e n1 n2 n3 => ?_, m, hn1'.at' fun o e => hk _ o e, hmm⟩ (hk _ _ e2) rv1 hle) hQ
      obtain ⟨sl, q⟩ := k2 b o e n1 n2 n3
      exact ⟨sl, hk _ _ q⟩
  · exact hm0.at' fun o e => hkp _ o e
  · have := rz.length
    rw [List.size_toArray]
    omega
end
end K46
set_option Elab.async false
set_option linter.all false
set_option maxRecDepth 100000
set_option maxHeartbeats 1600000
namespace K46
open PySem PySem.Spec PyProof.Rows L2 GenW
/-- a generator def of the module, under its name -/
structure CalG (P : Program) (w : World) (K : PySem.W.Frag) (mg : Str → Option Value) (base : Heap) (k : Nat) (x : Str) (sp : SpX) : Prop where
  ex : ∃ (f : Addr) (fd : FuncData) (ps : List Str), GFx P w K mg base k f fd ps sp ∧ mg x = some (.ref f) ∧ PySem.W.keepIn K (.ref f) = true ∧ Binds K fd ps []
section
variable {X : Cx}
def tLcg (wi : TI) (g : TG) (ta : TA) (sp : SpX) (vs : List Nat) : TE := fun σ H Q => wi σ H fun J H1 => ∀ D, H1 D = none → ∃ W : Nat → Nat → Hp → Prop, (∃ m, W 0 m (upd H1 D (.lst []))) ∧ ∀ i m H, W i m H →
  (J.stop i H ∧ Q (.ref D) H) ∨ (J.go i H ∧ ∃ Nx : Hp → Prop, (∀ H', Nx H' → ∃ m', m' < m ∧ W (i + 1) m' H') ∧ ∀ x H', J.yld i H x H' → g x (wipe σ vs) H' fun σ2 H2 => wipe σ2 vs = wipe σ vs ∧ ta σ2 H2 fun ws H4 => ∃ zs, H4 D = some (.lst zs) ∧ sp ws zs fun ys => Nx (upd H4 D (.lst ys)))
theorem lcg_core {pins : List (Addr × Obj)} {s : Shared} {σ : L2.St} {H : Hp} {Q : VK} {k i1 : Nat} {t x : Str} {tp ep p cpos : Pos} {tg iter e : Expr} {es : List Expr} {scope : Scope} {own : List (Str × Nat)} {pos pos' : Pos} {wi : TI} {g : TG} {ta : TA} {sp : SpX} {use : Option (Value → Sem Unit)} {Qf : Value → Shared → Prop}
    (hc : X.calm = true) (hr : Room (k + 1) X.A) (hN : X.N.Nodup) (I : Inv X pins σ H s) (hi : PI X tg iter wi) (ok : BlkOk X.N X.env.scope scope own) (hg : ∀ (s : Shared) (H : Hp) (C : Addr) (cl : List (Str × Addr)) (fp : List Addr), PG (X.blk s H scope (compEnvC scope cl C X.env) fp) tg g)
    (ht : scope.names.lookup t = some .local) (hti : X.N[i1]? = some t) (hto : i1 ∈ own.map (·.2)) (hdt : (t == ("__debug__" : Str)) = false) (cal : CalG X.prog X.w X.K X.mg X.base k x sp)
    (ha : ∀ (s : Shared) (H : Hp) (C : Addr) (cl : List (Str × Addr)) (fp : List Addr), PA (X.blk s H scope (compEnvC scope cl C X.env) fp) (e :: es) ta) (hgx : ∀ (s : Shared) (H : Hp) (C : Addr) (cl : List (Str × Addr)) (fp : List Addr), Gl (X.blk s H scope (compEnvC scope cl C X.env) fp) x)
    (hs : ∀ v, foldedSetIterable iter X.env v = pure v) (hs1 : ∀ env v, foldedSetIterable (.Call (.Name x p) (e :: es) [] cpos) env v = pure v) (hdb : (x == ("__debug__" : Str)) = false)
    (he : ∀ env : Env, starEach (e :: es) env = (false, eval e env) :: starEach es env) (hpl : ∀ env : Env, (backTo cpos (starEach es env)).any (·.1) = false) (h : tLcg wi g ta sp (own.map (·.2)) σ H Q)
    (hRR : ∀ D C s' m H', Inv X pins σ H' s' → Q (.ref D) H' → s'.heap.Ns C m → FpOk X pins H' C → compPost (model X.prog X.w) X.A X.xe use Qf (.ref D) C (.ok .next) s') :
    wpAny (model X.prog X.w) X.A (comprehension (.ListComp (.Name t ep) [⟨tg, iter, [], 0⟩, ⟨.Name t tp, .Call (.Name x p) (e :: es) [] cpos, [], 0⟩] scope pos) scope X.env pos' (newList []) false (eval iter X.env) use) Qf X.xe s := by
  have fr : ∀ y ∈ scope.names, y.2 = .free → ∃ c, X.env.cells.lookup y.1 = some c := fun y hy e => (ok.free y hy e).elim (fun z => I.ok.has _ (.inl z)) fun z => I.ok.has _ (.inr z)
  refine wpAny_comprehension_free (use := use) rfl hs (closure_ok fr) ok.kind (fun y hy e => by rw [ok.uniq y hy, e]) (thn (hi.run pins s σ H _ I h) fun xv s1 hx => thn hx fun itv s2 h2 => ?_)
  obtain ⟨it, fp, tn, J, H2, rfl, I2, T, st2, f2, q⟩ := h2
  refine wpAny_newObj_type (newEnv_comp ?_) (by show 0 ≤ sizeLine; decide)
  generalize eD : s2.heap.objs.size = D
  obtain ⟨W, ⟨m0, w0⟩, turn⟩ := q D (I2.hok.fresh (Nat.le_of_eq eD))
  generalize e3 : ({ s2 with heap := s2.heap.push { cls := .type "list", data := .seq ([] : List Value).toArray } } : Shared) = s3
  have h3 : s3.heap = s2.heap.push { cls := .type "list", data := .seq ([] : List Value).toArray } := by rw [← e3]
  have I3 : Inv X pins σ (upd H2 D (.lst [])) s3 := by
    rw [← e3]
    refine I2.laid (t' := s2.toks) (fun b o e => Heap.get?_push_of_some _ e) (Nat.le_of_eq eD) ⟨Nat.zero_le _, [], 0, .nil, ?_⟩
    rw [← eD]
    exact Heap.get?_push_size _ rfl
  have f3 : ∀ b ∈ fp, FpOk X pins (upd H2 D (.lst [])) b ∧ b < s3.heap.objs.size := fun b hb => by
    obtain ⟨o, e, _⟩ := T.obj _ _ st2 b hb
    have lt := Heap.lt_size e
    refine ⟨⟨?_, (f2 b hb).2⟩, by rw [h3, Heap.size_push]; exact Nat.lt_succ_of_lt lt⟩
    rw [upd_ne (by rw [← eD]; exact Nat.ne_of_lt lt)]
    exact (f2 b hb).1
  have st3 : tn 0 s3.heap := T.keep _ _ _ st2 fun b _ o e => by rw [h3]; exact Heap.get?_push_of_some _ e
  have I4 := block_start I3 ok hN f3
  have pg := hg s3 (upd H2 D (.lst [])) s3.heap.objs.size (cellsFrom (s3.heap.objs.size + 1) scope.names (cloFrom X.env.cells scope.names [])) fp
  have pa := ha s3 (upd H2 D (.lst [])) s3.heap.objs.size (cellsFrom (s3.heap.objs.size + 1) scope.names (cloFrom X.env.cells scope.names [])) fp
  have gx := hgx s3 (upd H2 D (.lst [])) s3.heap.objs.size (cellsFrom (s3.heap.objs.size + 1) scope.names (cloFrom X.env.cells scope.names [])) fp
  show codeAny _ _ (.compStart (.ListComp (.Name t ep) [⟨tg, iter, [], 0⟩, ⟨.Name t tp, .Call (.Name x p) (e :: es) [] cpos, [], 0⟩] scope pos) 0 (.ref it) (.ref D) (compEnvC scope (cellsFrom (s3.heap.objs.size + 1) scope.names (cloFrom X.env.cells scope.names [])) s3.heap.objs.size X.env)) (compPost (model X.prog X.w) X.A X.xe use Qf (.ref D) s3.heap.objs.size) { s3 with heap := pushCells (s3.heap.push { cls := .type "dict", data := .dict #[] }) scope.names }
  have nfp : ∀ b ∈ fp, (upd H2 D (.lst [])) b = none := fun b hb => (f3 b hb).1.1
  have etl : (compEnvC scope (cellsFrom (s3.heap.objs.size + 1) scope.names (cloFrom X.env.cells scope.names [])) s3.heap.objs.size X.env).scope.names.lookup t = some .local := lookup_relabel_local ht
  generalize hce : compEnvC scope (cellsFrom (s3.heap.objs.size + 1) scope.names (cloFrom X.env.cells scope.names [])) s3.heap.objs.size X.env = ce at I4 pg pa gx etl ⊢
  have cL : ce.locals = s3.heap.objs.size := by subst hce; rfl
  generalize upd H2 D (.lst []) = H3 at I3 I4 pg pa gx w0 nfp f3
  generalize hs4 : ({ s3 with heap := pushCells (s3.heap.push { cls := .type "dict", data := .dict #[] }) scope.names } : Shared) = s4 at I4 ⊢
  have st4 : tn 0 s4.heap := T.keep _ _ _ st3 fun b _ o e => by rw [← hs4]; exact pushCells_keeps _ _ _ _ (Heap.get?_push_of_some _ e)
  have stat : ∀ {σ' : L2.St} {H' : Hp} {s' : Shared}, Inv (X.blk s3 H3 scope ce fp) [] σ' H' s' → (∀ b ∈ fp, H' b = none) → ∀ b ∈ fp, FpOk (X.blk s3 H3 scope ce fp) [] H' b := fun {σ' H' s'} I' hn b hb =>
    ⟨hn b hb, (I'.ok.exf b hb).1, I'.ok.exfs b hb, .inl hb, fun x c e => (I'.ok.exf b hb).2 x c e, fun p hp => absurd (show p ∈ ([] : List (Addr × Obj)) ++ [] from hp) (by simp)⟩
  refine codeAny_compStart_list ?loop (T.self X.A 0 _ _ _ st4 ?loop)
  case loop =>
    refine compLoop2_out (hs1 ce) (fun n s' => ∃ i H', Inv (X.blk s3 H3 scope ce fp) [] (wipe σ (own.map (·.2))) H' s' ∧ tn i s'.heap ∧ (∀ b ∈ fp, H' b = none) ∧ W i n H') ?_ m0 ⟨0, H3, I4, st4, nfp, w0⟩
    rintro n s5 ⟨i, H5, I5, st5, n5, w5⟩
    rcases turn i n H5 w5 with ⟨stop, qq⟩ | ⟨go, Nx, hNx, step⟩
    · refine thnF (T.done (X.blk s3 H3 scope ce fp) rfl rfl rfl hc i [] s5 _ H5 (fun _ _ => False) I5 (stat I5 n5) st5 stop) fun r s6 ⟨hr, I6⟩ => ?_
      subst hr
      have I7 : Inv X pins σ H5 s6 := I3.call' (ch := fp) I6.os I6.base I6.hok I6.bare fun b hb => ⟨(f3 b hb).1.2.2.2.1, (f3 b hb).1.2.1, (f3 b hb).1.2.2.2.2.1, (f3 b hb).1.2.2.2.2.2⟩
      have nC : H5 s3.heap.objs.size = none := by
        have z : H5 ce.locals = none := I6.free
        rwa [cL] at z
      obtain ⟨m, hn, _⟩ := I6.loc
      have hn : s6.heap.Ns ce.locals m := hn
      rw [cL] at hn
      exact hRR D s3.heap.objs.size s6 m H5 I7 qq hn (I3.fpOk (Nat.le_refl _) nC)
    · refine thnF (T.item (X.blk s3 H3 scope ce fp) rfl rfl rfl hc i [] s5 _ H5 (fun _ _ => False) I5 (stat I5 n5) st5 go) fun r s6 ⟨u, hr, h6⟩ => ?_
      subst hr
      refine thnF h6 fun _ s7 ⟨y, H7, I7, r7, y7, st7, n7⟩ => ?_
      refine thnF (pg.run _ s7 _ H7 y u _ (I7.pinned (stat I7 n7) (T.obj _ _ st7)) r7 (step y H7 y7)) fun _ s8 ⟨σ8, H8, I8, hw8, q8⟩ => ?_
      refine wpAny_pure ?_
      rw [if_pos rfl]
      have fin : ∀ {σ9 : L2.St} {s' : Shared} {H' : Hp}, Inv (X.blk s3 H3 scope ce fp) ([] ++ pinsAt fp s7.heap) σ9 H' s' → (wipe σ (own.map (·.2))).length = σ9.length → (∀ (j : Nat) v, (wipe σ (own.map (·.2)))[j]? = some (some v) → σ9[j]? = some (some v)) → Nx H' →
          ∃ m, m < n ∧ ∃ i H', Inv (X.blk s3 H3 scope ce fp) [] (wipe σ (own.map (·.2))) H' s' ∧ tn i s'.heap ∧ (∀ b ∈ fp, H' b = none) ∧ W i m H' := fun {σ9 s' H'} I' hl hk nx => by
        obtain ⟨m', hm, w'⟩ := hNx H' nx
        have pin' : ∀ b ∈ fp, ∀ o, s7.heap.get? b = some o → s'.heap.get? b = some o ∧ H' b = none := fun b hb o e =>
          have z := I'.pin (b, o) (List.mem_append_right _ (List.mem_append_right _ (mem_pinsAt hb e)))
          ⟨z.1, z.2.1⟩
        refine ⟨m', hm, i + 1, H', (I'.unpinned (pins := [])).weak hl hk, T.keep _ _ _ st7 fun b hb o e => (pin' b hb o e).1, fun b hb => ?_, w'⟩
        obtain ⟨o, e, _⟩ := T.obj _ _ st7 b hb
        exact (pin' b hb o e).2
      obtain ⟨f, fd, ps, F, hmx, kp, bnd⟩ := cal.ex
      refine wpAny_Call_Name_kw (ld_glob (X := X.blk s3 H3 scope ce fp) I8 gx hmx ?_ hdb)
      refine PySem.W.callWith_K (h₀ := X.base) I8.ok.mod.kin kp (wpAny_mono (pa.run cpos _ s8 σ8 H8 _ I8 q8) (fun us s9 ⟨ws, H9, I9, r9, zs, hD9, hsp⟩ => ⟨I9.kIn, ?_⟩) fun _ _ z => z.elim) (he ce) (hpl ce)
      have hlen : (us ++ []).length = ps.length := by rw [List.append_nil, ← r9.length]; exact F.len _ _ _ hsp
      have hbd := bnd s9 us I9.kIn hlen
      rw [List.append_nil] at hbd
      have M := mine_of I9 rfl hD9
      refine wpAny_call (codeAny_mono (F.run X.A X.stack s9 H9 ⟨us, []⟩ us ws D ce.locals zs _ (hr.mono (Nat.le_succ k)) I9.env0 hbd r9 M hsp) fun r s10 hq => ?_)
      cases r with
      | error e => exact hq.elim
      | ok fl =>
        cases fl with
        | next => exact hq.elim
        | brk => exact hq.elim
        | cont => exact hq.elim
        | ret u1 =>
          obtain ⟨a, gg, c, rfl, ha1, ha2, hgen, hq'⟩ := id hq
          refine wpAny_pyIter_gen hgen ?_
          have hl8 : (wipe σ (own.map (·.2))).length = (σ8.set i1 none).length := by rw [List.length_set, ← hw8, wipe_length]
          have hk8 : ∀ (j : Nat) v, (wipe σ (own.map (·.2)))[j]? = some (some v) → (σ8.set i1 none)[j]? = some (some v) := fun j v e => by
            rw [← hw8] at e
            obtain ⟨e1, e2⟩ := wipe_some e
            rw [List.getElem?_set_ne (fun z => e2 (by rw [← z]; exact hto))]
            exact e1
          have loop1 := inner_loop (t0 := tg) (i0 := iter) (i1 := .Call (.Name x p) (e :: es) [] cpos) (ifs0 := []) (scope := scope) (pos := pos) (tp := tp) (ep := ep) (R := fun r s' => match r with
              | .ok _ => ∃ m, m < n ∧ ∃ i H', Inv (X.blk s3 H3 scope ce fp) [] (wipe σ (own.map (·.2))) H' s' ∧ tn i s'.heap ∧ (∀ b ∈ fp, H' b = none) ∧ W i m H'
              | .error _ => False) I9 hr rfl hN hti etl hdt hD9 hq (fun s11 ys I11 nx => fin I11 hl8 hk8 nx)
          exact compStart1_ok loop1 (wpAny_pyIter_gen hgen loop1)
theorem ps_setLcg {k i i1 : Nat} {y t x : Str} {py tp ep p cpos : Pos} {tg iter e : Expr} {es : List Expr} {scope : Scope} {own : List (Str × Nat)} {pos spos : Pos} {wi : TI} {g : TG} {ta : TA} {sp : SpX} (hc : X.calm = true) (hr : Room (k + 1) X.A) (hN : X.N.Nodup) (hy : X.N[i]? = some y) (hyl : X.env.scope.names.lookup y = some .local)
    (hsw : swapsWith (.ListComp (.Name t ep) [⟨tg, iter, [], 0⟩, ⟨.Name t tp, .Call (.Name x p) (e :: es) [] cpos, [], 0⟩] scope pos) (some (.Name y py)) spos.line X.env = pure true) (hi : PI X tg iter wi) (ok : BlkOk X.N X.env.scope scope own)
    (hg : ∀ (s : Shared) (H : Hp) (C : Addr) (cl : List (Str × Addr)) (fp : List Addr), PG (X.blk s H scope (compEnvC scope cl C X.env) fp) tg g)
    (ht : scope.names.lookup t = some .local) (hti : X.N[i1]? = some t) (hto : i1 ∈ own.map (·.2)) (cal : CalG X.prog X.w X.K X.mg X.base k x sp)
    (ha : ∀ (s : Shared) (H : Hp) (C : Addr) (cl : List (Str × Addr)) (fp : List Addr), PA (X.blk s H scope (compEnvC scope cl C X.env) fp) (e :: es) ta) (hgx : ∀ (s : Shared) (H : Hp) (C : Addr) (cl : List (Str × Addr)) (fp : List Addr), Gl (X.blk s H scope (compEnvC scope cl C X.env) fp) x)
    (hdt : (t == ("__debug__" : Str)) = false := by decide) (hs : ∀ v, foldedSetIterable iter X.env v = pure v := by intro _; rfl) (hs1 : ∀ env v, foldedSetIterable (.Call (.Name x p) (e :: es) [] cpos) env v = pure v := by intro _ _; rfl) (hdb : (x == ("__debug__" : Str)) = false := by decide)
    (he : ∀ env : Env, starEach (e :: es) env = (false, eval e env) :: starEach es env := by intro _; rfl) (hpl : ∀ env : Env, (backTo cpos (starEach es env)).any (·.1) = false := by intro _; rfl) :
    PS X (.Assign [.Name y py] (.ListComp (.Name t ep) [⟨tg, iter, [], 0⟩, ⟨.Name t tp, .Call (.Name x p) (e :: es) [] cpos, [], 0⟩] scope pos) spos) (tAsg (tLcg wi g ta sp (own.map (·.2))) (gName i)) := by
  refine ⟨fun pins s σ H D I h => ?_⟩
  rw [exec_Assign_Name_used _ _ _ _ hsw]
  refine wpAny_bind (wpAny_standAt (wpAny_bind ?_))
  show wpAny _ X.A (do let _ ← comprehension (.ListComp (.Name t ep) [⟨tg, iter, [], 0⟩, ⟨.Name t tp, .Call (.Name x p) (e :: es) [] cpos, [], 0⟩] scope pos) scope X.env (firstIterPos [⟨tg, iter, [], 0⟩, ⟨.Name t tp, .Call (.Name x p) (e :: es) [] cpos, [], 0⟩] pos) (newList []) false (eval iter X.env) (some (assign (.Name y py) X.env))) _ _ s
  have h' : tLcg wi g ta sp (own.map (·.2)) σ H (fun x H1 => gName i x σ H1 D.nx) := h
  refine wpAny_bind (thn (lcg_core (Qf := fun _ s' => SP X pins D .next s') hc hr hN I hi ok hg ht hti hto hdt cal ha hgx hs hs1 hdb he hpl h' fun L C s' m H' I' q hn f => ?_) fun _ s' hq => wpAny_pure (wpAny_pure hq))
  show wpAny _ _ (assign (.Name y py) X.env (.ref L)) _ _ _
  refine wpAny_assign_Name (store_ok2 (v := V.ref L) I' hN hy (.inl hyl) rfl (fun s2 I2 ⟨a, sb, ha⟩ => ?_) (.inr hyl))
  obtain ⟨f0, f1, f2, f3, f4, f5⟩ := f
  have haC : C ≠ a := by
    rcases ha with z | z
    · rw [z]
      exact f1
    · exact fun e => f4 y a z e.symm
  exact ⟨m, hn.sameBut sb haC, fun h3 sb3 => ⟨_, H', I2.turned (t' := s2.toks) (fun b o hb e => (sb3.2 b hb).trans e) f0 f1 f3 f4 f5, q⟩⟩
end
end K46
set_option Elab.async false
set_option linter.all false
set_option maxRecDepth 100000
set_option maxHeartbeats 1600000
/-! words of our own: sequences of either kind, walks whose items are known, letters -/
namespace K46
open PySem PySem.Spec PyProof.Rows L2
/-! ### a list or a tuple -/
def SqB (b : Bool) (K : PySem.W.Frag) (H : Hp) (a : Addr) (xs : List V) : Prop := match b with
  | true => SqL K H a xs
  | false => SqT K H a xs
def Itb (b : Bool) (K : PySem.W.Frag) (a : Addr) : It := match b with
  | true => Itl K a
  | false => Itt K a
theorem SqB.same {b : Bool} {K : PySem.W.Frag} {H H' : Hp} {a : Addr} {xs : List V} (s : Same H H') (h : SqB b K H a xs) : SqB b K H' a xs := by
  cases b
  · exact same_seqT s h
  · exact s.seq h
theorem SqB.lst {K : PySem.W.Frag} {H : Hp} {a : Addr} {xs : List V} (h : H a = some (.lst xs)) : SqB true K H a xs := SqL.of h
theorem SqB.tup {K : PySem.W.Frag} {H : Hp} {a : Addr} {xs : List V} (h : H a = some (.tup xs)) : SqB false K H a xs := SqT.of h
theorem SqB.either {b : Bool} {K : PySem.W.Frag} {H : Hp} {a : Addr} {xs : List V} (h : SqB b K H a xs) : SqL K H a xs ∨ SqT K H a xs := by
  cases b
  · exact .inr h
  · exact .inl h
def rIxB (K : PySem.W.Frag) : R2 := fun x y H Q => ∃ b p xs i v, x = .ref p ∧ y = .int i ∧ SqB b K H p xs ∧ atI xs i = some v ∧ Q v H
theorem ix_seq {X : Cx} : IxR X (rIxB X.K) := by
  intro value slice pins s σ H x y v u Q I rx ry h hs
  obtain ⟨b, p, xs, i, z, e1, e2, h1, h2, q⟩ := h
  cases b
  · exact ix_tup value slice pins s σ H x y v u Q I rx ry ⟨p, xs, i, z, e1, e2, h1, h2, q⟩ hs
  · exact ix_list value slice pins s σ H x y v u Q I rx ry ⟨p, xs, i, z, e1, e2, h1, h2, q⟩ hs
def iSeq (K : PySem.W.Frag) (tl : TE) : TI := fun σ H R => tl σ H fun x H1 => ∃ a b, x = .ref a ∧ (∃ xs, SqB b K H1 a xs) ∧ R (Itb b K a) H1
theorem pi_seq {X : Cx} {tg l : Expr} {tl : TE} (hl : PE X l tl) : PI X tg l (iSeq X.K tl) := by
  refine ⟨fun pins s σ H R I h => ?_⟩
  refine thn (hl.run pins s σ H _ I h) fun v s1 ⟨x, H1, I1, r1, q1⟩ => ?_
  obtain ⟨a, b, rfl, ⟨xs, hq⟩, q⟩ := q1
  cases r1
  have fp : ∀ {o : Obj}, ∀ c ∈ [s1.heap.objs.size], FpOk X pins H1 c := fun {o} c hc => by
    have e : c = s1.heap.objs.size := by simpa using hc
    subst e
    exact I1.fpOk (Nat.le_refl _) (I1.hok.fresh (Nat.le_refl _))
  cases b with
  | true =>
    obtain ⟨its, rv, p, hz⟩ := I1.list hq
    exact wpAny_pyIter_list p.isList ⟨s1.heap.objs.size, [s1.heap.objs.size], _, _, H1, rfl, I1.kept (t' := s1.toks) fun b o e => Heap.get?_push_of_some _ e, turn_list a _, ⟨_, Heap.get?_push_size _ rfl, rfl, rfl⟩, fp (o := default'), q⟩
  | false =>
    obtain ⟨its, rv, p, hz⟩ := I1.tuple hq
    exact wpAny_pyIter_tuple p ⟨s1.heap.objs.size, [s1.heap.objs.size], _, _, H1, rfl, I1.kept (t' := s1.toks) fun b o e => Heap.get?_push_of_some _ e, turn_tuple a _, ⟨_, Heap.get?_push_size _ rfl, rfl, rfl⟩, fp (o := default'), q⟩
where default' : Obj := { cls := .none, data := .fields #[] }
/-! ### the same where the context is a comprehension's block: K said -/
theorem ixB {X : Cx} (K : PySem.W.Frag) (hK : X.K = K := by rfl) : IxR X (rIxB K) := by
  subst hK
  exact ix_seq
theorem piB {X : Cx} (K : PySem.W.Frag) {tg l : Expr} {tl : TE} (hl : PE X l tl) (hK : X.K = K := by rfl) : PI X tg l (iSeq K tl) := by
  subst hK
  exact pi_seq hl
def rLenB (K : PySem.W.Frag) : List V → Hp → VK → Prop := fun xs H Q => ∃ b p ys, xs = [.ref p] ∧ SqB b K H p ys ∧ Q (.int (ys.length : Nat)) H
theorem lenB {X : Cx} (K : PySem.W.Frag) (hK : X.K = K := by rfl) : CallR X (.builtin "len") (rLenB K) := by
  subst hK
  intro pins s σ H xs us Q I r h
  obtain ⟨b, p, ys, e, h1, q⟩ := h
  exact call_len_seq pins s σ H xs us Q I r ⟨p, ys, e, h1.either, q⟩
def rTupB (K : PySem.W.Frag) : List V → Hp → VK → Prop := fun xs H Q => ∃ p ys, xs = [.ref p] ∧ ((SqL K H p ys ∧ ∀ l, H l = none → Q (.ref l) (upd H l (.tup ys))) ∨ (SqT K H p ys ∧ Q (.ref p) H))
theorem tupB {X : Cx} (K : PySem.W.Frag) (hK : X.K = K := by rfl) : CallR X (.type "tuple") (rTupB K) := by
  subst hK
  exact call_tuple_of
def rListB (K : PySem.W.Frag) : List V → Hp → VK → Prop := fun xs H Q => ∃ p ys, xs = [.ref p] ∧ (SqL K H p ys ∨ SqT K H p ys) ∧ ∀ l, H l = none → Q (.ref l) (upd H l (.lst ys))
theorem listB {X : Cx} (K : PySem.W.Frag) (hK : X.K = K := by rfl) : CallR X (.type "list") (rListB K) := by
  subst hK
  exact call_list_of
/-! ### walks of n known items, the heap as it stands -/
structure Wk (J : It) (n : Nat) (item : Nat → V → Prop) (ok : Nat → Hp → Prop) : Prop where
  go : ∀ i H, i < n → ok i H → J.go i H
  stop : ∀ H, ok n H → J.stop n H
  yld : ∀ i H x H', i < n → ok i H → J.yld i H x H' → H' = H ∧ item i x
theorem wk_str (x : Str) : Wk (Its x) x.cps.size (fun i v => ∃ c, x.cps[i]? = some c ∧ v = .str ⟨#[c]⟩) (fun _ _ => True) := ⟨fun _ _ h _ => h, fun _ _ => Nat.le_refl _, fun _ _ _ _ _ _ h => h⟩
theorem wk_range (lo : Int) (n : Nat) : Wk (Itr lo n) n (fun i v => v = .int (lo + i)) (fun _ _ => True) := ⟨fun _ _ h _ => h, fun _ _ => Nat.le_refl _, fun _ _ _ _ _ _ h => h⟩
theorem wk_seq (b : Bool) (K : PySem.W.Frag) (a : Addr) (xs : List V) : Wk (Itb b K a) xs.length (fun i v => xs[i]? = some v) (fun _ H => SqB b K H a xs) := by
  cases b
  · exact ⟨fun i H h q => ⟨xs, xs[i], q, List.getElem?_eq_getElem h⟩, fun H q => ⟨xs, q, Nat.le_refl _⟩, fun i H x H' h q ⟨e, y⟩ => ⟨e, y xs q⟩⟩
  · exact ⟨fun i H h q => ⟨xs, xs[i], q, List.getElem?_eq_getElem h⟩, fun H q => ⟨xs, q, Nat.le_refl _⟩, fun i H x H' h q ⟨e, y⟩ => ⟨e, y xs q⟩⟩
theorem wk_list (K : PySem.W.Frag) (a : Addr) (xs : List V) : Wk (Itl K a) xs.length (fun i v => xs[i]? = some v) (fun _ H => SqL K H a xs) := wk_seq true K a xs
section
variable {J : It} {n : Nat} {item : Nat → V → Prop} {ok : Nat → Hp → Prop}
theorem for_by (w : Wk J n item ok) {g : TG} {tb : TS} {D : Ends} {σ : L2.St} {H : Hp} (Pv : Nat → L2.St → Hp → Prop) (h0 : Pv 0 σ H) (hk : ∀ i σ H, i ≤ n → Pv i σ H → ok i H)
    (hs : ∀ i x σ H, i < n → item i x → Pv i σ H → g x σ H fun σ2 H2 => tb { D with nx := Pv (i + 1), ct := Pv (i + 1), bk := D.nx } σ2 H2) (hd : ∀ σ H, Pv n σ H → D.nx σ H) :
    ∃ W : Nat → Nat → L2.St → Hp → Prop, (∃ m, W 0 m σ H) ∧ ∀ i m σ H, W i m σ H → (J.stop i H ∧ D.nx σ H) ∨ (J.go i H ∧ ∃ N : L2.St → Hp → Prop, (∀ σ' H', N σ' H' → ∃ m', m' < m ∧ W (i + 1) m' σ' H') ∧ ∀ x H', J.yld i H x H' → g x σ H' fun σ2 H2 => tb { D with nx := N, ct := N, bk := D.nx } σ2 H2) := by
  refine ⟨fun i m σ H => i + m = n ∧ Pv i σ H, ⟨n, Nat.zero_add _, h0⟩, fun i m σ H ⟨e, p⟩ => ?_⟩
  by_cases hi : i < n
  · refine .inr ⟨w.go i H hi (hk i σ H (Nat.le_of_lt hi) p), Pv (i + 1), fun σ' H' q => ⟨m - 1, by omega, by omega, q⟩, fun x H' y => ?_⟩
    obtain ⟨rfl, y2⟩ := w.yld i H x H' hi (hk i σ H (Nat.le_of_lt hi) p) y
    exact hs i x σ _ hi y2 p
  · obtain rfl : i = n := by omega
    exact .inl ⟨w.stop H (hk i σ H (Nat.le_refl _) p), hd σ H p⟩
/-- a list comprehension without tests -/
theorem lc_by (w : Wk J n item ok) {g : TG} {te : TE} {vs : List Nat} {σ : L2.St} {H1 : Hp} {D : Addr} {Qd : Hp → Prop} (Pv : Nat → Hp → Prop) (h0 : Pv 0 (upd H1 D (.lst []))) (hk : ∀ i H, i ≤ n → Pv i H → ok i H)
    (hs : ∀ i x H, i < n → item i x → Pv i H → g x (wipe σ vs) H fun σ2 H2 => wipe σ2 vs = wipe σ vs ∧ te σ2 H2 fun y H4 => ∃ acc, H4 D = some (.lst acc) ∧ acc.length < sizeLine ∧ Pv (i + 1) (upd H4 D (.lst (acc ++ [y])))) (hd : ∀ H, Pv n H → Qd H) :
    ∃ W : Nat → Nat → Hp → Prop, (∃ m, W 0 m (upd H1 D (.lst []))) ∧ ∀ i m H, W i m H → (J.stop i H ∧ Qd H) ∨ (J.go i H ∧ ∃ Nx : Hp → Prop, (∀ H', Nx H' → ∃ m', m' < m ∧ W (i + 1) m' H') ∧ ∀ x H', J.yld i H x H' → g x (wipe σ vs) H' fun σ2 H2 => wipe σ2 vs = wipe σ vs ∧ tYes σ2 H2 fun b H3 =>
      if b = true then te σ2 H3 fun y H4 => ∃ acc, H4 D = some (.lst acc) ∧ acc.length < sizeLine ∧ Nx (upd H4 D (.lst (acc ++ [y]))) else Nx H3) := by
  refine ⟨fun i m H => i + m = n ∧ Pv i H, ⟨n, Nat.zero_add _, h0⟩, fun i m H ⟨e, p⟩ => ?_⟩
  by_cases hi : i < n
  · refine .inr ⟨w.go i H hi (hk i H (Nat.le_of_lt hi) p), Pv (i + 1), fun H' q => ⟨m - 1, by omega, by omega, q⟩, fun x H' y => ?_⟩
    obtain ⟨rfl, y2⟩ := w.yld i H x H' hi (hk i H (Nat.le_of_lt hi) p) y
    exact hs i x _ hi y2 p
  · obtain rfl : i = n := by omega
    exact .inl ⟨w.stop H (hk i H (Nat.le_refl _) p), hd H p⟩
/-- .. with tests -/
theorem lc_byT (w : Wk J n item ok) {g : TG} {tt : TT} {te : TE} {vs : List Nat} {σ : L2.St} {H1 : Hp} {D : Addr} {Qd : Hp → Prop} (Pv : Nat → Hp → Prop) (h0 : Pv 0 (upd H1 D (.lst []))) (hk : ∀ i H, i ≤ n → Pv i H → ok i H)
    (hs : ∀ i x H, i < n → item i x → Pv i H → g x (wipe σ vs) H fun σ2 H2 => wipe σ2 vs = wipe σ vs ∧ tt σ2 H2 fun b H3 => if b = true then te σ2 H3 fun y H4 => ∃ acc, H4 D = some (.lst acc) ∧ acc.length < sizeLine ∧ Pv (i + 1) (upd H4 D (.lst (acc ++ [y]))) else Pv (i + 1) H3) (hd : ∀ H, Pv n H → Qd H) :
    ∃ W : Nat → Nat → Hp → Prop, (∃ m, W 0 m (upd H1 D (.lst []))) ∧ ∀ i m H, W i m H → (J.stop i H ∧ Qd H) ∨ (J.go i H ∧ ∃ Nx : Hp → Prop, (∀ H', Nx H' → ∃ m', m' < m ∧ W (i + 1) m' H') ∧ ∀ x H', J.yld i H x H' → g x (wipe σ vs) H' fun σ2 H2 => wipe σ2 vs = wipe σ vs ∧ tt σ2 H2 fun b H3 =>
      if b = true then te σ2 H3 fun y H4 => ∃ acc, H4 D = some (.lst acc) ∧ acc.length < sizeLine ∧ Nx (upd H4 D (.lst (acc ++ [y]))) else Nx H3) := by
  refine ⟨fun i m H => i + m = n ∧ Pv i H, ⟨n, Nat.zero_add _, h0⟩, fun i m H ⟨e, p⟩ => ?_⟩
  by_cases hi : i < n
  · refine .inr ⟨w.go i H hi (hk i H (Nat.le_of_lt hi) p), Pv (i + 1), fun H' q => ⟨m - 1, by omega, by omega, q⟩, fun x H' y => ?_⟩
    obtain ⟨rfl, y2⟩ := w.yld i H x H' hi (hk i H (Nat.le_of_lt hi) p) y
    exact hs i x _ hi y2 p
  · obtain rfl : i = n := by omega
    exact .inl ⟨w.stop H (hk i H (Nat.le_refl _) p), hd H p⟩
/-- a list comprehension whose item changes nothing: f i -/
theorem lc_pure (w : Wk J n item ok) {g : TG} {te : TE} {vs : List Nat} {σ : L2.St} {H1 : Hp} {D : Addr} {Qd : Hp → Prop} (f : Nat → V) (hz : n ≤ 1000000) (hk : ∀ i acc, i ≤ n → ok i (upd H1 D (.lst acc)))
    (hs : ∀ i x acc, i < n → item i x → ∀ H, H = upd H1 D (.lst acc) → g x (wipe σ vs) H fun σ2 H2 => wipe σ2 vs = wipe σ vs ∧ te σ2 H2 fun y H4 => H4 = upd H1 D (.lst acc) ∧ y = f i) (hd : Qd (upd H1 D (.lst ((List.range n).map f))))
    (mono : ∀ σ H Q Q', (∀ v H1, Q v H1 → Q' v H1) → te σ H Q → te σ H Q') (monog : ∀ x σ H (Q Q' : L2.St → Hp → Prop), (∀ σ H1, Q σ H1 → Q' σ H1) → g x σ H Q → g x σ H Q') :
    ∃ W : Nat → Nat → Hp → Prop, (∃ m, W 0 m (upd H1 D (.lst []))) ∧ ∀ i m H, W i m H → (J.stop i H ∧ Qd H) ∨ (J.go i H ∧ ∃ Nx : Hp → Prop, (∀ H', Nx H' → ∃ m', m' < m ∧ W (i + 1) m' H') ∧ ∀ x H', J.yld i H x H' → g x (wipe σ vs) H' fun σ2 H2 => wipe σ2 vs = wipe σ vs ∧ tYes σ2 H2 fun b H3 =>
      if b = true then te σ2 H3 fun y H4 => ∃ acc, H4 D = some (.lst acc) ∧ acc.length < sizeLine ∧ Nx (upd H4 D (.lst (acc ++ [y]))) else Nx H3) := by
  refine lc_by w (fun i H => H = upd H1 D (.lst ((List.range i).map f))) rfl (fun i H hi e => by rw [e]; exact hk i _ hi) (fun i x H hi hx e => ?_) fun H e => by rw [e]; exact hd
  refine monog x _ H _ _ (fun σ2 H2 q => ⟨q.1, mono σ2 H2 _ _ (fun y H4 q => ?_) q.2⟩) (hs i x _ hi hx H e)
  obtain ⟨e4, ey⟩ := q
  refine ⟨(List.range i).map f, by rw [e4, upd_same], by rw [List.length_map, List.length_range, sizeLine_eq]; omega, ?_⟩
  rw [e4, upd_upd, List.range_succ, List.map_append, ey]
  rfl
end
/-! ### letters -/
structure Ltr (x : Str) : Prop where
  nd : x.cps.toList.Nodup
  pos : 0 < x.cps.size
  few : x.cps.size ≤ 2
theorem occ_past (x y : Str) (hi : Nat) : ∀ (l : List Nat) (st : Array Nat × Nat), 1 ≤ st.1.size → (forIn l st (StrLaws.occBody x y hi 1)).run.1 = st.1
  | [], st, _ => rfl
  | a :: l, st, h => by
    rw [List.forIn_cons]
    unfold StrLaws.occBody
    rw [if_neg (fun z => by omega)]
    exact occ_past x y hi l _ h
theorem occ_here (x y : Str) (hi k : Nat) : ∀ (n lo : Nat) (free : Nat), lo ≤ k → k < lo + n → free ≤ lo → (k + y.length ≤ hi ∧ Builtin.Str.subAt x y k = true) → (∀ j, lo ≤ j → j < k → ¬ (j + y.length ≤ hi ∧ Builtin.Str.subAt x y j = true)) →
    (forIn (List.range' lo n) ((#[] : Array Nat), free) (StrLaws.occBody x y hi 1)).run.1 = #[k]
  | 0, lo, free, h1, h2, _, _, _ => by omega
  | n + 1, lo, free, h1, h2, hf, hk, hb => by
    rw [List.range'_succ, List.forIn_cons]
    unfold StrLaws.occBody
    by_cases e : lo = k
    · subst e
      rw [if_pos ⟨⟨⟨Nat.lt_succ_self 0, hf⟩, hk.1⟩, hk.2⟩]
      exact occ_past x y hi _ _ (Nat.le_refl 1)
    · rw [if_neg (fun z => hb lo (Nat.le_refl _) (by omega) ⟨z.1.2, z.2⟩)]
      exact occ_here x y hi k n (lo + 1) free (by omega) (by omega) (by omega) hk fun j a b => hb j (by omega) b
theorem occ_at {x : Str} {c k : Nat} (hk : x.cps.toList[k]? = some c) (hb : ∀ j, j < k → x.cps.toList[j]? ≠ some c) : Builtin.Str.occurrences x ⟨#[c]⟩ 0 x.length 1 = k :: [] := by
  rw [StrLaws.occ_eq, occ_here x ⟨#[c]⟩ x.length k _ 0 0 (Nat.zero_le _) ?_ (Nat.le_refl _) ((StrLaws.subAt_one x c k).mpr hk) fun j _ h z => hb j h ((StrLaws.subAt_one x c j).mp z)]
  have := (List.getElem?_eq_some_iff.mp hk).1
  show k < 0 + (x.cps.size + 1 - 0)
  rw [Array.length_toList] at this
  omega
theorem Ltr.at {x : Str} (L : Ltr x) {c k : Nat} (hk : x.cps.toList[k]? = some c) : Builtin.Str.occurrences x ⟨#[c]⟩ 0 x.length 1 = k :: [] := occ_at hk fun j hj e => by
  have := nd_ix L.nd hk e
  omega
/-- the text of the letters' places w -/
def txt (x : Str) (w : List Nat) : Str := ⟨(w.map fun i => x.cps.toList.getD i 0).toArray⟩
def nV (n : Nat) : V := .int (n : Int)
end K46
set_option Elab.async false
set_option linter.all false
set_option maxRecDepth 100000
set_option maxHeartbeats 1600000
namespace K46
open PySem PySem.Spec PyProof.Rows L2
section
variable {P : Program} {w : World} {K : PySem.W.Frag} {mg : Str → Option Value} {base : Heap}
theorem upd_none {H : Hp} {a b : Addr} {o : HO} (h : upd H a o b = none) : H b = none ∧ b ≠ a := by
  by_cases e : b = a
  · subst e
    rw [upd_same] at h
    cases h
  · rw [upd_ne e] at h
    exact ⟨h, e⟩
/-! ### order_key -/
theorem scKey : FnScope ["letters", "text", "letter"] ["letters", "text"] (defScope (topS 6)) := C8.fnScope_by (by decide +kernel)
def spKey : Sp := fun vs H Q _ => ∃ (x : Str) (ws : List Nat), vs = [.str x, .str (txt x ws)] ∧ Ltr x ∧ (∀ i ∈ ws, i < x.cps.size) ∧ ws.length ≤ 1000 ∧
  ∀ H' p t, Same H H' → H p = none → H t = none → H' p = some (.tup [.int (ws.length : Nat), .ref t]) → H' t = some (.tup (ws.map nV)) → Q (.ref p) H'
theorem txt_size (x : Str) (ws : List Nat) : (txt x ws).cps.size = ws.length := by simp [txt]
theorem txt_len (x : Str) (ws : List Nat) : (txt x ws).length = ws.length := txt_size x ws
theorem txt_at {x : Str} {ws : List Nat} {i c : Nat} (h : (txt x ws).cps[i]? = some c) : ∃ k, ws[i]? = some k ∧ c = x.cps.toList.getD k 0 := by
  have h' : (ws.map fun i => x.cps.toList.getD i 0)[i]? = some c := by simpa [txt] using h
  rw [List.getElem?_map] at h'
  cases e : ws[i]? with
  | none => rw [e] at h'; cases h'
  | some k => rw [e] at h'; exact ⟨k, rfl, (Option.some.inj h').symm⟩
theorem ltr_get {x : Str} {k : Nat} (h : k < x.cps.size) : x.cps.toList[k]? = some (x.cps.toList.getD k 0) := by
  have h' : k < x.cps.toList.length := by rwa [Array.length_toList]
  rw [List.getD_eq_getElem?_getD, List.getElem?_eq_getElem h']
  rfl
theorem range_nV (ws : List Nat) : (List.range ws.length).map (fun i => nV (ws.getD i 0)) = ws.map nV := by
  apply List.ext_getElem?
  intro i
  rw [List.getElem?_map, List.getElem?_map]
  by_cases h : i < ws.length
  · rw [List.getElem?_range h, List.getElem?_eq_getElem h, Option.map_some, Option.map_some, List.getD_eq_getElem?_getD, List.getElem?_eq_getElem h]
    rfl
  · rw [List.getElem?_eq_none (by simpa using h), List.getElem?_eq_none (by simpa using h)]
    rfl
theorem cal_key (T : Tx K mg) : C8.Cal P w K mg base 1 "order_key" spKey [] := by
  refine cal_of T (i := 6) 0 rfl (by decide +kernel) scKey (fun _ _ _ _ _ _ us hl => match us, hl with | [_, _], _ => rfl) (fun vs H Q E h => ?_) (fun f cdv A outer s H vs Q E hr h => ?_)
  · obtain ⟨x, ws, rfl, _⟩ := h
    rfl
  · obtain ⟨x, ws, rfl, L, hw, hl, q⟩ := h
    refine ⟨_, pss_one (ps_ret (pe_tup (pa_cons (pe_callB call_len_str (by rfl) (T.b "len" (by decide +kernel)) PySem.boot_len (pa_cons (pv 1) pa_nil))
      (pa_cons (pe_callTy call_tuple_of (by rfl) (T.b "tuple" (by decide +kernel)) (by decide +kernel) (pa_cons (pe_lc (own := [("letter", 2)]) (g := gName 2) (tt := tYes) rfl scKey.nd (pi_str (pv 1)) (blkOk_by (N := ["letters", "text", "letter"]) (sc := defScope (topS 6)) (by decide +kernel))
        (fun _ _ _ _ _ => pg_name (i := 2) scKey.nd rfl (Or.inl rfl)) (fun _ _ _ _ _ => pts_nil) (fun _ _ _ _ _ => pe_m1 PySem.F.slot_str_index PySem.F.type_str_index mt_sindex (pv 0) (pv 2))) pa_nil)) pa_nil)))), ?_⟩
    refine ⟨_, rfl, _, rfl, by rw [txt_len, sizeLine_eq]; omega, ?_⟩
    refine ⟨_, rfl, _, rfl, fun D hD => lc_pure (wk_str _) (fun i => nV (ws.getD i 0)) (by rw [txt_size]; omega) (fun _ _ _ => trivial) (fun i v acc hi hv H1 e1 => ?_) ?_ (fun σ H Q Q' m q => ?_) (fun _ _ _ _ _ m q => m _ _ q)⟩
    · obtain ⟨c, hc, rfl⟩ := hv
      obtain ⟨k, hk, rfl⟩ := txt_at hc
      have hk' := hw k (List.mem_of_getElem? hk)
      refine ⟨rfl, _, rfl, ⟨_, rfl⟩, _, rfl, _, _, k, [], rfl, rfl, L.at (ltr_get hk'), e1, ?_⟩
      rw [List.getD_eq_getElem?_getD, hk]
      rfl
    · rw [txt_size, range_nV]
      refine ⟨D, _, rfl, .inl ⟨SqL.of upd_same, fun t ht => ⟨by show 2 ≤ sizeLine; decide, fun p hp => ?_⟩⟩⟩
      rw [txt_len]
      exact q _ p t (((same_upd hD).trans (same_upd ht)).trans (same_upd hp)) (upd_none (upd_none hp).1).1 (upd_none ht).1 upd_same ((upd_ne (upd_none hp).2.symm).trans upd_same)
    · obtain ⟨v, e1, ⟨a1, e2⟩, v2, e3, a, b, i, rest, h1, h2, h3, h4⟩ := q
      exact ⟨v, e1, ⟨a1, e2⟩, v2, e3, a, b, i, rest, h1, h2, h3, m _ _ h4⟩
end
end K46
set_option Elab.async false
set_option linter.all false
set_option maxRecDepth 100000
set_option maxHeartbeats 1600000
/-! counting in base k, most significant first -/
namespace K46
def vB (k : Nat) : List Nat → Nat → Nat
  | [], a => a
  | d :: r, a => vB k r (a * k + d)
theorem vB_app (k : Nat) : ∀ (u v : List Nat) (a : Nat), vB k (u ++ v) a = vB k v (vB k u a)
  | [], _, _ => rfl
  | _ :: u, v, a => vB_app k u v _
theorem vB_zero (k : Nat) : ∀ (m a : Nat), vB k (List.replicate m 0) a = a * k ^ m
  | 0, a => by simp [vB]
  | m + 1, a => by
    rw [List.replicate_succ, vB, vB_zero k m, Nat.pow_succ, Nat.add_zero, Nat.mul_assoc, Nat.mul_comm k]
theorem vB_max (k : Nat) (hk : 0 < k) : ∀ (m a : Nat), vB k (List.replicate m (k - 1)) a + 1 = (a + 1) * k ^ m
  | 0, a => by simp [vB]
  | m + 1, a => by
    have e : a * k + (k - 1) + 1 = (a + 1) * k := by rw [Nat.add_mul]; omega
    rw [List.replicate_succ, vB, vB_max k hk m, e, Nat.pow_succ, Nat.mul_assoc, Nat.mul_comm k]
theorem vB_succ (k : Nat) (hk : 0 < k) (u : List Nat) (d m : Nat) : vB k (u ++ d :: List.replicate m (k - 1)) 0 + 1 = vB k (u ++ (d + 1) :: List.replicate m 0) 0 := by
  rw [vB_app, vB_app, vB, vB, vB_max k hk, vB_zero]
  rfl
theorem vB_lin (k : Nat) : ∀ (l : List Nat) (a : Nat), vB k l a = a * k ^ l.length + vB k l 0
  | [], a => by simp [vB]
  | d :: r, a => by
    rw [vB, vB, vB_lin k r (a * k + d), vB_lin k r (0 * k + d), List.length_cons, Nat.pow_succ, Nat.zero_mul, Nat.zero_add, Nat.add_mul, Nat.mul_assoc, Nat.mul_comm k, Nat.add_assoc]
theorem vB_lt (k : Nat) : ∀ (l : List Nat), (∀ d ∈ l, d < k) → vB k l 0 < k ^ l.length
  | [], _ => by simp [vB]
  | d :: r, h => by
    have ih := vB_lt k r fun x hx => h x (List.mem_cons_of_mem _ hx)
    have hd := h d List.mem_cons_self
    rw [vB, vB_lin, List.length_cons, Nat.pow_succ, Nat.zero_mul, Nat.zero_add]
    calc d * k ^ r.length + vB k r 0 < d * k ^ r.length + k ^ r.length := Nat.add_lt_add_left ih _
      _ = (d + 1) * k ^ r.length := by rw [Nat.add_mul, Nat.one_mul]
      _ ≤ k * k ^ r.length := Nat.mul_le_mul_right _ hd
      _ = k ^ r.length * k := Nat.mul_comm _ _
theorem vB_inj (k : Nat) : ∀ (l m : List Nat), l.length = m.length → (∀ d ∈ l, d < k) → (∀ d ∈ m, d < k) → vB k l 0 = vB k m 0 → l = m
  | [], [], _, _, _, _ => rfl
  | [], _ :: _, h, _, _, _ => by cases h
  | _ :: _, [], h, _, _, _ => by cases h
  | a :: l, b :: m, h, hl, hm, e => by
    rw [vB, vB, vB_lin k l, vB_lin k m, Nat.zero_mul, Nat.zero_add, Nat.zero_add] at e
    have h' : l.length = m.length := Nat.succ.inj h
    have l1 := vB_lt k l fun x hx => hl x (List.mem_cons_of_mem _ hx)
    have l2 := vB_lt k m fun x hx => hm x (List.mem_cons_of_mem _ hx)
    rw [h'] at e l1
    have e1 : a = b := by
      rcases Nat.lt_trichotomy a b with c | c | c
      · exfalso
        have := Nat.mul_le_mul_right (k ^ m.length) (Nat.succ_le_of_lt c)
        rw [Nat.succ_mul] at this
        omega
      · exact c
      · exfalso
        have := Nat.mul_le_mul_right (k ^ m.length) (Nat.succ_le_of_lt c)
        rw [Nat.succ_mul] at this
        omega
    subst e1
    rw [vB_inj k l m h' (fun x hx => hl x (List.mem_cons_of_mem _ hx)) (fun x hx => hm x (List.mem_cons_of_mem _ hx)) (by omega)]
/-- the first words, counted -/
structure Cnt (k n : Nat) (L : List (List Nat)) : Prop where
  at_ : ∀ i w, L[i]? = some w → w.length = n ∧ (∀ d ∈ w, d < k) ∧ vB k w 0 = i
theorem Cnt.nil (k n : Nat) : Cnt k n [] := ⟨fun i w h => by simp at h⟩
theorem Cnt.snoc {k n : Nat} {L : List (List Nat)} (c : Cnt k n L) {w : List Nat} (h1 : w.length = n) (h2 : ∀ d ∈ w, d < k) (h3 : vB k w 0 = L.length) : Cnt k n (L ++ [w]) := ⟨fun i v h => by
  rcases Nat.lt_trichotomy i L.length with z | z | z
  · rw [List.getElem?_append_left z] at h
    exact c.at_ i v h
  · subst z
    rw [List.getElem?_append_right (Nat.le_refl _), Nat.sub_self] at h
    cases h
    exact ⟨h1, h2, h3⟩
  · rw [List.getElem?_eq_none (by rw [List.length_append, List.length_singleton]; omega)] at h
    cases h⟩
theorem Cnt.le {k n : Nat} {L : List (List Nat)} (c : Cnt k n L) : L.length ≤ k ^ n := by
  rcases Nat.eq_zero_or_pos L.length with z | z
  · omega
  · obtain ⟨w, hw⟩ : ∃ w, L[L.length - 1]? = some w := ⟨_, List.getElem?_eq_getElem (by omega)⟩
    obtain ⟨h1, h2, h3⟩ := c.at_ _ w hw
    have := vB_lt k w h2
    rw [h1, h3] at this
    omega
theorem Cnt.all {k n : Nat} {L : List (List Nat)} (c : Cnt k n L) (h : L.length = k ^ n) (w : List Nat) : w ∈ L ↔ w.length = n ∧ ∀ d ∈ w, d < k := by
  constructor
  · intro hw
    obtain ⟨i, hi⟩ := List.mem_iff_getElem?.mp hw
    obtain ⟨h1, h2, _⟩ := c.at_ i w hi
    exact ⟨h1, h2⟩
  · rintro ⟨h1, h2⟩
    have lt := vB_lt k w h2
    rw [h1, ← h] at lt
    obtain ⟨v, hv⟩ : ∃ v, L[vB k w 0]? = some v := ⟨_, List.getElem?_eq_getElem lt⟩
    obtain ⟨a1, a2, a3⟩ := c.at_ _ v hv
    rw [vB_inj k w v (h1.trans a1.symm) h2 a2 a3.symm]
    exact List.mem_of_getElem? hv
end K46
set_option Elab.async false
set_option linter.all false
set_option maxRecDepth 100000
set_option maxHeartbeats 1600000
namespace K46
open PySem PySem.Spec PyProof.Rows L2 GenW
/-- the whole number in slot i -/
def sI (i : Nat) (σ : L2.St) : Int := match σ[i]? with
  | some (some (V.int z)) => z
  | _ => 0
theorem getD_of {α : Type} {l : List α} {i : Nat} {x d : α} (h : l[i]? = some x) : l.getD i d = x := by
  rw [List.getD_eq_getElem?_getD, h]
  rfl
theorem joinL_nil : ∀ l : List (List Nat), TL.joinL [] l = l.flatten
  | [] => rfl
  | [p] => by simp [TL.joinL]
  | p :: q :: r => by rw [TL.joinL, joinL_nil (q :: r)]; simp
theorem join_empty {y : Str} (hy : y = ⟨#[]⟩) (ws : List Nat) (f : Nat → Nat) : Txt.join y (ws.map fun i => ⟨#[f i]⟩) = ⟨(ws.map f).toArray⟩ := by
  subst hy
  rw [TL.join_eq]
  have e := TL.tl_join ⟨#[]⟩ (ws.map fun i => (⟨#[f i]⟩ : Str))
  have e1 : (TL.tl (⟨#[]⟩ : Str)) = [] := rfl
  rw [e1, joinL_nil, List.map_map] at e
  have e2 : (ws.map (TL.tl ∘ fun i => (⟨#[f i]⟩ : Str))).flatten = ws.map f := by
    clear e
    induction ws with
    | nil => rfl
    | cons a ws ih => rw [List.map_cons, List.flatten_cons, ih]; rfl
  rw [e2] at e
  have e3 : (Str.join ⟨#[]⟩ (ws.map fun i => (⟨#[f i]⟩ : Str))).cps = (ws.map f).toArray := by
    apply Array.ext'
    have e4 : (Str.join ⟨#[]⟩ (ws.map fun i => (⟨#[f i]⟩ : Str))).cps.toList = ws.map f := e
    rw [e4]
  cases z : Str.join ⟨#[]⟩ (ws.map fun i => (⟨#[f i]⟩ : Str)) with
  | mk c => rw [z] at e3; exact congrArg Str.mk e3
section
variable {P : Program} {w : World} {K : PySem.W.Frag} {mg : Str → Option Value} {base : Heap}
/-! ### texts_of -/
theorem scTexts : GScope ["letters", "length", "places", "at", "_", "place"] ["letters", "length"] (defScope (topS 7)) := ⟨rfl, rfl, rfl, by decide +kernel, rfl, by decide +kernel, by decide +kernel⟩
def spTexts : SpX := fun vs pre Q => ∃ (x : Str) (n : Nat), vs = [.str x, .int (n : Nat)] ∧ Ltr x ∧ n ≤ 10 ∧ pre.length + x.cps.size ^ n < 1000000 ∧ ∀ L : List (List Nat), L.length = x.cps.size ^ n → (∀ v, v ∈ L ↔ v.length = n ∧ ∀ d ∈ v, d < x.cps.size) → Q (pre ++ L.map fun v => .str (txt x v))
abbrev bodyTexts : List Stmt := defBody (topS 7)
theorem sum_ones (ws : List Nat) (f : Nat → Str) (h : ∀ i, (f i).length = 1) : ((ws.map f).map (·.length)).sum = ws.length := by
  induction ws with
  | nil => rfl
  | cons a ws ih => rw [List.map_cons, List.map_cons, List.sum_cons, ih, h, List.length_cons]; omega
theorem cal_texts (T : Tx K mg) : CalG P w K mg base 1 "texts_of" spTexts := by
  obtain ⟨fd, F⟩ := T.fn (mkD "texts_of" 7) (List.mem_of_getElem? (show fn[1]? = some (mkD "texts_of" 7) from rfl))
  have bn : Binds K fd ["letters", "length"] [] := F.bindsN fun _ _ _ _ _ _ us hl => match us, hl with | [_, _], _ => rfl
  obtain ⟨oc, od, dV, kV, doc, pm, an, cdv, ct, osl, rfl, lk, hcd, _, _⟩ := F.ex
  refine ⟨_, _, ["letters", "length"], gfx_of lk hcd scTexts (fun vs pre Q h => ?_) (fun A outer s vs pre Q S C pn hr h => ?_), T.g "texts_of" (by decide +kernel), F.kp, bn⟩
  · obtain ⟨x, n, rfl, _⟩ := h
    rfl
  · obtain ⟨x, n, rfl, L', hn, hroom, q⟩ := h
    have kp := L'.pos
    refine ⟨_, gx_cons (gx_one (ps_setLc (i := 2) (own := [("_", 4)]) (g := gName 4) (tt := tYes) rfl scTexts.nd rfl rfl (sw_true rfl rfl rfl (by decide +kernel)) (pi_range1 (by rfl) (T.b "range" (by decide +kernel)) (pa_cons (pv 1) pa_nil)) (blkOk_by (N := ["letters", "length", "places", "at", "_", "place"]) (sc := defScope (topS 7)) (by decide +kernel))
        (fun _ _ _ _ _ => pg_name (i := 4) scTexts.nd rfl (Or.inl rfl)) (fun _ _ _ _ _ => pts_nil) (fun _ _ _ _ _ => pe_int)))
      (gx_cons (gx_while (pt_val pe_bl)
        (gx_cons (gx_yield (pe_join pe_str (pe_lc (own := [("place", 5)]) (g := gName 5) (tt := tYes) rfl scTexts.nd (pi_list (pv 2)) (blkOk_by (N := ["letters", "length", "places", "at", "_", "place"]) (sc := defScope (topS 7)) (by decide +kernel))
            (fun _ _ _ _ _ => pg_name (i := 5) scTexts.nd rfl (Or.inl rfl)) (fun _ _ _ _ _ => pts_nil) (fun _ _ _ _ _ => pe_ix ix_str (pv 0) (pv 5) (fun _ _ => rfl)))))
          (gx_all (pss_cons (ps_set (i := 3) scTexts.nd rfl (.inl rfl) (pe_op op_sub (pv 1) pe_int))
            (pss_cons (ps_while PassesOwn.never (PW.pt (pw_and (pt_cmpR op_ge (pv 3) pe_int (nomark _)) (pw_and1 (pt_cmpR op_eq (pe_ix ix_list (pv 2) (pv 3) (fun _ _ => rfl)) (pe_op op_sub (pe_callB call_len_str (by rfl) (T.b "len" (by decide +kernel)) PySem.boot_len (pa_cons (pv 0) pa_nil)) pe_int) (nomark _)))))
              (pss_cons (ps_asg pe_int (pg_sub (pv 2) (pv 3) set_list)) (pss_one (ps_set (i := 3) scTexts.nd rfl (.inl rfl) (pe_op op_sub (pv 3) pe_int)))))
            (pss_cons (ps_if (pt_cmpR op_lt (pv 3) pe_int (nomark _)) (pss_one ps_retN) pss_nil)
            (pss_one (ps_asg (pe_op op_add (pe_ix ix_list (pv 2) (pv 3) (fun _ _ => rfl)) pe_int) (pg_sub (pv 2) (pv 3) set_list))))))))) (gx_all pss_nil)), ?_⟩
    -- places = [0 for _ in range(length)]
    refine ⟨.int (n : Int), rfl, _, rfl, by omega, by omega, fun D hD => lc_pure (wk_range 0 _) (fun _ => nV 0) (by omega) (fun _ _ _ => trivial) (fun i v acc hi hv H1 e1 => ⟨rfl, e1, rfl⟩) ?_ (fun σ H Q Q' m q => m _ _ q) (fun _ _ _ _ _ m q => m _ _ q)⟩
    -- while True
    refine ⟨fun m ys σ H1 => ∃ (L : List (List Nat)) (v : List Nat) (a3 : Option V), Cnt x.cps.size n L ∧ L.length + m = x.cps.size ^ n ∧ 0 < m ∧ v.length = n ∧ (∀ d ∈ v, d < x.cps.size) ∧ vB x.cps.size v 0 = L.length ∧ ys = pre ++ L.map (fun v => V.str (txt x v)) ∧
        σ = [some (.str x), some (.int (n : Nat)), some (.ref D), a3, none, none] ∧ H1 D = some (.lst (v.map nV)),
      ⟨x.cps.size ^ n, [], List.replicate n 0, none, .nil _ _, by simp, Nat.pow_pos kp, by simp, fun d hd => by rw [(List.mem_replicate.mp hd).2]; exact kp, by rw [vB_zero]; simp, by simp, rfl, ?_⟩, fun m ys σ H1 hW => ?_⟩
    · rw [upd_same]
      show some (HO.lst ((List.range ((n : Int)).toNat).map fun _ => nV 0)) = _
      rw [Int.toNat_natCast, List.map_const', List.length_range, List.map_replicate]
    · obtain ⟨L, v, a3, hc, hm, m0, hv, hd, hval, rfl, rfl, hp⟩ := hW
      have kle := hc.le
      refine ⟨true, rfl, iteT ⟨fun ys σ H1 => ∃ (v' : List Nat) (a3 : Option V), L.length + 1 < x.cps.size ^ n ∧ v'.length = n ∧ (∀ d ∈ v', d < x.cps.size) ∧ vB x.cps.size v' 0 = L.length + 1 ∧ ys = pre ++ (L ++ [v]).map (fun v => V.str (txt x v)) ∧
        σ = [some (.str x), some (.int (n : Nat)), some (.ref D), a3, none, none] ∧ H1 D = some (.lst (v'.map nV)), fun ys' σ' H' hN => ?_, ?_⟩⟩
      · obtain ⟨v', a3, h1, h2, h3, h4, h5, h6, h7⟩ := hN
        refine ⟨m - 1, by omega, L ++ [v], v', a3, hc.snoc hv hd hval, ?_, by omega, h2, h3, ?_, h5, h6, h7⟩
        · rw [List.length_append, List.length_singleton]
          omega
        · rw [h4, List.length_append, List.length_singleton]
      · -- yield
        refine ⟨by rw [List.length_append, List.length_map, sizeLine_eq]; omega, ⟨_, rfl⟩, _, rfl, D, rfl, ⟨_, SqL.of hp⟩, fun E hE => lc_pure (wk_list _ _ (v.map nV)) (fun i => .str ⟨#[x.cps.toList.getD (v.getD i 0) 0]⟩) (by rw [List.length_map]; omega) (fun i acc _ => SqL.of ?_) (fun i u acc hi hu H2 e2 => ?_) ?_ (fun σ H Q Q' m q => ?_) (fun _ _ _ _ _ m q => m _ _ q)⟩
        · rw [upd_ne (ne_of_none hp hE)]
          exact hp
        · rw [List.length_map] at hi
          rw [List.getElem?_map, List.getElem?_eq_getElem hi] at hu
          cases hu
          have hk := hd v[i] (List.getElem_mem hi)
          refine ⟨rfl, _, rfl, _, rfl, _, _, x.cps.toList.getD v[i] 0, rfl, rfl, ?_, atI_nat (ltr_get hk), e2, ?_⟩
          · have := L'.few
            show x.cps.size ≤ sizeLine
            rw [sizeLine_eq]
            omega
          · rw [getD_of (List.getElem?_eq_getElem hi)]
        · have ew : (List.range (v.map nV).length).map (fun i => V.str ⟨#[x.cps.toList.getD (v.getD i 0) 0]⟩) = (v.map fun i => (⟨#[x.cps.toList.getD i 0]⟩ : Str)).map V.str := by
            rw [List.length_map, List.map_map]
            apply List.ext_getElem?
            intro i
            rw [List.getElem?_map, List.getElem?_map]
            by_cases h : i < v.length
            · rw [List.getElem?_range h, List.getElem?_eq_getElem h, Option.map_some, Option.map_some, getD_of (List.getElem?_eq_getElem h)]
              rfl
            · rw [List.getElem?_eq_none (by simpa using h), List.getElem?_eq_none (by simpa using h)]
              rfl
          rw [ew]
          refine ⟨_, E, _, rfl, rfl, .inl (SqL.of upd_same), ?_, ?_⟩
          · rw [sum_ones _ _ fun _ => rfl, List.length_map]
            show v.length + v.length * 0 ≤ 16777216
            omega
          rw [show Txt.join (Str.ofString "") (v.map fun i => (⟨#[x.cps.toList.getD i 0]⟩ : Str)) = txt x v from join_empty (y := Str.ofString "") rfl v fun i => x.cps.toList.getD i 0]
          have ep : (upd H1 E (.lst ((v.map fun i => (⟨#[x.cps.toList.getD i 0]⟩ : Str)).map V.str))) D = some (.lst (v.map nV)) := (upd_ne (ne_of_none hp hE)).trans hp
          generalize upd H1 E (.lst ((v.map fun i => (⟨#[x.cps.toList.getD i 0]⟩ : Str)).map V.str)) = H3 at ep
          -- at = length - 1
          refine ⟨_, rfl, _, _, rfl, rfl, ?_⟩
          -- the inner loop
          refine while_by (fun σ H => ∃ (u : List Nat) (r : Nat), v = u ++ List.replicate r (x.cps.size - 1) ∧ σ = [some (.str x), some (.int (n : Nat)), some (.ref D), some (.int ((u.length : Int) - 1)), none, none] ∧ H D = some (.lst ((u ++ List.replicate r 0).map nV)))
            (fun σ _ => (sI 3 σ + 1).toNat) ⟨v, 0, by simp, by rw [hv]; rfl, by simpa using ep⟩ (fun σ H hP => ?_) (fun σ H Q Q' m q => ?_)
          · obtain ⟨u, r, ev, rfl, hp2⟩ := hP
            refine ⟨_, rfl, _, _, rfl, rfl, _, rfl, ite2 (fun c0 => ?_) fun c0 => ?_⟩
            · have c1 : (0 : Int) ≤ (u.length : Int) - 1 := of_decide_eq_true c0
              obtain ⟨u, d, rfl⟩ : ∃ u' d, u = u' ++ [d] := by
                refine ⟨u.dropLast, u.getLast (fun z => by subst z; simp at c1), (List.dropLast_concat_getLast _).symm⟩
              have el : ((u ++ [d]).length : Int) - 1 = (u.length : Int) := by rw [List.length_append, List.length_singleton]; omega
              have gd : (((u ++ [d]) ++ List.replicate r 0).map nV)[u.length]? = some (nV d) := by
                rw [List.getElem?_map, List.append_assoc, List.getElem?_append_right (Nat.le_refl _), Nat.sub_self]
                rfl
              have hdk : d < x.cps.size := hd d (by rw [ev]; simp)
              rw [el]
              refine ⟨_, rfl, _, rfl, D, _, _, _, rfl, rfl, SqL.of hp2, atI_nat gd, _, rfl, _, rfl, (by show x.cps.size ≤ sizeLine; have := L'.few; rw [sizeLine_eq]; omega), _, _, rfl, rfl, rfl, _, rfl, ite2 (fun c2 => ?_) fun c2 => ?_⟩
              · have c3 : d = x.cps.size - 1 := by
                  have z : nV d = V.int (((x.length : Nat) : Int) - 1) := of_decide_eq_true c2
                  have z2 : (d : Int) = ((x.cps.size : Nat) : Int) - 1 := V.int.inj z
                  omega
                refine ⟨_, rfl, _, rfl, D, _, _, u.length, rfl, rfl, hp2, ?_, ?_⟩
                · have e0 : (0 : Int) ≤ (u.length : Int) := Int.natCast_nonneg _
                  unfold ixN
                  rw [if_pos e0, if_pos (by rw [List.length_map, List.length_append, List.length_append, List.length_singleton]; omega), Int.toNat_natCast]
                refine ⟨_, rfl, _, _, rfl, rfl, ?_⟩
                refine ⟨⟨u, r + 1, ?_, rfl, ?_⟩, ?_⟩
                · rw [ev, c3, List.append_assoc, List.replicate_succ]
                  rfl
                · rw [upd_same, List.append_assoc, List.map_append, List.set_append_right _ _ (by rw [List.length_map]; exact Nat.le_refl _), List.length_map, Nat.sub_self, List.map_append]
                  simp [List.map_append, List.replicate_succ, nV]
                · show ((u.length : Int) - 1 + 1).toNat < (((u.length : Int)) + 1).toNat
                  omega
              · -- the place found
                have c3 : d + 1 < x.cps.size := by
                  have z : ¬ (nV d = V.int (((x.length : Nat) : Int) - 1)) := fun z => c2 (decide_eq_true z)
                  have z2 : ¬ ((d : Int) = ((x.cps.size : Nat) : Int) - 1) := fun y => z (by show V.int _ = V.int _; exact congrArg V.int y)
                  omega
                refine ⟨_, rfl, _, _, rfl, rfl, _, rfl, ite2 (fun c4 => ?_) fun c4 => ?_⟩
                · have c5 : (u.length : Int) < 0 := of_decide_eq_true c4
                  omega
                refine ⟨_, rfl, _, rfl, D, _, _, _, rfl, rfl, SqL.of hp2, atI_nat gd, _, _, rfl, rfl, _, rfl, _, rfl, D, _, _, u.length, rfl, rfl, hp2, ?_, ?_⟩
                · have e0 : (0 : Int) ≤ (u.length : Int) := Int.natCast_nonneg _
                  unfold ixN
                  rw [if_pos e0, if_pos (by rw [List.length_map, List.length_append, List.length_append, List.length_singleton]; omega), Int.toNat_natCast]
                have ev2 : v = u ++ d :: List.replicate r (x.cps.size - 1) := by rw [ev, List.append_assoc]; rfl
                have hs := vB_succ x.cps.size kp u d r
                rw [← ev2, hval] at hs
                have lv : (u ++ (d + 1) :: List.replicate r 0).length = n := by
                  rw [← hv, ev2]
                  simp
                have dv : ∀ e ∈ u ++ (d + 1) :: List.replicate r 0, e < x.cps.size := fun e he => by
                  rcases List.mem_append.mp he with z | z
                  · exact hd e (by rw [ev2]; exact List.mem_append_left _ z)
                  · rcases List.mem_cons.mp z with z | z
                    · omega
                    · rw [(List.mem_replicate.mp z).2]
                      exact kp
                have lt := vB_lt x.cps.size _ dv
                rw [lv, ← hs] at lt
                refine ⟨u ++ (d + 1) :: List.replicate r 0, _, lt, lv, dv, hs.symm, by rw [List.map_append, List.append_assoc]; rfl, rfl, ?_⟩
                rw [upd_same, List.append_assoc, List.map_append, List.set_append_right _ _ (by rw [List.length_map]; exact Nat.le_refl _), List.length_map, Nat.sub_self, List.map_append]
                simp [List.map_append, List.replicate_succ, nV]
            · have c1 : u = [] := by
                have : ¬ (0 : Int) ≤ (u.length : Int) - 1 := fun z => c0 (decide_eq_true z)
                cases u with
                | nil => rfl
                | cons a b => exact absurd (by rw [List.length_cons]; omega) this
              subst c1
              refine iteF ⟨_, rfl, _, _, rfl, rfl, _, rfl, ite2 (fun c4 => ⟨rfl, ?_⟩) fun c4 => absurd (decide_eq_true (by show (0 : Int) - 1 < 0; omega)) c4⟩
              have er : r = n := by
                have := congrArg List.length ev
                rw [hv] at this
                simpa using this.symm
              have hm := vB_max x.cps.size kp r 0
              have ev3 : v = List.replicate r (x.cps.size - 1) := ev
              rw [← ev3, hval, er] at hm
              have fin := hc.snoc hv hd hval
              have lf : (L ++ [v]).length = x.cps.size ^ n := by rw [List.length_append, List.length_singleton]; omega
              have := q (L ++ [v]) lf (fin.all lf)
              rw [List.map_append, ← List.append_assoc] at this
              exact this
          · obtain ⟨v1, e1, i, j, h1, h2, b, h3, h4⟩ := q
            refine ⟨v1, e1, i, j, h1, h2, b, h3, ?_⟩
            cases b with
            | false => exact m _ _ h4
            | true =>
              obtain ⟨v1, e1, v2, e2, p, xs, i, v3, e3, e4, e5, e6, v4, e7, z, e8, e9, i2, j2, e10, e11, e12, b, e13, e14⟩ := h4
              exact ⟨v1, e1, v2, e2, p, xs, i, v3, e3, e4, e5, e6, v4, e7, z, e8, e9, i2, j2, e10, e11, e12, b, e13, m _ _ e14⟩
        · obtain ⟨v1, e1, v2, e2, h⟩ := q
          exact ⟨v1, e1, v2, e2, by
            obtain ⟨z, i, c, h1, h2, h3, h4, h5⟩ := h
            exact ⟨z, i, c, h1, h2, h3, h4, m _ _ h5⟩⟩
end
end K46
set_option Elab.async false
set_option linter.all false
set_option maxRecDepth 100000
set_option maxHeartbeats 1600000
namespace K46
open PySem PySem.Spec PyProof.Rows L2
/-! ### machines -/
structure Mach where
  acc : List Bool
  tab : List (List Nat)
structure Wf (k : Nat) (M : Mach) : Prop where
  len : M.tab.length = M.acc.length
  pos : 0 < M.acc.length
  row : ∀ r ∈ M.tab, r.length = k ∧ ∀ q ∈ r, q < M.acc.length
  few : M.acc.length ≤ 1000
def TabK (b : Bool) (K : PySem.W.Frag) (H : Hp) (t : Addr) (tab : List (List Nat)) : Prop := ∃ rs : List Addr, SqB b K H t (rs.map V.ref) ∧ rs.length = tab.length ∧ ∀ (i : Nat) (r : Addr) (row : List Nat), rs[i]? = some r → tab[i]? = some row → SqB b K H r (row.map nV)
theorem TabK.same {b : Bool} {K : PySem.W.Frag} {H H' : Hp} {t : Addr} {tab : List (List Nat)} (s : Same H H') (h : TabK b K H t tab) : TabK b K H' t tab := by
  obtain ⟨rs, h1, h2, h3⟩ := h
  exact ⟨rs, h1.same s, h2, fun i r row e1 e2 => (h3 i r row e1 e2).same s⟩
def MachK (K : PySem.W.Frag) (H : Hp) (p : Addr) (x : Str) (M : Mach) : Prop := ∃ dx a t, H p = some (.ins (He.ga K "Machine") dx [("letters", .str x), ("accepting", .ref a), ("table", .ref t)]) ∧ SqB false K H a (M.acc.map V.bl) ∧ TabK false K H t M.tab
theorem MachK.same {K : PySem.W.Frag} {H H' : Hp} {p : Addr} {x : Str} {M : Mach} (s : Same H H') (h : MachK K H p x M) : MachK K H' p x M := by
  obtain ⟨dx, a, t, h1, h2, h3⟩ := h
  exact ⟨dx, a, t, s _ _ h1, h2.same s, h3.same s⟩
section
variable {P : Program} {w : World} {K : PySem.W.Frag} {mg : Str → Option Value} {base : Heap}
/-- a def or a method, by its body -/
theorem fnk_of (T : Tx K mg) {d : He.DefD} {N ps : List Str} {k : Nat} {sp : Sp} (hd : d ∈ fn) (S : FnScope N ps d.scope)
    (hb : ∀ (kV doc pm : Value) (an : Option Addr) (cdv ct : Value) (us : List Value), us.length = ps.length → bindArgs (PySem.W.fnOf d.name d.qual d.params d.body d.scope .none kV doc pm an cdv ct) ⟨us, []⟩ = pure (ps.zip us))
    (len : ∀ vs H Q E, sp vs H Q E → vs.length = ps.length)
    (hbody : ∀ (f : Addr) (cdv : Value) (A : Around) (outer : List Env) (s : Shared) (H : Hp) (vs : List V) (Q : VK) (E : XK), Room k (A.deeper (envOfC d.qual d.scope s.heap.objs.size f cdv)) → sp vs H Q E →
      ∃ t, PSs (cxOf CX0 P w K mg base N d.qual d.scope f cdv A outer s H E).nox d.body t ∧ t { nx := fun _ H' => Q .non H', rt := Q } (start N vs) H) :
    ∃ fd, FnOk P w K mg base CX0 (k + 1) (He.fAd K d.at_) fd ps sp ∧ Binds K fd ps [] := by
  obtain ⟨fd, F⟩ := T.fn d hd
  refine ⟨fd, FunD.ok F S len fun cdv A outer s H vs Q E hr h => ?_, F.bindsN hb⟩
  obtain ⟨t, h1, h2⟩ := hbody _ cdv A outer s H vs Q E hr h
  exact ⟨t, h1.nox, h2⟩
/-! ### Machine._is_whole -/
theorem scWhole : FnScope ["self", "many", "row", "state"] ["self"] (defScope (inClass (topS 9) 1)) := C8.fnScope_by (by decide +kernel)
def spWhole (K : PySem.W.Frag) : Sp := fun vs H Q _ => ∃ (p : Addr) (x : Str) (M : Mach), vs = [.ref p] ∧ MachK K H p x M ∧ Wf x.cps.size M ∧ x.cps.size ≤ 1000 ∧ ∀ H', Same H H' → Q (.bl true) H'
theorem len_seqB {X : Cx} : CallR X (.builtin "len") (fun xs H Q => ∃ b p ys, xs = [.ref p] ∧ SqB b X.K H p ys ∧ Q (.int ys.length) H) := by
  intro pins s σ H xs us Q I r h
  obtain ⟨b, p, ys, e, h1, q⟩ := h
  exact call_len_seq pins s σ H xs us Q I r ⟨p, ys, e, h1.either, q⟩
theorem ok_whole (T : Tx K mg) : ∃ fd, FnOk P w K mg base CX0 1 (He.ma K (He.ga K "Machine") "_is_whole") fd ["self"] (spWhole K) ∧ Binds K fd ["self"] [] := by
  refine fnk_of T (d := mkM "Machine" "_is_whole" "Machine._is_whole" 9 1) (List.mem_of_getElem? (show fn[3]? = some _ from rfl)) scWhole (fun _ _ _ _ _ _ us hl => match us, hl with | [_], _ => rfl) (fun vs H Q E h => ?_) (fun f cdv A outer s H vs Q E hr h => ?_)
  · obtain ⟨p, x, M, rfl, _⟩ := h
    rfl
  · obtain ⟨p, x, M, rfl, hM, W, hx, q⟩ := h
    refine ⟨_, pss_cons (ps_set (i := 1) scWhole.nd rfl (.inr rfl) (pe_callB len_seqB (by rfl) (T.b "len" (by decide +kernel)) PySem.boot_len (pa_cons (pe_fld (pv 0) rfl) pa_nil)))
      (pss_cons (ps_if (PW.pt (pw_or (pt_cmpR op_eq (pv 1) pe_int (nomark _)) (pw_or1 (pt_cmpR op_ne (pe_callB len_seqB (by rfl) (T.b "len" (by decide +kernel)) PySem.boot_len (pa_cons (pe_fld (pv 0) rfl) pa_nil)) (pv 1) (nomark _))))) (pss_one (ps_ret pe_bl)) pss_nil)
      (pss_cons (ps_for PassesOwn.never rfl (pi_seq (pe_fld (pv 0) rfl)) (pg_name (i := 2) scWhole.nd rfl (.inl rfl))
        (pss_one (ps_if (PW.pt (pw_or (pt_cmpR op_ne (pe_callB len_seqB (by rfl) (T.b "len" (by decide +kernel)) PySem.boot_len (pa_cons (pv 2) pa_nil)) (pe_callB call_len_str (by rfl) (T.b "len" (by decide +kernel)) PySem.boot_len (pa_cons (pe_fld (pv 0) rfl) pa_nil)) (nomark _))
          (pw_or1 (pt_not (pt_val (pe_callB (cr_all rfl) (by rfl) (T.b "all" (by decide +kernel)) (by decide +kernel) (pa_cons (pe_lc (own := [("state", 3)]) (g := gName 3) (tt := tYes) rfl scWhole.nd (pi_seq (pv 2)) (blkOk_by (N := ["self", "many", "row", "state"]) (sc := defScope (inClass (topS 9) 1)) (by decide +kernel))
            (fun _ _ _ _ _ => pg_name (i := 3) scWhole.nd rfl (Or.inl rfl)) (fun _ _ _ _ _ => pts_nil) (fun _ _ _ _ _ => pe_chain op_le op_lt pe_int (pv 3) (pv 1))) pa_nil))))))) (pss_one (ps_ret pe_bl)) pss_nil)))
      (pss_one (ps_ret pe_bl)))), ?_⟩
    obtain ⟨dx, a, t, hp, ha, ht⟩ := id hM
    have fl : ∀ {H1 : Hp}, Same H H1 → H1 p = some (.ins (He.ga K "Machine") dx [("letters", .str x), ("accepting", .ref a), ("table", .ref t)]) := fun s => s _ _ hp
    obtain ⟨rs, h1, h2, h3⟩ := ht
    refine ⟨_, rfl, _, _, _, _, _, rfl, hp, T.cl, T.nA, rfl, false, _, _, rfl, ha, ?_⟩
    rw [List.length_map]
    refine ⟨_, rfl, rfl, _, rfl, ite2 (fun c => ?_) fun _ => ?_⟩
    · have c1 : (M.acc.length : Int) = 0 := V.int.inj (of_decide_eq_true c)
      have := W.pos
      omega
    refine ⟨_, rfl, _, _, _, _, _, rfl, hp, T.cl, T.nT, rfl, false, _, _, rfl, h1, _, rfl, rfl, _, rfl, ?_⟩
    have ne0 : (!decide (V.int ((rs.map V.ref).length : Nat) = V.int (M.acc.length : Nat))) = false := by
      rw [List.length_map, h2, W.len, decide_eq_true rfl]
      rfl
    rw [ne0]
    refine iteF ⟨_, rfl, _, _, _, _, _, rfl, hp, T.cl, T.nT, rfl, t, false, rfl, ⟨_, h1⟩, for_by (wk_seq false K t _) (fun i σ H1 => Same H H1 ∧ ∃ y2, σ = [some (.ref p), some (.int (M.acc.length : Nat)), y2, none]) ⟨Same.refl H, none, rfl⟩ (fun i σ H1 _ hP => h1.same hP.1) (fun i v σ H1 hi hv hP => ?_) (fun σ H1 hP => q H1 hP.1)⟩
    obtain ⟨s1, y2, rfl⟩ := hP
    rw [List.length_map] at hi
    rw [List.getElem?_map, List.getElem?_eq_getElem hi] at hv
    cases hv
    have hi2 : i < M.tab.length := by omega
    have hrow := h3 i _ _ (List.getElem?_eq_getElem hi) (List.getElem?_eq_getElem hi2)
    obtain ⟨w1, w2⟩ := W.row _ (List.getElem_mem hi2)
    generalize M.tab[i] = row at hrow w1 w2
    generalize rs[i] = r at hrow
    refine ⟨_, rfl, false, _, _, rfl, hrow.same s1, _, rfl, _, _, _, _, _, rfl, fl s1, T.cl, T.nL, rfl, _, rfl, by show x.cps.size ≤ sizeLine; rw [sizeLine_eq]; omega, rfl, _, rfl, ?_⟩
    have ne1 : (!decide (V.int ((row.map nV).length : Nat) = V.int (x.length : Nat))) = false := by
      rw [List.length_map, w1, show x.length = x.cps.size from rfl, decide_eq_true rfl]
      rfl
    rw [ne1]
    refine iteF ⟨_, rfl, r, false, rfl, ⟨_, hrow.same s1⟩, fun D hD => lc_pure (wk_seq false K r (row.map nV)) (fun _ => .bl true) ?_ (fun i acc _ => ?_) (fun j u acc hj hu H2 e2 => ?_) ?_ (fun σ H Q Q' m q => ?_) (fun _ _ _ _ _ m q => m _ _ q)⟩
    · rw [List.length_map]
      omega
    · exact (hrow.same s1).same (same_upd hD)
    · rw [List.length_map] at hj
      rw [List.getElem?_map, List.getElem?_eq_getElem hj] at hu
      cases hu
      have hlt := w2 _ (List.getElem_mem hj)
      refine ⟨rfl, _, rfl, _, _, rfl, rfl, true, congrArg V.bl (decide_eq_true (Int.natCast_nonneg _)), iteT ⟨_, rfl, _, _, rfl, rfl, e2, ?_⟩⟩
      show V.bl (decide ((row[j] : Int) < (M.acc.length : Int))) = .bl true
      rw [decide_eq_true (by omega)]
    · refine ⟨D, List.replicate row.length true, rfl, SqL.of ?_, true, ?_, ?_⟩
      · rw [upd_same, List.length_map, List.map_const', List.length_range, List.map_replicate]
      · simp
      · exact iteF ⟨s1.trans (same_upd hD), _, rfl⟩
    · obtain ⟨v1, e1, i, j, h1, h2, b, h3, h4⟩ := q
      refine ⟨v1, e1, i, j, h1, h2, b, h3, ?_⟩
      cases b with
      | false => exact m _ _ h4
      | true =>
        obtain ⟨v2, e2, i, j, h5, h6, h7⟩ := h4
        exact ⟨v2, e2, i, j, h5, h6, m _ _ h7⟩
end
end K46
set_option Elab.async false
set_option linter.all false
set_option maxRecDepth 100000
set_option maxHeartbeats 1600000
namespace K46
open PySem PySem.Spec PyProof.Rows L2
/-- all but p stands -/
def SameB (p : Addr) (H H' : Hp) : Prop := ∀ b o, b ≠ p → H b = some o → H' b = some o
theorem SameB.of {p : Addr} {H H' : Hp} (s : Same H H') : SameB p H H' := fun b o _ e => s b o e
theorem SameB.trans {p : Addr} {H H1 H2 : Hp} (a : SameB p H H1) (b : SameB p H1 H2) : SameB p H H2 := fun c o n e => b c o n (a c o n e)
theorem sameB_upd {p : Addr} {H : Hp} {o : HO} : SameB p H (upd H p o) := fun b u n e => by rw [upd_ne n]; exact e
theorem sameB_new {p q : Addr} {H : Hp} {o : HO} (h : H q = none) : SameB p H (upd H q o) := .of (same_upd h)
theorem SqB.sameB {b : Bool} {K : PySem.W.Frag} {H H' : Hp} {p a : Addr} {xs : List V} {u : HO} (hp : H p = some u) (nu : (∀ xs, u ≠ .lst xs) ∧ (∀ xs, u ≠ .tup xs) ∧ ∀ o v, u ≠ .frz o v) (s : SameB p H H') (h : SqB b K H a xs) : SqB b K H' a xs := by
  have ne : ∀ {o : HO}, H a = some o → o ≠ u → a ≠ p := fun e n z => n (by rw [z, hp] at e; exact (Option.some.inj e).symm)
  cases b with
  | true =>
    rcases h with (h | ⟨o, h⟩) | h
    · exact .inl (.inl (s _ _ (ne h fun z => nu.1 _ z.symm) h))
    · exact .inl (.inr ⟨o, s _ _ (ne h fun z => nu.2.2 _ _ z.symm) h⟩)
    · exact .inr h
  | false =>
    rcases h with (h | ⟨o, h⟩) | h
    · exact .inl (.inl (s _ _ (ne h fun z => nu.2.1 _ z.symm) h))
    · exact .inl (.inr ⟨o, s _ _ (ne h fun z => nu.2.2 _ _ z.symm) h⟩)
    · exact .inr h
theorem ins_nu {C dx : Addr} {fs : List (Str × V)} : (∀ xs, (HO.ins C dx fs) ≠ .lst xs) ∧ (∀ xs, (HO.ins C dx fs) ≠ .tup xs) ∧ ∀ o v, (HO.ins C dx fs) ≠ .frz o v := ⟨fun _ z => (by cases z), fun _ z => (by cases z), fun _ _ z => (by cases z)⟩
section
variable {P : Program} {w : World} {K : PySem.W.Frag} {mg : Str → Option Value} {base : Heap}
theorem scInit : FnScope ["self", "letters", "accepting", "table", "row"] ["self", "letters", "accepting", "table"] (defScope (inClass (topS 9) 0)) := C8.fnScope_by (by decide +kernel)
def spInit (K : PySem.W.Frag) : Sp := fun vs H Q _ => ∃ (p dx a t : Addr) (x : Str) (M : Mach), vs = [.ref p, .str x, .ref a, .ref t] ∧ H p = some (.ins (He.ga K "Machine") dx []) ∧ SqB true K H a (M.acc.map V.bl) ∧ TabK true K H t M.tab ∧ Wf x.cps.size M ∧ x.cps.size ≤ 1000 ∧
  ∀ H', SameB p H H' → MachK K H' p x M → Q .non H'
theorem ok_init (T : Tx K mg) : ∃ fd, FnOk P w K mg base CX0 2 (He.ma K (He.ga K "Machine") "__init__") fd ["self", "letters", "accepting", "table"] (spInit K) ∧ Binds K fd ["self", "letters", "accepting", "table"] [] := by
  obtain ⟨fdW, GW, bW⟩ := ok_whole (P := P) (w := w) (base := base) T
  refine fnk_of T (d := mkM "Machine" "__init__" "Machine.__init__" 9 0) (List.mem_of_getElem? (show fn[2]? = some _ from rfl)) scInit (fun _ _ _ _ _ _ us hl => match us, hl with | [_, _, _, _], _ => rfl) (fun vs H Q E h => ?_) (fun f cdv A outer s H vs Q E hr h => ?_)
  · obtain ⟨p, dx, a, t, x, M, rfl, _⟩ := h
    rfl
  · obtain ⟨p, dx, a, t, x, M, rfl, hp, ha, ht, W, hx, q⟩ := h
    refine ⟨_, pss_cons (ps_fld (pv 0) (pv 1) rfl)
      (pss_cons (ps_fld (pv 0) (pe_callTy (T := "tuple") (tupB K) (by rfl) (T.b "tuple" (by decide +kernel)) (by decide +kernel) (pa_cons (pv 2) pa_nil)) rfl)
      (pss_cons (ps_fld (pv 0) (pe_callTy (T := "tuple") (tupB K) (by rfl) (T.b "tuple" (by decide +kernel)) (by decide +kernel) (pa_cons (pe_lc (own := [("row", 4)]) (g := gName 4) (tt := tYes) rfl scInit.nd (pi_seq (pv 3)) (blkOk_by (N := ["self", "letters", "accepting", "table", "row"]) (sc := defScope (inClass (topS 9) 0)) (by decide +kernel))
            (fun _ _ _ _ _ => pg_name (i := 4) scInit.nd rfl (Or.inl rfl)) (fun _ _ _ _ _ => pts_nil) (fun _ _ _ _ _ => pe_callTy (T := "tuple") (tupB K) (by rfl) (T.b "tuple" (by decide +kernel)) (by decide +kernel) (pa_cons (pv 4) pa_nil))) pa_nil)) rfl)
      (pss_one (ps_if (pt_not (pt_val (pe_meth0 (pv 0) T.cl T.mW GW hr bW .nil pass0))) pss_never pss_nil)))), ?_⟩
    obtain ⟨rs, h1, h2, h3⟩ := ht
    have hfew := W.few
    have hlen := W.len
    -- self.letters
    refine ⟨_, rfl, _, rfl, _, _, _, _, rfl, hp, T.cl, T.nL, (by show 0 < 1000; decide), ?_⟩
    have s1 : SameB p H (upd H p (.ins (He.ga K "Machine") dx (putF "letters" (.str x) []))) := sameB_upd
    have ep1 : upd H p (.ins (He.ga K "Machine") dx (putF "letters" (.str x) [])) p = some (.ins (He.ga K "Machine") dx [("letters", .str x)]) := upd_same
    generalize upd H p (.ins (He.ga K "Machine") dx (putF "letters" (.str x) [])) = H1 at s1 ep1 ⊢
    -- self.accepting
    refine ⟨_, rfl, _, _, rfl, .inl ⟨SqB.sameB (b := true) hp ins_nu s1 ha, fun a' na' => ?_⟩⟩
    have ep1' : upd H1 a' (.tup (M.acc.map V.bl)) p = some (.ins (He.ga K "Machine") dx [("letters", .str x)]) := (upd_ne (ne_of_none ep1 na')).trans ep1
    refine ⟨_, rfl, _, _, _, _, rfl, ep1', T.cl, T.nA, (by show 1 < 1000; decide), ?_⟩
    have s2 : SameB p H (upd (upd H1 a' (.tup (M.acc.map V.bl))) p (.ins (He.ga K "Machine") dx (putF "accepting" (.ref a') [("letters", .str x)]))) := (s1.trans (sameB_new na')).trans sameB_upd
    have ep2 : upd (upd H1 a' (.tup (M.acc.map V.bl))) p (.ins (He.ga K "Machine") dx (putF "accepting" (.ref a') [("letters", .str x)])) p = some (.ins (He.ga K "Machine") dx [("letters", .str x), ("accepting", .ref a')]) := upd_same
    have ea2 : upd (upd H1 a' (.tup (M.acc.map V.bl))) p (.ins (He.ga K "Machine") dx (putF "accepting" (.ref a') [("letters", .str x)])) a' = some (.tup (M.acc.map V.bl)) := by
      rw [upd_ne (ne_of_none ep1 na').symm, upd_same]
    generalize upd (upd H1 a' (.tup (M.acc.map V.bl))) p (.ins (He.ga K "Machine") dx (putF "accepting" (.ref a') [("letters", .str x)])) = H2 at s2 ep2 ea2 ⊢
    -- self.table
    refine ⟨_, rfl, t, true, rfl, ⟨_, SqB.sameB (b := true) hp ins_nu s2 h1⟩, fun D hD => lc_by (wk_seq true K t (rs.map V.ref)) (fun i H3 => Same H2 H3 ∧ ∃ ts : List Addr, ts.length = i ∧ H3 D = some (.lst (ts.map V.ref)) ∧ ∀ (j : Nat) (r : Addr) (row : List Nat), ts[j]? = some r → M.tab[j]? = some row → H3 r = some (.tup (row.map nV)))
      ⟨same_upd hD, [], rfl, upd_same, fun j r row e => by simp at e⟩ (fun i H3 _ hP => SqB.sameB (b := true) hp ins_nu (s2.trans (.of hP.1)) h1) (fun i v H3 hi hv hP => ?_) (fun H3 hP => ?_)⟩
    · obtain ⟨s3, ts, el, eD, ets⟩ := hP
      rw [List.length_map] at hi
      rw [List.getElem?_map, List.getElem?_eq_getElem hi] at hv
      cases hv
      have hi2 : i < M.tab.length := by omega
      have hrow := h3 i _ _ (List.getElem?_eq_getElem hi) (List.getElem?_eq_getElem hi2)
      refine ⟨rfl, _, rfl, _, _, rfl, .inl ⟨SqB.sameB (b := true) hp ins_nu (s2.trans (.of s3)) hrow, fun r nr => ⟨ts.map V.ref, (upd_ne (ne_of_none eD nr)).trans eD, by rw [List.length_map, el, sizeLine_eq]; omega, fun b o e => ?_, ts ++ [r], by rw [List.length_append, el]; rfl, ?_, fun j r' row e1 e2 => ?_⟩⟩⟩
      · have nb : b ≠ D := ne_of_none e hD
        rw [upd_ne nb]
        exact same_upd nr _ _ (s3 _ _ e)
      · rw [upd_same, List.map_append]
        rfl
      · have nr' : r ≠ D := fun z => by rw [z, eD] at nr; cases nr
        by_cases hj : j < ts.length
        · rw [List.getElem?_append_left hj] at e1
          have z := ets j r' row e1 e2
          rw [upd_ne (ne_of z eD (fun y => by cases y)), upd_ne (ne_of_none z nr)]
          exact z
        · have ej : j = ts.length := by
            have := (List.getElem?_eq_some_iff.mp e1).1
            rw [List.length_append, List.length_singleton] at this
            omega
          subst ej
          rw [List.getElem?_append_right (Nat.le_refl _), Nat.sub_self] at e1
          cases e1
          rw [el, List.getElem?_eq_getElem hi2] at e2
          cases e2
          rw [upd_ne nr', upd_same]
    · obtain ⟨s3, ts, el, eD, ets⟩ := hP
      refine ⟨D, _, rfl, .inl ⟨SqL.of eD, fun t' nt' => ?_⟩⟩
      have ep3 : upd H3 t' (.tup (ts.map V.ref)) p = some (.ins (He.ga K "Machine") dx [("letters", .str x), ("accepting", .ref a')]) := same_upd nt' _ _ (s3 _ _ ep2)
      refine ⟨_, rfl, _, _, _, _, rfl, ep3, T.cl, T.nT, (by show 2 < 1000; decide), ?_⟩
      have s4 : SameB p H2 (upd (upd H3 t' (.tup (ts.map V.ref))) p (.ins (He.ga K "Machine") dx (putF "table" (.ref t') [("letters", .str x), ("accepting", .ref a')]))) := ((SameB.of s3).trans (sameB_new nt')).trans sameB_upd
      have ep4 : upd (upd H3 t' (.tup (ts.map V.ref))) p (.ins (He.ga K "Machine") dx (putF "table" (.ref t') [("letters", .str x), ("accepting", .ref a')])) p = some (.ins (He.ga K "Machine") dx [("letters", .str x), ("accepting", .ref a'), ("table", .ref t')]) := upd_same
      have et4 : upd (upd H3 t' (.tup (ts.map V.ref))) p (.ins (He.ga K "Machine") dx (putF "table" (.ref t') [("letters", .str x), ("accepting", .ref a')])) t' = some (.tup (ts.map V.ref)) := by
        rw [upd_ne (ne_of_none (s3 _ _ ep2) nt').symm, upd_same]
      have ets4 : ∀ (j : Nat) (r : Addr) (row : List Nat), ts[j]? = some r → M.tab[j]? = some row → upd (upd H3 t' (.tup (ts.map V.ref))) p (.ins (He.ga K "Machine") dx (putF "table" (.ref t') [("letters", .str x), ("accepting", .ref a')])) r = some (.tup (row.map nV)) := fun j r row e1 e2 => by
        have z := ets j r row e1 e2
        rw [upd_ne (ne_of z (s3 _ _ ep2) (fun y => by cases y)), upd_ne (ne_of_none z nt')]
        exact z
      generalize upd (upd H3 t' (.tup (ts.map V.ref))) p (.ins (He.ga K "Machine") dx (putF "table" (.ref t') [("letters", .str x), ("accepting", .ref a')])) = H4 at s4 ep4 et4 ets4 ⊢
      have hM : MachK K H4 p x M := ⟨dx, a', t', ep4, SqT.of (s4 _ _ (ne_of ea2 ep2 (fun y => by cases y)) ea2), ts, SqT.of et4, by rw [el, List.length_map, h2], fun j r row e1 e2 => SqT.of (ets4 j r row e1 e2)⟩
      refine ⟨_, rfl, _, _, _, rfl, ep4, rfl, p, x, M, rfl, hM, W, hx, fun H5 s5 => ⟨true, rfl, iteF (q H5 ?_ (hM.same s5))⟩⟩
      exact (s2.trans s4).trans (.of s5)
end
end K46
set_option Elab.async false
set_option linter.all false
set_option maxRecDepth 100000
set_option maxHeartbeats 1600000
namespace K46
open PySem PySem.Spec PyProof.Rows L2
/-! ### tables, runs -/
def nxt (tab : List (List Nat)) (q a : Nat) : Nat := (tab.getD q []).getD a 0
def runT (tab : List (List Nat)) (q : Nat) (v : List Nat) : Nat := v.foldl (fun s a => nxt tab s a) q
def okW (k : Nat) (v : List Nat) : Prop := ∀ a ∈ v, a < k
def accT (M : Mach) (q : Nat) (v : List Nat) : Bool := M.acc.getD (runT M.tab q v) false
/-- n rows of k places below n -/
structure Tb (k n : Nat) (tab : List (List Nat)) : Prop where
  len : tab.length = n
  row : ∀ r ∈ tab, r.length = k ∧ ∀ q ∈ r, q < n
theorem Wf.tb {k : Nat} {M : Mach} (W : Wf k M) : Tb k M.acc.length M.tab := ⟨W.len, W.row⟩
theorem Tb.get {k n : Nat} {tab : List (List Nat)} (T : Tb k n tab) {q : Nat} (hq : q < n) : ∃ r, tab[q]? = some r ∧ r.length = k ∧ (∀ p ∈ r, p < n) ∧ ∀ a, a < k → r[a]? = some (nxt tab q a) := by
  have h : q < tab.length := by rw [T.len]; exact hq
  obtain ⟨h1, h2⟩ := T.row _ (List.getElem_mem h)
  refine ⟨tab[q], List.getElem?_eq_getElem h, h1, h2, fun a ha => ?_⟩
  unfold nxt
  rw [getD_of (List.getElem?_eq_getElem h)]
  have ha' : a < tab[q].length := by omega
  rw [getD_of (List.getElem?_eq_getElem ha')]
  exact List.getElem?_eq_getElem ha'
theorem Tb.lt {k n : Nat} {tab : List (List Nat)} (T : Tb k n tab) {q a : Nat} (hq : q < n) (ha : a < k) : nxt tab q a < n := by
  obtain ⟨r, _, _, h2, h3⟩ := T.get hq
  exact h2 _ (List.mem_of_getElem? (h3 a ha))
theorem runT_app (tab : List (List Nat)) (q : Nat) (u v : List Nat) : runT tab q (u ++ v) = runT tab (runT tab q u) v := List.foldl_append ..
theorem Tb.run {k n : Nat} {tab : List (List Nat)} (T : Tb k n tab) : ∀ {v : List Nat} {q : Nat}, q < n → okW k v → runT tab q v < n
  | [], _, h, _ => h
  | a :: v, q, h, ok => T.run (v := v) (q := nxt tab q a) (T.lt h (ok a List.mem_cons_self)) fun x hx => ok x (List.mem_cons_of_mem _ hx)
/-! ### what is reached -/
structure Rch (k n : Nat) (tab : List (List Nat)) (l : List Nat) : Prop where
  nd : l.Nodup
  hd : l[0]? = some 0
  lt : ∀ q ∈ l, q < n
  re : ∀ q ∈ l, ∃ v, okW k v ∧ runT tab 0 v = q
structure Reach (k n : Nat) (tab : List (List Nat)) (l : List Nat) : Prop extends Rch k n tab l where
  cl : ∀ q ∈ l, ∀ a, a < k → nxt tab q a ∈ l
theorem Rch.start {k n : Nat} (tab : List (List Nat)) (hn : 0 < n) : Rch k n tab [0] := ⟨by simp, rfl, fun q h => by rw [List.mem_singleton.mp h]; exact hn, fun q h => ⟨[], fun _ h => (by cases h), (List.mem_singleton.mp h).symm⟩⟩
theorem nodup_snoc {α : Type} {l : List α} {x : α} (h : l.Nodup) (hx : x ∉ l) : (l ++ [x]).Nodup := by
  rw [List.nodup_append]
  exact ⟨h, by simp, fun a ha b hb e => hx (by rw [List.mem_singleton.mp hb] at e; rw [← e]; exact ha)⟩
theorem Rch.snoc {k n : Nat} {tab : List (List Nat)} (T : Tb k n tab) {l : List Nat} (R : Rch k n tab l) {q a : Nat} (hq : q ∈ l) (ha : a < k) (new : nxt tab q a ∉ l) : Rch k n tab (l ++ [nxt tab q a]) where
  nd := nodup_snoc R.nd new
  hd := by
    have := (List.getElem?_eq_some_iff.mp R.hd).1
    rw [List.getElem?_append_left this]
    exact R.hd
  lt := fun p hp => by
    rcases List.mem_append.mp hp with z | z
    · exact R.lt p z
    · rw [List.mem_singleton.mp z]
      exact T.lt (R.lt q hq) ha
  re := fun p hp => by
    rcases List.mem_append.mp hp with z | z
    · exact R.re p z
    · rw [List.mem_singleton.mp z]
      obtain ⟨v, h1, h2⟩ := R.re q hq
      refine ⟨v ++ [a], fun b hb => ?_, by rw [runT_app, h2]; rfl⟩
      rcases List.mem_append.mp hb with z | z
      · exact h1 b z
      · rw [List.mem_singleton.mp z]
        exact ha
theorem nodup_lt_len : ∀ {l : List Nat} {n : Nat}, l.Nodup → (∀ q ∈ l, q < n) → l.length ≤ n := fun {l n} h1 h2 => by
  have := nat_nodup_len l (List.range n) h1 fun q hq => List.mem_range.mpr (h2 q hq)
  rwa [List.length_range] at this
theorem Rch.le {k n : Nat} {tab : List (List Nat)} {l : List Nat} (R : Rch k n tab l) : l.length ≤ n := nodup_lt_len R.nd R.lt
/-! ### dicts with whole numbers as keys -/
def kI (q : Nat) : Key := Sum.inl (q : Int)
theorem kI_inj {a b : Nat} (h : kI a = kI b) : a = b := by
  unfold kI at h
  injection h with h
  omega
theorem kV_kI (q : Nat) : kV (kI q) = nV q := rfl
theorem valV_map {κ : Type} [DecidableEq κ] {α : Type} (g : α → κ) (inj : ∀ a b, g a = g b → a = b) (f : α → V) : ∀ (l : List α) (q : α), (q ∈ l → valV (l.map fun q => (g q, f q)) (g q) = some (f q)) ∧ (q ∉ l → valV (l.map fun q => (g q, f q)) (g q) = none)
  | [], q => ⟨fun h => (by cases h), fun _ => rfl⟩
  | p :: l, q => by
    obtain ⟨i1, i2⟩ := valV_map g inj f l q
    by_cases e : p = q
    · subst e
      refine ⟨fun _ => ?_, fun h => absurd List.mem_cons_self h⟩
      simp [valV]
    · have ne : ¬ g p = g q := fun z => e (inj _ _ z)
      have step : valV ((p :: l).map fun q => (g q, f q)) (g q) = valV (l.map fun q => (g q, f q)) (g q) := by
        simp [valV, List.find?_cons, ne]
      rw [step]
      refine ⟨fun h => i1 ?_, fun h => i2 fun z => h (List.mem_cons_of_mem _ z)⟩
      rcases List.mem_cons.mp h with z | z
      · exact absurd z.symm e
      · exact z
end K46
set_option Elab.async false
set_option linter.all false
set_option maxRecDepth 100000
set_option maxHeartbeats 1600000
namespace K46
open PySem PySem.Spec PyProof.Rows L2
section
variable {P : Program} {w : World} {K : PySem.W.Frag} {mg : Str → Option Value} {base : Heap}
theorem TabK.row {b : Bool} {K : PySem.W.Frag} {H : Hp} {t : Addr} {tab : List (List Nat)} {k n : Nat} (h : TabK b K H t tab) (T : Tb k n tab) {q : Nat} (hq : q < n) : ∃ (rs : List Addr) (r : Addr) (row : List Nat), SqB b K H t (rs.map V.ref) ∧ (rs.map V.ref)[q]? = some (.ref r) ∧ SqB b K H r (row.map nV) ∧ row.length = k ∧ (∀ p ∈ row, p < n) ∧ ∀ a, a < k → row[a]? = some (nxt tab q a) := by
  obtain ⟨rs, h1, h2, h3⟩ := h
  obtain ⟨row, e1, e2, e3, e4⟩ := T.get hq
  have hr : q < rs.length := by rw [h2, T.len]; exact hq
  exact ⟨rs, rs[q], row, h1, by rw [List.getElem?_map, List.getElem?_eq_getElem hr]; rfl, h3 q _ _ (List.getElem?_eq_getElem hr) e1, e2, e3, e4⟩
/-! ### reached -/
theorem scReached : FnScope ["table", "found", "seen", "at", "following"] ["table"] (defScope (topS 11)) := C8.fnScope_by (by decide +kernel)
def spReached (K : PySem.W.Frag) : Sp := fun vs H Q _ => ∃ (b : Bool) (t : Addr) (tab : List (List Nat)) (k n : Nat), vs = [.ref t] ∧ TabK b K H t tab ∧ Tb k n tab ∧ 0 < n ∧ n ≤ 1000 ∧
  ∀ H' p l, Same H H' → H p = none → H' p = some (.lst (l.map nV)) → Reach k n tab l → Q (.ref p) H'
/-- the dict of what was seen -/
def seenD (l : List Nat) : HO := .dK (l.map fun q => (kI q, V.bl true))
theorem cal_reached (T : Tx K mg) : C8.Cal P w K mg base 1 "reached" (spReached K) [] := by
  refine cal_of T (i := 11) 4 rfl (by decide +kernel) scReached (fun _ _ _ _ _ _ us hl => match us, hl with | [_], _ => rfl) (fun vs H Q E h => ?_) (fun f cdv A outer s H vs Q E hr h => ?_)
  · obtain ⟨b, t, tab, k, n, rfl, _⟩ := h
    rfl
  · obtain ⟨b, t, tab, k, n, rfl, hT, tb, hn, hn2, q⟩ := h
    have hu := hu_of hr
    refine ⟨_, pss_cons (ps_set (i := 1) scReached.nd rfl (.inl rfl) (pe_lst (pa_cons pe_int pa_nil)))
      (pss_cons (ps_set (i := 2) scReached.nd rfl (.inl rfl) (pe_disp (pps_cons pe_int pe_bl pps_nil) (by rfl) (by rfl) (fun z => by cases z) (by decide)))
      (pss_cons (ps_set (i := 3) scReached.nd rfl (.inl rfl) pe_int)
      (pss_cons (ps_while PassesOwn.never (pt_cmpR op_lt (pv 3) (pe_callB (lenB K) (by rfl) (T.b "len" (by decide +kernel)) PySem.boot_len (pa_cons (pv 1) pa_nil)) (nomark _))
        (pss_cons (ps_for PassesOwn.never rfl (piB K (pe_ix (ixB K) (pv 0) (pe_ix (ixB K) (pv 1) (pv 3) (fun _ _ => rfl)) (fun _ _ => rfl))) (pg_name (i := 4) scReached.nd rfl (.inl rfl))
          (pss_one (ps_if (pt_cmp (pc_dnotin hu (pv 4) (pv 2)))
            (pss_cons (ps_dput hu (pv 2) (pv 4) pe_bl rfl)
              (pss_one (ps_expr (pe_bm PySem.F.plainAttrs_list PySem.F.slot_list_append PySem.F.type_list_append mt_append (pv 1) (pa_cons (pv 4) pa_nil))))) pss_nil)))
          (pss_one (ps_set (i := 3) scReached.nd rfl (.inl rfl) (pe_op op_add (pv 3) pe_int)))))
      (pss_one (ps_ret (pv 1)))))), ?_⟩
    refine ⟨by show 1 ≤ sizeLine; decide, fun D hD d hd => ?_⟩
    refine ⟨upd_same, [(kI 0, .bl true)], rfl, by decide, ?_⟩
    have nDd : D ≠ d := ne_of_none upd_same hd
    -- the loop
    refine while_by (fun σ H1 => ∃ (l : List Nat) (at_ : Nat) (y4 : Option V), σ = [some (.ref t), some (.ref D), some (.ref d), some (nV at_), y4] ∧ Same H H1 ∧ H1 D = some (.lst (l.map nV)) ∧ H1 d = some (seenD l) ∧ Rch k n tab l ∧ at_ ≤ l.length ∧ ∀ i p, i < at_ → l[i]? = some p → ∀ a, a < k → nxt tab p a ∈ l)
      (fun σ _ => n + 1 - (sI 3 σ).toNat) ⟨[0], 0, none, rfl, ?_, ?_, ?_, .start tab hn, Nat.zero_le _, fun i p h => absurd h (Nat.not_lt_zero _)⟩ (fun σ H1 hP => ?_) (fun σ H Q Q' m q => ?_)
    · refine fun b o e => ?_
      have n1 : b ≠ D := ne_of_none e hD
      have e1 : upd H D (.lst [V.int 0]) b = some o := by rw [upd_ne n1]; exact e
      have n2 : b ≠ d := ne_of_none e1 hd
      rw [upd_ne n2, upd_ne n2]
      exact e1
    · rw [upd_ne nDd, upd_ne nDd, upd_same]
      rfl
    · rw [upd_same]
      rfl
    · obtain ⟨l, at_, y4, rfl, sm, eD, ed, R, hat, hcl⟩ := hP
      refine ⟨_, rfl, _, rfl, true, _, _, rfl, .lst eD, _, _, rfl, rfl, _, rfl, ?_⟩
      rw [List.length_map]
      refine ite2 (fun c => ?_) (fun c => ?_)
      · have c1 : at_ < l.length := by
          have : (at_ : Int) < (l.length : Int) := of_decide_eq_true c
          omega
        have hqm : l[at_] ∈ l := List.getElem_mem c1
        have hqn := R.lt _ hqm
        obtain ⟨rs, r, row, h1, h2, h3, h4, h5, h6⟩ := hT.row tb hqn
        refine ⟨_, rfl, _, rfl, _, rfl, true, _, _, _, _, rfl, rfl, .lst eD, atI_nat (by rw [List.getElem?_map, List.getElem?_eq_getElem c1]; rfl), b, _, _, _, _, rfl, rfl, h1.same sm, atI_nat h2, r, b, rfl, ⟨_, h3.same sm⟩, ?_⟩
        have hle := R.le
        refine for_by (wk_seq b K r (row.map nV)) (fun j σ H2 => ∃ (l2 : List Nat) (y4 : Option V), σ = [some (.ref t), some (.ref D), some (.ref d), some (nV at_), y4] ∧ Same H H2 ∧ H2 D = some (.lst (l2.map nV)) ∧ H2 d = some (seenD l2) ∧ Rch k n tab l2 ∧ (∃ z, l2 = l ++ z) ∧ ∀ a, a < j → nxt tab l[at_] a ∈ l2)
          ⟨l, y4, rfl, sm, eD, ed, R, ⟨[], by simp⟩, fun a h => absurd h (Nat.not_lt_zero _)⟩ (fun j σ H2 _ hP => ?_) (fun j v σ H2 hj hv hP => ?_) (fun σ H2 hP => ?_)
        · obtain ⟨_, _, _, sm2, _⟩ := hP
          exact h3.same sm2
        · obtain ⟨l2, y4, rfl, sm2, eD2, ed2, R2, ⟨z, hz⟩, hin⟩ := hP
          rw [List.length_map, h4] at hj
          have hv2 : v = nV (nxt tab l[at_] j) := by
            rw [List.getElem?_map, h6 j hj] at hv
            exact (Option.some.inj hv).symm
          subst hv2
          have hm2 : l[at_] ∈ l2 := by rw [hz]; exact List.mem_append_left _ hqm
          obtain ⟨v1, v2⟩ := valV_map kI (fun _ _ => kI_inj) (fun _ => V.bl true) l2 (nxt tab l[at_] j)
          have small : l2.length < sizeLine := by have := R2.le; rw [sizeLine_eq]; omega
          refine ⟨_, rfl, _, rfl, d, _, rfl, DGet.k (k := kI (nxt tab l[at_] j)) ed2, _, rfl, ?_⟩
          by_cases hnew : nxt tab l[at_] j ∈ l2
          · rw [v1 hnew]
            exact iteF ⟨l2, _, rfl, sm2, eD2, ed2, R2, ⟨z, hz⟩, fun a ha => by
              rcases Nat.lt_or_ge a j with y | y
              · exact hin a y
              · have : a = j := by omega
                rw [this]
                exact hnew⟩
          · rw [v2 hnew]
            have ndD : d ≠ D := ne_of ed2 eD2 (fun y => by cases y)
            have eD3 : upd H2 d (.dK (putK (l2.map fun q => (kI q, V.bl true)) (kI (nxt tab l[at_] j)) (.bl true))) D = some (.lst (l2.map nV)) := (upd_ne ndD.symm).trans eD2
            refine iteT ⟨_, rfl, _, rfl, d, _, rfl, DPut.k (k := kI (nxt tab l[at_] j)) ed2 (by rw [List.length_map]; exact small), _, rfl, .inl ⟨rfl, _, SqL.of eD3⟩, _, rfl, D, _, _, rfl, rfl, eD3, by rw [List.length_map]; exact small, ?_⟩
            have old : ∀ b o, H b = some o → upd (upd H2 d (.dK (putK (l2.map fun q => (kI q, V.bl true)) (kI (nxt tab l[at_] j)) (.bl true)))) D (.lst (l2.map nV ++ [nV (nxt tab l[at_] j)])) b = some o := fun b o e => by
              have n1 : b ≠ D := ne_of_none e hD
              have e1 : upd H D (.lst [V.int 0]) b = some o := by rw [upd_ne n1]; exact e
              have n2 : b ≠ d := ne_of_none e1 hd
              rw [upd_ne n1, upd_ne n2]
              exact sm2 b o e
            refine ⟨l2 ++ [nxt tab l[at_] j], _, rfl, old, ?_, ?_, R2.snoc tb hm2 hj hnew, ⟨z ++ [nxt tab l[at_] j], by rw [hz, List.append_assoc]⟩, fun a ha => ?_⟩
            · rw [upd_same, List.map_append]
              rfl
            · rw [upd_ne ndD, upd_same, putK_new _ (v2 hnew)]
              show some (HO.dK _) = some (HO.dK _)
              rw [List.map_append]
              rfl
            · rcases Nat.lt_or_ge a j with y | y
              · exact List.mem_append_left _ (hin a y)
              · have : a = j := by omega
                rw [this]
                exact List.mem_append_right _ (List.mem_singleton.mpr rfl)
        · obtain ⟨l2, y4, rfl, sm2, eD2, ed2, R2, ⟨z, hz⟩, hin⟩ := hP
          rw [List.length_map, h4] at hin
          have l2len : l.length ≤ l2.length := by rw [hz, List.length_append]; omega
          refine ⟨_, rfl, _, _, rfl, rfl, ⟨l2, at_ + 1, y4, rfl, sm2, eD2, ed2, R2, by omega, fun i p hi hp a ha => ?_⟩, ?_⟩
          · rcases Nat.lt_or_ge i at_ with y | y
            · have hp2 : l[i]? = some p := by
                rw [hz, List.getElem?_append_left (by omega)] at hp
                exact hp
              have := hcl i p y hp2 a ha
              rw [hz]
              exact List.mem_append_left _ this
            · have ei : i = at_ := by omega
              subst ei
              rw [hz, List.getElem?_append_left c1, List.getElem?_eq_getElem c1] at hp
              cases hp
              exact hin a ha
          · have := R2.le
            show n + 1 - ((at_ : Int) + 1).toNat < n + 1 - ((at_ : Int)).toNat
            omega
      · have c1 : ¬ (at_ : Int) < (l.length : Int) := fun z => c (decide_eq_true z)
        have ea : at_ = l.length := by omega
        refine ⟨_, rfl, q H1 D l sm hD eD ⟨R, fun p hp a ha => ?_⟩⟩
        obtain ⟨i, hi⟩ := List.mem_iff_getElem?.mp hp
        exact hcl i p (by rw [ea]; exact (List.getElem?_eq_some_iff.mp hi).1) hi a ha
    · obtain ⟨v1, e1, v2, e2, b, p, ys, e3, e4, i, j, e5, e6, c, e7, h⟩ := q
      exact ⟨v1, e1, v2, e2, b, p, ys, e3, e4, i, j, e5, e6, c, e7, m _ _ h⟩
end
end K46
set_option Elab.async false
set_option linter.all false
set_option maxRecDepth 100000
set_option maxHeartbeats 1600000
namespace K46
open PySem PySem.Spec PyProof.Rows L2
/-! ### how many different ones -/
theorem firstMet_ok (val : Nat → Int) : ∀ i, (firstMet val i).Nodup ∧ ∀ z, z ∈ firstMet val i ↔ ∃ j, j < i ∧ val j = z
  | 0 => ⟨List.nodup_nil, fun z => ⟨fun h => (by cases h), fun ⟨j, h, _⟩ => absurd h (Nat.not_lt_zero _)⟩⟩
  | i + 1 => by
    obtain ⟨h1, h2⟩ := firstMet_ok val i
    rw [firstMet_succ]
    unfold step_dedup
    by_cases h : (firstMet val i).any (· == val i) = true
    · rw [if_pos h]
      obtain ⟨y, hy, ey⟩ := List.any_eq_true.mp h
      have ey' : y = val i := eq_of_beq ey
      refine ⟨h1, fun z => (h2 z).trans ⟨fun ⟨j, hj, e⟩ => ⟨j, Nat.lt_succ_of_lt hj, e⟩, fun ⟨j, hj, e⟩ => ?_⟩⟩
      rcases Nat.lt_or_ge j i with y | y
      · exact ⟨j, y, e⟩
      · have ej : j = i := by omega
        subst ej
        rw [← e, ← ey']
        exact (h2 _).mp hy
    · rw [if_neg h]
      have nm : val i ∉ firstMet val i := fun m => h (List.any_eq_true.mpr ⟨_, m, beq_self_eq_true _⟩)
      refine ⟨nodup_snoc h1 nm, fun z => ?_⟩
      rw [List.mem_append, List.mem_singleton, h2]
      constructor
      · rintro (⟨j, hj, e⟩ | e)
        · exact ⟨j, Nat.lt_succ_of_lt hj, e⟩
        · exact ⟨i, Nat.lt_succ_self i, e.symm⟩
      · rintro ⟨j, hj, e⟩
        rcases Nat.lt_or_ge j i with y | y
        · exact .inl ⟨j, y, e⟩
        · have ej : j = i := by omega
          subst ej
          exact .inr e.symm
/-- the different values of f on l -/
structure Dist {α β : Type} (f : α → β) (l : List α) (D : List β) : Prop where
  nd : D.Nodup
  mem : ∀ z, z ∈ D ↔ ∃ a ∈ l, f a = z
theorem many_dist (f : Nat → Int) (l : List Nat) : ∃ D, Dist f l D ∧ many (l.map f) = D.length := by
  obtain ⟨h1, h2⟩ := firstMet_ok (fun i => (l.map f).getD i 0) (l.map f).length
  refine ⟨_, ⟨h1, fun z => (h2 z).trans ⟨fun ⟨j, hj, e⟩ => ?_, fun ⟨a, ha, e⟩ => ?_⟩⟩, rfl⟩
  · rw [List.length_map] at hj
    refine ⟨l[j], List.getElem_mem hj, ?_⟩
    rw [← e]
    exact (getD_of (by rw [List.getElem?_map, List.getElem?_eq_getElem hj]; rfl)).symm
  · obtain ⟨j, hj⟩ := List.mem_iff_getElem?.mp ha
    refine ⟨j, by rw [List.length_map]; exact (List.getElem?_eq_some_iff.mp hj).1, ?_⟩
    show (l.map f).getD j 0 = z
    rw [getD_of (show (l.map f)[j]? = some (f a) by rw [List.getElem?_map, hj]; rfl)]
    exact e
theorem nodup_len {α : Type} [DecidableEq α] : ∀ (l D : List α), l.Nodup → (∀ x ∈ l, x ∈ D) → l.length ≤ D.length
  | [], _, _, _ => Nat.zero_le _
  | x :: l, D, hn, hs => by
    obtain ⟨h1, h2⟩ := List.nodup_cons.mp hn
    have hx : x ∈ D := hs x List.mem_cons_self
    have ih := nodup_len l (D.erase x) h2 fun y hy => (List.mem_erase_of_ne (fun e => h1 (by rw [← e]; exact hy))).2 (hs y (List.mem_cons_of_mem _ hy))
    have e := List.length_erase_of_mem hx
    have hp : 0 < D.length := List.length_pos_of_mem hx
    rw [List.length_cons]
    omega
theorem Dist.le {α β : Type} [DecidableEq β] {f : α → β} {l : List α} {D : List β} (d : Dist f l D) : D.length ≤ l.length := by
  have := nodup_len D (l.map f) d.nd fun x hx => by
    obtain ⟨a, ha, e⟩ := (d.mem x).mp hx
    exact List.mem_map.mpr ⟨a, ha, e⟩
  rwa [List.length_map] at this
theorem nodup_inj_len {α : Type} [DecidableEq α] : ∀ (D E : List α), D.Nodup → (∀ x ∈ D, x ∈ E) → E.length ≤ D.length → E.Nodup
  | D, [], _, _, _ => List.nodup_nil
  | D, x :: E, hn, hs, hl => by
    by_cases hx : x ∈ E
    · exfalso
      have := nodup_len D E hn fun y hy => by
        rcases List.mem_cons.mp (hs y hy) with z | z
        · rw [z]; exact hx
        · exact z
      rw [List.length_cons] at hl
      omega
    · refine List.nodup_cons.mpr ⟨hx, nodup_inj_len (D.erase x) E (hn.erase _) (fun y hy => ?_) ?_⟩
      · have h1 := (List.Nodup.mem_erase_iff hn).mp hy
        rcases List.mem_cons.mp (hs y h1.2) with z | z
        · exact absurd z h1.1
        · exact z
      · rw [List.length_cons] at hl
        have := List.length_erase_le (a := x) (l := D)
        by_cases hd : x ∈ D
        · rw [List.length_erase_of_mem hd]
          omega
        · rw [List.erase_of_not_mem hd]
          have := nodup_len D E hn fun y hy => by
            rcases List.mem_cons.mp (hs y hy) with z | z
            · rw [z] at hy
              exact absurd hy hd
            · exact z
          omega
theorem find_g {α γ : Type} [DecidableEq γ] (g : α → γ) {l : List α} {a : α} (ha : a ∈ l) : ∃ b, l.find? (fun c => decide (g c = g a)) = some b ∧ b ∈ l ∧ g b = g a := by
  cases h : l.find? fun c => decide (g c = g a) with
  | none => exact absurd (decide_eq_true rfl) (List.find?_eq_none.mp h a ha)
  | some b => exact ⟨b, rfl, List.mem_of_find?_eq_some h, by simpa using List.find?_some h⟩
/-- the f of one whose g is z -/
def pick {α β γ : Type} [DecidableEq γ] (f : α → β) (g : α → γ) (l : List α) (z : γ) : Option β := (l.find? fun a => decide (g a = z)).map f
/-- g refines f: no fewer values, and where as many, no more parted -/
theorem refine_len {α β γ : Type} [DecidableEq β] [DecidableEq γ] {f : α → β} {g : α → γ} {l : List α} {Df : List β} {Dg : List γ} (df : Dist f l Df) (dg : Dist g l Dg) (hr : ∀ a ∈ l, ∀ b ∈ l, g a = g b → f a = f b) :
    Df.length ≤ Dg.length ∧ (Dg.length ≤ Df.length → ∀ a ∈ l, ∀ b ∈ l, f a = f b → g a = g b) := by
  have at1 : ∀ a ∈ l, pick f g l (g a) = some (f a) := fun a ha => by
    obtain ⟨b, h1, h2, h3⟩ := find_g g ha
    unfold pick
    rw [h1, ← hr b h2 a ha h3]
    rfl
  have sub : ∀ x ∈ Df, x ∈ Dg.filterMap (pick f g l) := fun x hx => by
    obtain ⟨a, ha, e⟩ := (df.mem x).mp hx
    exact List.mem_filterMap.mpr ⟨g a, (dg.mem _).mpr ⟨a, ha, rfl⟩, by rw [at1 a ha, e]⟩
  have len : (Dg.filterMap (pick f g l)).length ≤ Dg.length := List.length_filterMap_le _ _
  have le1 := nodup_len Df _ df.nd sub
  refine ⟨Nat.le_trans le1 len, fun hle a ha b hb e => ?_⟩
  have nd := nodup_inj_len Df _ df.nd sub (by omega)
  have inj : ∀ (D : List γ), (∀ z ∈ D, ∃ a ∈ l, g a = z) → (D.filterMap (pick f g l)).Nodup → ∀ a ∈ l, ∀ b ∈ l, g a ∈ D → g b ∈ D → f a = f b → g a = g b := by
    intro D
    induction D with
    | nil => intro _ _ a _ b _ h; cases h
    | cons z D ih =>
      intro hD hn a ha b hb ma mb e
      obtain ⟨c, hc, ec⟩ := hD z List.mem_cons_self
      have e1 : pick f g l z = some (f c) := by
        rw [← ec]
        exact at1 c hc
      rw [List.filterMap_cons_some e1] at hn
      obtain ⟨n1, n2⟩ := List.nodup_cons.mp hn
      have notin : ∀ d ∈ l, g d ∈ D → f d = f c → False := fun d hd hm he => n1 (List.mem_filterMap.mpr ⟨g d, hm, by rw [at1 d hd, he]⟩)
      rcases List.mem_cons.mp ma with za | za
      · rcases List.mem_cons.mp mb with zb | zb
        · rw [za, zb]
        · have : f a = f c := hr a ha c hc (by rw [za, ec])
          exact (notin b hb zb (by rw [← e, this])).elim
      · rcases List.mem_cons.mp mb with zb | zb
        · have : f b = f c := hr b hb c hc (by rw [zb, ec])
          exact (notin a ha za (by rw [e, this])).elim
        · exact ih (fun z hz => hD z (List.mem_cons_of_mem _ hz)) n2 a ha b hb za zb e
  exact inj Dg (fun z hz => by
    obtain ⟨a, ha, e⟩ := (dg.mem z).mp hz
    exact ⟨a, ha, e⟩) nd a ha b hb ((dg.mem _).mpr ⟨a, ha, rfl⟩) ((dg.mem _).mpr ⟨b, hb, rfl⟩) e
/-! ### states that accept alike -/
def Eqv (k : Nat) (M : Mach) (a b : Nat) : Prop := ∀ v, okW k v → accT M a v = accT M b v
theorem Eqv.step {k : Nat} {M : Mach} {a b c : Nat} (h : Eqv k M a b) (hc : c < k) : Eqv k M (nxt M.tab a c) (nxt M.tab b c) := fun v hv => h (c :: v) fun x hx => by
  rcases List.mem_cons.mp hx with z | z
  · rw [z]; exact hc
  · exact hv x z
/-- states l, closed -/
structure Clo1 (k : Nat) (M : Mach) (l : List Nat) : Prop where
  cl : ∀ q ∈ l, ∀ a, a < k → nxt M.tab q a ∈ l
  lt : ∀ q ∈ l, q < M.acc.length
/-- a numbering on the way -/
structure Num (k : Nat) (M : Mach) (l : List Nat) (f : Nat → Int) : Prop where
  acc : ∀ a ∈ l, ∀ b ∈ l, f a = f b → M.acc.getD a false = M.acc.getD b false
  eqv : ∀ a ∈ l, ∀ b ∈ l, Eqv k M a b → f a = f b
def mark (k : Nat) (tab : List (List Nat)) (f : Nat → Int) (q : Nat) : Mark := (f q, (List.range k).map fun a => f (nxt tab q a))
theorem Num.start (k : Nat) (M : Mach) (l : List Nat) : Num k M l (fun q => if M.acc.getD q false = true then 1 else 0) where
  acc := fun a _ b _ h => by
    cases h1 : M.acc.getD a false <;> cases h2 : M.acc.getD b false <;> first | rfl | (rw [h1, h2] at h; revert h; decide)
  eqv := fun a _ b _ h => by
    have := h [] fun _ h => (by cases h)
    unfold accT runT at this
    simp only [List.foldl_nil] at this
    rw [this]
theorem mark_eq {k : Nat} {tab : List (List Nat)} {f : Nat → Int} {a b : Nat} (h : mark k tab f a = mark k tab f b) : f a = f b ∧ ∀ c, c < k → f (nxt tab a c) = f (nxt tab b c) := by
  unfold mark at h
  have h1 := congrArg Prod.fst h
  have h2 := congrArg Prod.snd h
  refine ⟨h1, fun c hc => ?_⟩
  have h3 := congrArg (fun l : List Int => l[c]?) h2
  simpa [List.getElem?_map, List.getElem?_range hc] using h3
theorem Num.next {k : Nat} {M : Mach} {l : List Nat} {f g : Nat → Int} (C : Clo1 k M l) (N : Num k M l f) (h : ∀ a ∈ l, ∀ b ∈ l, g a = g b ↔ mark k M.tab f a = mark k M.tab f b) : Num k M l g where
  acc := fun a ha b hb e => N.acc a ha b hb (mark_eq ((h a ha b hb).mp e)).1
  eqv := fun a ha b hb e => (h a ha b hb).mpr (by
    unfold mark
    rw [N.eqv a ha b hb e]
    congr 1
    apply List.map_congr_left
    intro c hc
    have hc' := List.mem_range.mp hc
    exact N.eqv _ (C.cl a ha c hc') _ (C.cl b hb c hc') (e.step hc'))
/-- at the end -/
theorem Num.done {k : Nat} {M : Mach} {l : List Nat} {f g : Nat → Int} (C : Clo1 k M l) (N : Num k M l f) (h : ∀ a ∈ l, ∀ b ∈ l, g a = g b ↔ mark k M.tab f a = mark k M.tab f b) (back : ∀ a ∈ l, ∀ b ∈ l, f a = f b → g a = g b) :
    ∀ a ∈ l, ∀ b ∈ l, g a = g b ↔ Eqv k M a b := by
  have N2 := N.next C h
  have key : ∀ (v : List Nat), okW k v → ∀ a ∈ l, ∀ b ∈ l, g a = g b → accT M a v = accT M b v := by
    intro v
    induction v with
    | nil => exact fun _ a ha b hb e => N2.acc a ha b hb e
    | cons c v ih =>
      intro hv a ha b hb e
      have hc := hv c List.mem_cons_self
      have e2 := (mark_eq ((h a ha b hb).mp e)).2 c hc
      exact ih (fun x hx => hv x (List.mem_cons_of_mem _ hx)) _ (C.cl a ha c hc) _ (C.cl b hb c hc) (back _ (C.cl a ha c hc) _ (C.cl b hb c hc) e2)
  exact fun a ha b hb => ⟨fun e v hv => key v hv a ha b hb e, N2.eqv a ha b hb⟩
end K46
set_option Elab.async false
set_option linter.all false
set_option maxRecDepth 100000
set_option maxHeartbeats 1600000
namespace K46
open PySem PySem.Spec PyProof.Rows L2
theorem ixNdK {X : Cx} (K : PySem.W.Frag) (P : Program) (w : World) {o i : Expr} {td ty : TE} {pos : Pos} (hu : X.A.units + 64 < cLine) (ho : PE X o td) (hi : PE X i ty) (hs : NoSl i) (hK : X.K = K := by rfl) (hP : X.prog = P := by rfl) (hw : X.w = w := by rfl) : PE X (.Subscript o i pos) (tIxNd K P w td ty) := by
  subst hK hP hw
  exact pe_ixNd hu ho hi hs
theorem setMK {X : Cx} (K : PySem.W.Frag) (w : World) (hc : X.calm = true) (hu : X.A.units + 64 < cLine) (hK : X.K = K := by rfl) (hw : X.w = w := by rfl) : CallR X (.type "set") (rSetM K w) := by
  subst hK hw
  exact cr_setM hc hu
theorem sortedMK {X : Cx} (K : PySem.W.Frag) (w : World) (hc : X.calm = true) (hu : X.A.units + 64 < cLine) (hK : X.K = K := by rfl) (hw : X.w = w := by rfl) : CallR X (.builtin "sorted") (rSortedM K w) := by
  subst hK hw
  exact cr_sortedM hc hu
theorem lenNdK {X : Cx} (K : PySem.W.Frag) (P : Program) (w : World) (hK : X.K = K := by rfl) (hP : X.prog = P := by rfl) (hw : X.w = w := by rfl) : CallR X (.builtin "len") (rLenNd K P w) := by
  subst hK hP hw
  exact call_lenNd
def tDcNK (K : PySem.W.Frag) (P : Program) (w : World) (wi : TI) (g : TG) (tt : TT) (tk tv : TE) (vs : List Nat) : TE := fun σ H Q => wi σ H fun J H1 => ∀ D, H1 D = none → ∃ W : Nat → Nat → Hp → Prop, (∃ m, W 0 m (upd H1 D (NdO P w D []))) ∧ ∀ i m H, W i m H →
  (J.stop i H ∧ Q (.ref D) H) ∨ (J.go i H ∧ ∃ Nx : Hp → Prop, (∀ H', Nx H' → ∃ m', m' < m ∧ W (i + 1) m' H') ∧ ∀ x H', J.yld i H x H' → g x (wipe σ vs) H' fun σ2 H2 => wipe σ2 vs = wipe σ vs ∧ tt σ2 H2 fun b H3 =>
    if b = true then tk σ2 H3 fun y H4 => tv σ2 H4 fun z H5 => ∃ kvs m a, y = .ref a ∧ H5 D = some (NdO P w D kvs) ∧ (∀ q ∈ kvs, MarkH K H5 q.2.1 q.1) ∧ MarkH K H5 a m ∧ m ∉ kvs.map (·.1) ∧ kvs.length < 1000 ∧ Nx (upd H5 D (NdO P w D (kvs ++ [(m, a, z)]))) else Nx H3)
theorem dcNK {X : Cx} (K : PySem.W.Frag) (P : Program) (w : World) {kx vx tg iter : Expr} {ifs : List Expr} {scope : Scope} {own : List (Str × Nat)} {pos : Pos} {wi : TI} {g : TG} {tt : TT} {tk tv : TE} (hc : X.calm = true) (hu : X.A.units + 64 < cLine) (hN : X.N.Nodup) (hi : PI X tg iter wi) (ok : BlkOk X.N X.env.scope scope own)
    (hg : ∀ (s : Shared) (H : Hp) (C : Addr) (cl : List (Str × Addr)) (fp : List Addr), PG (X.blk s H scope (compEnvC scope cl C X.env) fp) tg g) (ht : ∀ (s : Shared) (H : Hp) (C : Addr) (cl : List (Str × Addr)) (fp : List Addr), PTs (X.blk s H scope (compEnvC scope cl C X.env) fp) ifs tt)
    (hk : ∀ (s : Shared) (H : Hp) (C : Addr) (cl : List (Str × Addr)) (fp : List Addr), PE (X.blk s H scope (compEnvC scope cl C X.env) fp) kx tk) (he : ∀ (s : Shared) (H : Hp) (C : Addr) (cl : List (Str × Addr)) (fp : List Addr), PE (X.blk s H scope (compEnvC scope cl C X.env) fp) vx tv)
    (hs : ∀ x, foldedSetIterable iter X.env x = pure x := by intro _; rfl) (hK : X.K = K := by rfl) (hP : X.prog = P := by rfl) (hw : X.w = w := by rfl) : PE X (.DictComp kx vx [⟨tg, iter, ifs, 0⟩] scope pos) (tDcNK K P w wi g tt tk tv (own.map (·.2))) := by
  subst hK hP hw
  exact pe_dcN hc hu hN hi ok hg ht hk he hs
/-- a block in a block -/
def relabelS (scope sc : Scope) : Scope := { scope with names := scope.names.map fun (n, k) => if (k == .free && sc.kind == .function && sc.names.lookup n == some .cell) then (n, .cell) else (n, k) }
theorem blkOk_rel {N : List Str} {env : Env} {scope inner sc : Scope} {own : List (Str × Nat)} (he : env.scope = sc) (h : blkC N (relabelS scope sc) inner own = true) : BlkOk N (relabel scope env) inner own := by
  subst he
  exact blkOk_by h
/-- a dict comprehension without tests -/
theorem dc_by {J : It} {n : Nat} {item : Nat → V → Prop} {ok : Nat → Hp → Prop} (w : Wk J n item ok) {g : TG} {tk tv : TE} {vs : List Nat} {σ : L2.St} {H1 : Hp} {D : Addr} {Qd : Hp → Prop} (Pv : Nat → Hp → Prop) (h0 : Pv 0 (upd H1 D (.dK []))) (hk : ∀ i H, i ≤ n → Pv i H → ok i H)
    (hs : ∀ i x H, i < n → item i x → Pv i H → g x (wipe σ vs) H fun σ2 H2 => wipe σ2 vs = wipe σ vs ∧ tk σ2 H2 fun y H4 => tv σ2 H4 fun z H5 => ∃ kvs k, y = kV k ∧ H5 D = some (.dK kvs) ∧ kvs.length < sizeLine ∧ Pv (i + 1) (upd H5 D (.dK (putK kvs k z)))) (hd : ∀ H, Pv n H → Qd H) :
    ∃ W : Nat → Nat → Hp → Prop, (∃ m, W 0 m (upd H1 D (.dK []))) ∧ ∀ i m H, W i m H → (J.stop i H ∧ Qd H) ∨ (J.go i H ∧ ∃ Nx : Hp → Prop, (∀ H', Nx H' → ∃ m', m' < m ∧ W (i + 1) m' H') ∧ ∀ x H', J.yld i H x H' → g x (wipe σ vs) H' fun σ2 H2 => wipe σ2 vs = wipe σ vs ∧ tYes σ2 H2 fun b H3 =>
      if b = true then tk σ2 H3 fun y H4 => tv σ2 H4 fun z H5 => ∃ kvs k, y = kV k ∧ H5 D = some (.dK kvs) ∧ kvs.length < sizeLine ∧ Nx (upd H5 D (.dK (putK kvs k z))) else Nx H3) := by
  refine ⟨fun i m H => i + m = n ∧ Pv i H, ⟨n, Nat.zero_add _, h0⟩, fun i m H ⟨e, p⟩ => ?_⟩
  by_cases hi : i < n
  · refine .inr ⟨w.go i H hi (hk i H (Nat.le_of_lt hi) p), Pv (i + 1), fun H' q => ⟨m - 1, by omega, by omega, q⟩, fun x H' y => ?_⟩
    obtain ⟨rfl, y2⟩ := w.yld i H x H' hi (hk i H (Nat.le_of_lt hi) p) y
    exact hs i x _ hi y2 p
  · obtain rfl : i = n := by omega
    exact .inl ⟨w.stop H (hk i H (Nat.le_refl _) p), hd H p⟩
theorem put_take {l : List Nat} (hn : l.Nodup) (F : Nat → V) {i q : Nat} (hi : l[i]? = some q) : putK ((l.take i).map fun q => (kI q, F q)) (kI q) (F q) = (l.take (i + 1)).map fun q => (kI q, F q) := by
  have nq : q ∉ l.take i := fun h => by
    obtain ⟨j, hj⟩ := List.mem_iff_getElem?.mp h
    rw [List.getElem?_take] at hj
    by_cases c : j < i
    · rw [if_pos c] at hj
      have := nd_ix hn hj hi
      omega
    · rw [if_neg c] at hj
      cases hj
  rw [putK_new _ ((valV_map kI (fun _ _ => kI_inj) F (l.take i) q).2 nq), List.take_add_one, hi, List.map_append]
  rfl
theorem valV_at {l : List Nat} (F : Nat → V) {q : Nat} (h : q ∈ l) : valV (l.map fun q => (kI q, F q)) (kI q) = some (F q) := (valV_map kI (fun _ _ => kI_inj) F l q).1 h
theorem DGet_at {H : Hp} {d q : Nat} {l : List Nat} {f : Nat → Int} (h : H d = some (.dK (l.map fun q => (kI q, V.int (f q))))) (hq : q ∈ l) : DGet H d (nV q) (some (V.int (f q))) := by
  have := DGet.k (k := kI q) h
  rw [valV_at (fun q => V.int (f q)) hq] at this
  exact this
theorem dK_nu {kvs : List (Key × V)} : (∀ xs, (HO.dK kvs) ≠ .lst xs) ∧ (∀ xs, (HO.dK kvs) ≠ .tup xs) ∧ ∀ o v, (HO.dK kvs) ≠ .frz o v := ⟨fun _ z => (by cases z), fun _ z => (by cases z), fun _ _ z => (by cases z)⟩
theorem MarkH.sameB {K : PySem.W.Frag} {H H' : Hp} {p a : Addr} {m : Mark} {u : HO} (h : MarkH K H a m) (hp : H p = some u) (nu : (∀ xs, u ≠ .lst xs) ∧ (∀ xs, u ≠ .tup xs) ∧ ∀ o v, u ≠ .frz o v) (s : SameB p H H') : MarkH K H' a m := by
  obtain ⟨b, h1, h2⟩ := h
  exact ⟨b, SqB.sameB (b := false) hp nu s h1, SqB.sameB (b := false) hp nu s h2⟩
def numD (l : List Nat) (f : Nat → Int) : HO := .dK (l.map fun q => (kI q, V.int (f q)))
theorem numD_ne {l : List Nat} {f : Nat → Int} : ∀ xs, numD l f ≠ .lst xs := fun _ z => by cases z
/-- the j-th entry of the names -/
def ents (L : List MRow) (i : Nat) : List NEnt := (List.range i).map fun j => (((L.getD j (0, (0, []))).2, (L.getD j (0, (0, []))).1, nV j))
theorem ents_succ (L : List MRow) (i : Nat) : ents L (i + 1) = ents L i ++ [((L.getD i (0, (0, []))).2, (L.getD i (0, (0, []))).1, nV i)] := by
  unfold ents
  rw [List.range_succ, List.map_append]
  rfl
theorem ents_mem {L : List MRow} {i : Nat} (hi : i ≤ L.length) {e : NEnt} (h : e ∈ ents L i) : ∃ j, j < i ∧ L[j]? = some (e.2.1, e.1) := by
  obtain ⟨j, hj, rfl⟩ := List.mem_map.mp h
  have hj' := List.mem_range.mp hj
  refine ⟨j, hj', ?_⟩
  have h1 : L[j]? = some L[j] := List.getElem?_eq_getElem (by omega)
  rw [h1]
  show some L[j] = some ((L.getD j (0, (0, []))).1, (L.getD j (0, (0, []))).2)
  rw [getD_of h1]
def idxM (L : List MRow) (m : Mark) : Nat := (L.map (·.2)).idxOf m
theorem idxM_at {L : List MRow} {m : Mark} (h : m ∈ L.map (·.2)) : idxM L m < L.length ∧ (L.getD (idxM L m) (0, (0, []))).2 = m := by
  have h1 : idxM L m < (L.map (·.2)).length := List.idxOf_lt_length_of_mem h
  have h2 : (L.map (·.2))[idxM L m]? = some m := by
    rw [List.getElem?_eq_getElem h1]
    exact congrArg some (List.getElem_idxOf h1)
  rw [List.length_map] at h1
  refine ⟨h1, ?_⟩
  rw [List.getElem?_map, List.getElem?_eq_getElem h1] at h2
  rw [getD_of (List.getElem?_eq_getElem h1)]
  exact Option.some.inj h2
theorem idxM_inj {L : List MRow} {a b : Mark} (ha : a ∈ L.map (·.2)) (hb : b ∈ L.map (·.2)) (h : idxM L a = idxM L b) : a = b := by
  rw [← (idxM_at ha).2, ← (idxM_at hb).2, h]
section
variable {P : Program} {w : World} {K : PySem.W.Frag} {mg : Str → Option Value} {base : Heap}
abbrev nmClasses : List Str := ["states", "accepting", "table", "number", "many", "marks", "names", "state", "following", "k", "mark"]
theorem scClasses : FnScope nmClasses ["states", "accepting", "table"] (defScope (topS 12)) := C8.fnScope_by (by decide +kernel)
def spClasses (K : PySem.W.Frag) : Sp := fun vs H Q _ => ∃ (b : Bool) (sl ac t : Addr) (M : Mach) (k : Nat) (l : List Nat), vs = [.ref sl, .ref ac, .ref t] ∧ SqB true K H sl (l.map nV) ∧ SqB b K H ac (M.acc.map V.bl) ∧ TabK b K H t M.tab ∧ Wf k M ∧ k ≤ 1000 ∧ Clo1 k M l ∧ l.Nodup ∧ l.length < 64 ∧
  ∀ H' p f, Same H H' → H p = none → H' p = some (numD l f) → (∀ a ∈ l, ∀ b ∈ l, f a = f b ↔ Eqv k M a b) → Q (.ref p) H'
theorem cal_classes (T : Tx K mg) : C8.Cal P w K mg base 1 "classes" (spClasses K) [] := by
  refine cal_of T (i := 12) 5 rfl (by decide +kernel) scClasses (fun _ _ _ _ _ _ us hl => match us, hl with | [_, _, _], _ => rfl) (fun vs H Q E h => ?_) (fun f cdv A outer s H vs Q E hr h => ?_)
  · obtain ⟨b, sl, ac, t, M, k, l, rfl, _⟩ := h
    rfl
  · obtain ⟨b, sl, ac, t, M, k, l, rfl, hS, hA, hT, W, hk, C, nd, few, q⟩ := h
    have hu := hu_of hr
    have hu64 := hr.units
    refine ⟨_, pss_cons (ps_set (i := 3) scClasses.nd rfl (.inr rfl) (pe_dc (own := [("state", 7)]) (g := gName 7) (tt := tYes) rfl scClasses.nd (piB K (pv 0)) (blkOk_by (N := nmClasses) (sc := defScope (topS 12)) (by decide +kernel))
          (fun _ _ _ _ _ => pg_name (i := 7) scClasses.nd rfl (Or.inl rfl)) (fun _ _ _ _ _ => pts_nil) (fun _ _ _ _ _ => pv 7) (fun _ _ _ _ _ => pe_callTy (T := "int") call_int1 (by rfl) (T.b "int" (by decide +kernel)) (by decide +kernel) (pa_cons (pe_ix (ixB K) (pv 1) (pv 7) (fun _ _ => rfl)) pa_nil))))
      (pss_cons (ps_set (i := 4) scClasses.nd rfl (.inl rfl) (pe_lenSet rfl (by rfl) (T.b "len" (by decide +kernel)) (by rfl) (T.b "set" (by decide +kernel)) (pe_callTy (T := "list") (cr_listVals rfl) (by rfl) (T.b "list" (by decide +kernel)) (by decide +kernel) (pa_cons (pe_bm0 PySem.F.plainAttrs_dict PySem.F.slot_dict_values PySem.F.type_dict_values mt_vals (pv 3)) pa_nil))))
      (pss_one (ps_while PassesOwn.never (pt_val pe_bl)
        (pss_cons (ps_set (i := 5) scClasses.nd rfl (.inr rfl) (pe_dc (own := [("state", 7)]) (g := gName 7) (tt := tYes) rfl scClasses.nd (piB K (pv 0)) (blkOk_by (N := nmClasses) (sc := defScope (topS 12)) (by decide +kernel))
          (fun _ _ _ _ _ => pg_name (i := 7) scClasses.nd rfl (Or.inl rfl)) (fun _ _ _ _ _ => pts_nil) (fun _ _ _ _ _ => pv 7)
          (fun _ _ _ _ _ => pe_tup (pa_cons (pe_dget hu (pv 3) (pv 7) (fun _ _ => rfl)) (pa_cons (pe_callTy (T := "tuple") (tupB K) (by rfl) (T.b "tuple" (by decide +kernel)) (by decide +kernel) (pa_cons
            (pe_lc (own := [("following", 8)]) (g := gName 8) (tt := tYes) rfl scClasses.nd (piB K (pe_ix (ixB K) (pv 2) (pv 7) (fun _ _ => rfl))) (blkOk_rel (N := nmClasses) (sc := defScope (topS 12)) rfl (by decide +kernel))
              (fun _ _ _ _ _ => pg_name (i := 8) scClasses.nd rfl (Or.inl rfl)) (fun _ _ _ _ _ => pts_nil) (fun _ _ _ _ _ => pe_dget hu (pv 3) (pv 8) (fun _ _ => rfl))) pa_nil)) pa_nil)))))
        (pss_cons (ps_set (i := 6) scClasses.nd rfl (.inr rfl) (dcNK K P w (own := [("k", 9), ("mark", 10)]) (tt := tYes) rfl hu64 scClasses.nd (pi_enum (by rfl) (T.b "enumerate" (by decide +kernel)) (pa_cons (pe_callB (sortedMK K w rfl hu64) (by rfl) (T.b "sorted" (by decide +kernel)) (by decide +kernel) (pa_cons
            (pe_callTy (T := "set") (setMK K w rfl hu64) (by rfl) (T.b "set" (by decide +kernel)) (by decide +kernel) (pa_cons (pe_callTy (T := "list") (cr_listVals rfl) (by rfl) (T.b "list" (by decide +kernel)) (by decide +kernel) (pa_cons (pe_bm0 PySem.F.plainAttrs_dict PySem.F.slot_dict_values PySem.F.type_dict_values mt_vals (pv 5)) pa_nil)) pa_nil)) pa_nil)) pa_nil))
          (blkOk_by (N := nmClasses) (sc := defScope (topS 12)) (by decide +kernel)) (g := gTup K 2 (gCons (gName 9) (gCons (gName 10) gNil))) (fun _ _ _ _ _ => pg_tup rfl (pgs_cons (pg_name (i := 9) scClasses.nd rfl (Or.inl rfl)) (pgs_cons (pg_name (i := 10) scClasses.nd rfl (Or.inl rfl)) pgs_nil))) (fun _ _ _ _ _ => pts_nil) (fun _ _ _ _ _ => pv 10) (fun _ _ _ _ _ => pv 9)))
        (pss_cons (ps_set (i := 3) scClasses.nd rfl (.inr rfl) (pe_dc (own := [("state", 7)]) (g := gName 7) (tt := tYes) rfl scClasses.nd (piB K (pv 0)) (blkOk_by (N := nmClasses) (sc := defScope (topS 12)) (by decide +kernel))
          (fun _ _ _ _ _ => pg_name (i := 7) scClasses.nd rfl (Or.inl rfl)) (fun _ _ _ _ _ => pts_nil) (fun _ _ _ _ _ => pv 7) (fun _ _ _ _ _ => ixNdK K P w hu64 (pv 6) (pe_dget hu (pv 5) (pv 7) (fun _ _ => rfl)) (fun _ _ => rfl))))
        (pss_cons (ps_if (pt_cmpR op_eq (pe_callB (lenNdK K P w) (by rfl) (T.b "len" (by decide +kernel)) PySem.boot_len (pa_cons (pv 6) pa_nil)) (pv 4) (nomark _)) (pss_one (ps_ret (pv 3))) pss_nil)
        (pss_one (ps_set (i := 4) scClasses.nd rfl (.inl rfl) (pe_callB (lenNdK K P w) (by rfl) (T.b "len" (by decide +kernel)) PySem.boot_len (pa_cons (pv 6) pa_nil))))))))))), ?_⟩
    -- number
    refine ⟨.ref sl, rfl, sl, true, rfl, ⟨_, hS⟩, fun dn hdn => dc_by (wk_seq true K sl (l.map nV)) (fun i H1 => Same H H1 ∧ H1 dn = some (.dK ((l.take i).map fun q => (kI q, V.int (if M.acc.getD q false = true then 1 else 0))))) ⟨same_upd hdn, by rw [upd_same]; rfl⟩ (fun i H1 _ hP => hS.same hP.1) (fun i v H1 hi hv hP => ?_) (fun H1 hP => ?_)⟩
    · rw [List.length_map] at hi
      have hli := List.getElem?_eq_getElem hi
      rw [List.getElem?_map, hli] at hv
      cases hv
      obtain ⟨sm, ed⟩ := hP
      have hacc : (M.acc.map V.bl)[l[i]]? = some (.bl (M.acc.getD l[i] false)) := by
        have h1 := C.lt _ (List.getElem_mem hi)
        rw [List.getElem?_map, List.getElem?_eq_getElem h1, getD_of (List.getElem?_eq_getElem h1)]
        rfl
      refine ⟨rfl, _, rfl, _, rfl, _, rfl, b, _, _, _, _, rfl, rfl, hA.same sm, atI_nat hacc, .inr ⟨_, rfl, _, kI l[i], rfl, ed, by rw [List.length_map, List.length_take, sizeLine_eq]; omega, fun c o e => ?_, ?_⟩⟩
      · rw [upd_ne (ne_of_none e hdn)]
        exact sm c o e
      · rw [upd_same]
        exact congrArg some (congrArg HO.dK (put_take nd (fun q => V.int (if M.acc.getD q false = true then 1 else 0)) hli))
    obtain ⟨sm, ed⟩ := hP
    rw [List.length_map, List.take_length] at ed
    -- many
    have eds : ((l.map fun q => (kI q, V.int (if M.acc.getD q false = true then 1 else 0))).map (·.2)) = (l.map fun q => (if M.acc.getD q false = true then (1 : Int) else 0)).map V.int := by
      rw [List.map_map, List.map_map]
      rfl
    refine ⟨_, rfl, .inr (.inr (.inl ⟨rfl, .inl ⟨_, ed⟩⟩)), dn, _, rfl, rfl, ed, fun vp nvp => ⟨vp, dn, _, rfl, upd_same, (upd_ne (ne_of_none ed nvp)).trans ed, fun lp nlp => ⟨lp, _, rfl, SqL.of (by rw [upd_same, eds]), by rw [List.length_map]; omega, ?_⟩⟩⟩
    have sm2 : Same H (upd (upd H1 vp (ViewO vp dn)) lp (.lst (((l.map fun q => (kI q, V.int (if M.acc.getD q false = true then 1 else 0))).map (·.2))))) := (sm.trans (same_upd nvp)).trans (same_upd nlp)
    have ed2 : upd (upd H1 vp (ViewO vp dn)) lp (.lst (((l.map fun q => (kI q, V.int (if M.acc.getD q false = true then 1 else 0))).map (·.2)))) dn = some (numD l fun q => if M.acc.getD q false = true then 1 else 0) := same_upd nlp _ _ (same_upd nvp _ _ ed)
    generalize upd (upd H1 vp (ViewO vp dn)) lp (.lst (((l.map fun q => (kI q, V.int (if M.acc.getD q false = true then 1 else 0))).map (·.2)))) = H2 at sm2 ed2 ⊢
    clear ed sm nvp nlp eds
    -- while True
    refine while_by (fun σ H1 => ∃ (f : Nat → Int) (dn : Addr) (y5 y6 : Option V), σ = [some (.ref sl), some (.ref ac), some (.ref t), some (.ref dn), some (nV (many (l.map f))), y5, y6, none, none, none, none] ∧ Same H H1 ∧ H dn = none ∧ H1 dn = some (numD l f) ∧ Num k M l f)
      (fun σ _ => l.length + 1 - (sI 4 σ).toNat) ⟨_, dn, none, none, rfl, sm2, hdn, ed2, .start k M l⟩ (fun σ H1 hP => ?_) (fun σ H Q Q' m ⟨c, e, h⟩ => ⟨c, e, m _ _ h⟩)
    obtain ⟨f, dn, y5, y6, rfl, sm, hdn, ed, N⟩ := hP
    refine ⟨true, rfl, iteT ?_⟩
    -- marks
    refine ⟨.ref sl, rfl, sl, true, rfl, ⟨_, hS.same sm⟩, fun dm hdm => dc_by (wk_seq true K sl (l.map nV)) (fun i H2 => Same H1 H2 ∧ ∃ ad : Nat → Addr, H2 dm = some (.dK ((l.take i).map fun q => (kI q, V.ref (ad q)))) ∧ ∀ q ∈ l.take i, MarkH K H2 (ad q) (mark k M.tab f q))
      ⟨same_upd hdm, fun _ => 0, by rw [upd_same]; rfl, fun q h => by simp at h⟩ (fun i H2 _ hP => hS.same (sm.trans hP.1)) (fun i v H2 hi hv hP => ?_) (fun H2 hP => ?_)⟩
    · rw [List.length_map] at hi
      have hli := List.getElem?_eq_getElem hi
      rw [List.getElem?_map, hli] at hv
      cases hv
      obtain ⟨sm2, ad, em, hmk⟩ := hP
      have hqm := List.getElem_mem hi
      generalize l[i] = q at hli hqm ⊢
      have hqn := C.lt q hqm
      obtain ⟨rs, r, row, h1, h2, h3, h4, h5, h6⟩ := hT.row W.tb hqn
      have sm3 := sm.trans sm2
      refine ⟨rfl, _, rfl, _, rfl, _, rfl, dn, _, rfl, DGet_at (sm2 _ _ ed) hqm, _, rfl, _, rfl, b, _, _, _, _, rfl, rfl, h1.same sm3, atI_nat h2, r, b, rfl, ⟨_, h3.same sm3⟩, fun E hE => lc_pure (wk_seq b K r (row.map nV)) (fun a => V.int (f (nxt M.tab q a))) (by rw [List.length_map]; omega) (fun a acc _ => (h3.same sm3).same (same_upd hE)) (fun a u acc hj hu H3 e3 => ?_) ?_ (fun σ H Q Q' m q => ?_) (fun _ _ _ _ _ m q => m _ _ q)⟩
      · rw [List.length_map, h4] at hj
        rw [List.getElem?_map, h6 a hj] at hu
        cases hu
        have hcl := C.cl q hqm a hj
        refine ⟨rfl, _, rfl, _, rfl, dn, _, rfl, DGet_at (by rw [e3]; exact same_upd hE _ _ (sm2 _ _ ed)) hcl, e3, rfl⟩
      · rw [List.length_map, h4]
        refine ⟨E, _, rfl, .inl ⟨SqL.of upd_same, fun tp ntp => ⟨by show 2 ≤ sizeLine; decide, fun mp nmp => ⟨(l.take i).map fun q => (kI q, V.ref (ad q)), kI q, rfl, ?_, ?_, ?_, fun c => if c = q then mp else ad c, ?_, ?_⟩⟩⟩⟩
        · exact same_upd nmp _ _ (same_upd ntp _ _ (same_upd hE _ _ em))
        · rw [List.length_map, List.length_take, sizeLine_eq]
          omega
        · intro c o e
          rw [upd_ne (ne_of_none e hdm)]
          exact same_upd nmp _ _ (same_upd ntp _ _ (same_upd hE _ _ (sm2 _ _ e)))
        · have e0 : ((l.take i).map fun c => (kI c, V.ref (ad c))) = (l.take i).map fun c => (kI c, V.ref (if c = q then mp else ad c)) := by
            apply List.map_congr_left
            intro c hc
            rw [if_neg]
            intro z
            rw [z] at hc
            obtain ⟨j, hj⟩ := List.mem_iff_getElem?.mp hc
            rw [List.getElem?_take] at hj
            by_cases y : j < i
            · rw [if_pos y] at hj
              have := nd_ix nd hj hli
              omega
            · rw [if_neg y] at hj
              cases hj
          have e1 := put_take nd (fun c => V.ref (if c = q then mp else ad c)) hli
          rw [upd_same, e0, ← e1]
          show some (HO.dK (putK _ _ (V.ref mp))) = some (HO.dK (putK _ _ (V.ref (if q = q then mp else ad q))))
          rw [if_pos rfl]
        · intro c hc
          dsimp only
          have old : ∀ c o, H2 c = some o → c ≠ dm → upd (upd (upd (upd H2 E (.lst ((List.range k).map fun a => V.int (f (nxt M.tab q a))))) tp (.tup ((List.range k).map fun a => V.int (f (nxt M.tab q a))))) mp (.tup [V.int (f q), .ref tp])) dm (.dK (putK ((l.take i).map fun q => (kI q, V.ref (ad q))) (kI q) (.ref mp))) c = some o := fun c o e n => by
            rw [upd_ne n]
            exact same_upd nmp _ _ (same_upd ntp _ _ (same_upd hE _ _ e))
          have ntm : tp ≠ dm := fun z => by rw [z] at ntp; rw [same_upd hE _ _ em] at ntp; cases ntp
          have nmm : mp ≠ dm := fun z => by rw [z] at nmp; rw [same_upd ntp _ _ (same_upd hE _ _ em)] at nmp; cases nmp
          rw [List.take_add_one, hli] at hc
          rcases List.mem_append.mp hc with z | z
          · have ncq : c ≠ q := fun y => by
              rw [y] at z
              obtain ⟨j, hj⟩ := List.mem_iff_getElem?.mp z
              rw [List.getElem?_take] at hj
              by_cases y : j < i
              · rw [if_pos y] at hj
                have := nd_ix nd hj hli
                omega
              · rw [if_neg y] at hj
                cases hj
            rw [if_neg ncq]
            exact (hmk c z).sameB em dK_nu fun c o n e => old c o e n
          · have ecq : c = q := by simpa using z
            rw [if_pos ecq, ecq]
            refine ⟨tp, SqT.of ?_, SqT.of ?_⟩
            · rw [upd_ne nmm, upd_same]
              rfl
            · rw [upd_ne ntm, upd_ne (upd_none nmp).2.symm, upd_same]
              rw [mark, List.map_map]
              rfl
      · obtain ⟨v1, e1, v2, e2, a, v3, e3, e4, e5⟩ := q
        exact ⟨v1, e1, v2, e2, a, v3, e3, e4, m _ _ e5⟩
    obtain ⟨sm2, ad, em, hmk⟩ := hP
    rw [List.length_map, List.take_length] at em hmk
    -- names
    have hmr : ∀ p ∈ l.map (fun q => ((ad q, mark k M.tab f q) : MRow)), MarkH K H2 p.1 p.2 := fun p hp => by
      obtain ⟨q, hq, rfl⟩ := List.mem_map.mp hp
      exact hmk q hq
    have evs : (l.map fun q => (kI q, V.ref (ad q))).map (·.2) = (l.map (fun q => ((ad q, mark k M.tab f q) : MRow))).map fun p => V.ref p.1 := by
      rw [List.map_map, List.map_map]
      rfl
    refine ⟨_, rfl, .inr (.inr (.inl ⟨rfl, .inl ⟨_, em⟩⟩)), dm, _, rfl, rfl, em, fun vp nvp => ⟨vp, dm, _, rfl, upd_same, same_upd nvp _ _ em, fun lp nlp => ⟨lp, l.map (fun q => ((ad q, mark k M.tab f q) : MRow)), rfl, SqL.of (by rw [upd_same, evs]), fun p hp => ((hmr p hp).same (same_upd nvp)).same (same_upd nlp), by rw [List.length_map]; exact few, fun sp L nsp hL1 hL2 =>
      ⟨sp, L, rfl, upd_same, fun p hp => (((hmr p (hL1 p hp)).same (same_upd nvp)).same (same_upd nlp)).same (same_upd nsp), fun L' qp pL ndL lt nqp => ⟨qp, _, rfl, SqL.of upd_same, fun D hD => ?_⟩⟩⟩⟩⟩
    have smA : Same H2 (upd (upd (upd (upd H2 vp (ViewO vp dm)) lp (.lst ((l.map fun q => (kI q, V.ref (ad q))).map (·.2)))) sp (SetNO w sp L)) qp (.lst (L'.map fun q => V.ref q.1))) := (((same_upd nvp).trans (same_upd nlp)).trans (same_upd nsp)).trans (same_upd nqp)
    have eq3 : upd (upd (upd (upd H2 vp (ViewO vp dm)) lp (.lst ((l.map fun q => (kI q, V.ref (ad q))).map (·.2)))) sp (SetNO w sp L)) qp (.lst (L'.map fun q => V.ref q.1)) qp = some (.lst (L'.map fun q => V.ref q.1)) := upd_same
    generalize upd (upd (upd (upd H2 vp (ViewO vp dm)) lp (.lst ((l.map fun q => (kI q, V.ref (ad q))).map (·.2)))) sp (SetNO w sp L)) qp (.lst (L'.map fun q => V.ref q.1)) = H3 at smA eq3 hD ⊢
    clear nvp nlp nsp nqp evs
    have memL : ∀ p ∈ L', ∃ q ∈ l, p = (ad q, mark k M.tab f q) := fun p hp => by
      obtain ⟨q, hq, e⟩ := List.mem_map.mp (hL1 p (pL.mem_iff.mp hp))
      exact ⟨q, hq, e.symm⟩
    have allL : ∀ q ∈ l, mark k M.tab f q ∈ L'.map (·.2) := fun q hq => by
      have z := hL2 _ (List.mem_map.mpr ⟨q, hq, rfl⟩)
      exact (pL.map (·.2)).mem_iff.mpr z
    have hm3 : ∀ p ∈ L', MarkH K H3 p.1 p.2 := fun p hp => (hmr p (hL1 p (pL.mem_iff.mp hp))).same smA
    have sm3 := (sm.trans sm2).trans smA
    have ed3 := smA _ _ (sm2 _ _ ed)
    have em3 := smA _ _ em
    have dist : Dist (mark k M.tab f) l (L'.map (·.2)) := ⟨ndL, fun z => ⟨fun h => by
      obtain ⟨p, hp, rfl⟩ := List.mem_map.mp h
      obtain ⟨q, hq, rfl⟩ := memL p hp
      exact ⟨q, hq, rfl⟩, fun ⟨q, hq, e⟩ => by rw [← e]; exact allL q hq⟩⟩
    clear hL1 hL2 pL L hmr
    refine ⟨fun i m H4 => i + m = L'.length ∧ Same H3 H4 ∧ H4 D = some (NdO P w D (ents L' i)), ⟨L'.length, Nat.zero_add _, same_upd hD, upd_same⟩, fun i m H4 hW => ?_⟩
    obtain ⟨him, sm4, eD⟩ := hW
    by_cases hi : i < L'.length
    · refine .inr ⟨⟨_, V.ref L'[i].1, SqL.of (sm4 _ _ eq3), by rw [List.getElem?_map, List.getElem?_eq_getElem hi]; rfl⟩, fun H4 => i + 1 ≤ L'.length ∧ Same H3 H4 ∧ H4 D = some (NdO P w D (ents L' (i + 1))), fun H' hN => ⟨m - 1, by omega, by omega, hN.2⟩, fun v H' hy => ?_⟩
      obtain ⟨TT, x0, rfl, nT, rfl, hx⟩ := hy
      have ex0 : x0 = V.ref L'[i].1 := by
        have z := hx _ (SqL.of (sm4 _ _ eq3))
        rw [List.getElem?_map, List.getElem?_eq_getElem hi] at z
        exact (Option.some.inj z).symm
      subst ex0
      have sm5 : Same H3 (upd H4 TT (.tup [.int (i : Nat), V.ref L'[i].1])) := sm4.trans (same_upd nT)
      refine ⟨TT, _, rfl, SqT.of upd_same, rfl, _, _, rfl, _, _, rfl, rfl, rfl, _, rfl, _, rfl, ents L' i, L'[i].2, L'[i].1, rfl, same_upd nT _ _ eD, fun e he => ?_, (hm3 _ (List.getElem_mem hi)).same sm5, fun z => ?_, by unfold ents; rw [List.length_map, List.length_range]; omega, hi, fun c o e => ?_, ?_⟩
      · obtain ⟨j, hj, ej⟩ := ents_mem (Nat.le_of_lt hi) he
        exact (hm3 _ (List.mem_of_getElem? ej)).same sm5
      · obtain ⟨e, he, ee⟩ := List.mem_map.mp z
        obtain ⟨j, hj, ej⟩ := ents_mem (Nat.le_of_lt hi) he
        have e1 : (L'.map (·.2))[j]? = some L'[i].2 := by rw [List.getElem?_map, ej]; exact congrArg some ee
        have e2 : (L'.map (·.2))[i]? = some L'[i].2 := by rw [List.getElem?_map, List.getElem?_eq_getElem hi]; rfl
        have := nd_ix ndL e1 e2
        omega
      · rw [upd_ne (ne_of_none e hD)]
        exact sm5 c o e
      · rw [upd_same, ents_succ, getD_of (List.getElem?_eq_getElem hi)]
        rfl
    have ei : i = L'.length := by omega
    subst ei
    refine .inl ⟨⟨_, SqL.of (sm4 _ _ eq3), by rw [List.length_map]; exact Nat.le_refl _⟩, ?_⟩
    have hmE : ∀ e ∈ ents L' L'.length, MarkH K H4 e.2.1 e.1 := fun e he => by
      obtain ⟨j, hj, ej⟩ := ents_mem (Nat.le_refl _) he
      exact (hm3 _ (List.mem_of_getElem? ej)).same sm4
    have elen : (ents L' L'.length).length = L'.length := by unfold ents; rw [List.length_map, List.length_range]
    -- number
    refine ⟨.ref sl, rfl, sl, true, rfl, ⟨_, hS.same (sm3.trans sm4)⟩, fun dn2 hdn2 => dc_by (wk_seq true K sl (l.map nV)) (fun i H5 => Same H4 H5 ∧ H5 dn2 = some (.dK ((l.take i).map fun q => (kI q, V.int ((idxM L' (mark k M.tab f q) : Nat) : Int))))) ⟨same_upd hdn2, by rw [upd_same]; rfl⟩ (fun i H5 _ hP => hS.same ((sm3.trans sm4).trans hP.1)) (fun i v H5 hi hv hP => ?_) (fun H5 hP => ?_)⟩
    · rw [List.length_map] at hi
      have hli := List.getElem?_eq_getElem hi
      rw [List.getElem?_map, hli] at hv
      cases hv
      obtain ⟨sm5, ed5⟩ := hP
      have hqm := List.getElem_mem hi
      generalize l[i] = q at hli hqm ⊢
      obtain ⟨i1, i2⟩ := idxM_at (allL q hqm)
      have gm : DGet H5 dm (nV q) (some (V.ref (ad q))) := by
        have z := DGet.k (k := kI q) (sm5 _ _ (sm4 _ _ em3))
        rw [valV_at (fun q => V.ref (ad q)) hqm] at z
        exact z
      refine ⟨rfl, _, rfl, _, rfl, _, rfl, _, rfl, dm, _, rfl, gm, D, ad q, ents L' L'.length, mark k M.tab f q, (L'.getD (idxM L' (mark k M.tab f q)) (0, (0, []))).1, nV (idxM L' (mark k M.tab f q)), rfl, rfl, sm5 _ _ eD, fun e he => (hmE e he).same sm5, ((hmk q hqm).same (smA.trans sm4)).same sm5, ?_, _, kI q, rfl, ed5, by rw [List.length_map, List.length_take, sizeLine_eq]; omega, fun c o e => ?_, ?_⟩
      · refine List.mem_map.mpr ⟨idxM L' (mark k M.tab f q), List.mem_range.mpr i1, ?_⟩
        rw [i2]
      · rw [upd_ne (ne_of_none e hdn2)]
        exact sm5 c o e
      · rw [upd_same]
        exact congrArg some (congrArg HO.dK (put_take nd (fun q => V.int ((idxM L' (mark k M.tab f q) : Nat) : Int)) hli))
    obtain ⟨sm5, ed5⟩ := hP
    rw [List.length_map, List.take_length] at ed5
    have hg : ∀ a ∈ l, ∀ b ∈ l, ((idxM L' (mark k M.tab f a) : Nat) : Int) = ((idxM L' (mark k M.tab f b) : Nat) : Int) ↔ mark k M.tab f a = mark k M.tab f b := fun a ha b hb => ⟨fun e => idxM_inj (allL a ha) (allL b hb) (by omega), fun e => by rw [e]⟩
    obtain ⟨Df, hDf, eDf⟩ := many_dist f l
    obtain ⟨Dg, hDg, eDg⟩ := many_dist (fun q => ((idxM L' (mark k M.tab f q) : Nat) : Int)) l
    have r1 := refine_len hDf dist fun a ha b hb e => (mark_eq e).1
    have r2 := refine_len dist hDg fun a ha b hb e => (hg a ha b hb).mp e
    have r3 := refine_len hDg dist fun a ha b hb e => (hg a ha b hb).mpr e
    rw [List.length_map] at r1 r2 r3
    have smZ := (sm3.trans sm4).trans sm5
    have hdnew : H dn2 = none := by
      cases z : H dn2 with
      | none => rfl
      | some o =>
        have := (sm3.trans sm4) _ _ z
        rw [this] at hdn2
        cases hdn2
    have nmE : ∀ e ∈ ents L' L'.length, MarkH K H5 e.2.1 e.1 := fun e he => (hmE e he).same sm5
    refine ⟨_, rfl, D, ents L' L'.length, rfl, sm5 _ _ eD, nmE, by rw [elen]; omega, _, rfl, rfl, _, rfl, ite2 (fun c => ?_) fun c => ?_⟩
    · -- the same number as before
      have c1 : ((ents L' L'.length).length : Int) = ((many (l.map f) : Nat) : Int) := V.int.inj (of_decide_eq_true c)
      rw [elen, eDf] at c1
      refine ⟨_, rfl, q H5 dn2 _ smZ hdnew ed5 (N.done C hg fun a ha b hb e => (hg a ha b hb).mpr (r1.2 (by omega) a ha b hb e))⟩
    · have c1 : ¬ ((ents L' L'.length).length : Int) = ((many (l.map f) : Nat) : Int) := fun z => c (decide_eq_true (congrArg V.int z))
      rw [elen, eDf] at c1
      have dl := dist.le
      rw [List.length_map] at dl
      refine ⟨_, rfl, D, ents L' L'.length, rfl, sm5 _ _ eD, nmE, by rw [elen]; omega, ⟨_, dn2, some (.ref dm), some (.ref D), ?_, smZ, hdnew, ed5, N.next C hg⟩, ?_⟩
      · rw [elen]
        have e9 : L'.length = many (l.map fun q => ((idxM L' (mark k M.tab f q) : Nat) : Int)) := by rw [eDg]; omega
        rw [← e9]
        rfl
      · have z1 := r1.1
        show l.length + 1 - (((ents L' L'.length).length : Int)).toNat < l.length + 1 - (((many (l.map f) : Nat) : Int)).toNat
        rw [elen, eDf]
        omega
end
end K46
set_option Elab.async false
set_option linter.all false
set_option maxRecDepth 100000
set_option maxHeartbeats 1600000
namespace K46
open PySem PySem.Spec PyProof.Rows L2
/-! ### lookups -/
theorem valV_no {κ : Type} [DecidableEq κ] : ∀ {kvs : List (κ × V)} {k : κ}, k ∉ kvs.map (·.1) → valV kvs k = none
  | [], _, _ => rfl
  | p :: r, k, h => by
    have h1 : ¬ p.1 = k := fun e => h (by rw [← e]; exact List.mem_cons_self)
    have h2 : k ∉ r.map (·.1) := fun e => h (List.mem_cons_of_mem _ e)
    have := valV_no h2
    unfold valV at this ⊢
    rw [List.find?_cons, decide_eq_false h1]
    exact this
theorem valV_mem {κ : Type} [DecidableEq κ] : ∀ {kvs : List (κ × V)} {k : κ} {v : V}, (kvs.map (·.1)).Nodup → (k, v) ∈ kvs → valV kvs k = some v
  | [], _, _, _, h => by cases h
  | p :: r, k, v, hn, h => by
    obtain ⟨n1, n2⟩ := List.nodup_cons.mp hn
    unfold valV
    rcases List.mem_cons.mp h with e | h
    · subst e
      rw [List.find?_cons, decide_eq_true rfl]
      rfl
    · have h1 : ¬ p.1 = k := fun e => n1 (by show p.1 ∈ _; rw [e]; exact List.mem_map.mpr ⟨_, h, rfl⟩)
      rw [List.find?_cons, decide_eq_false h1]
      exact valV_mem n2 h
/-! ### the least machine -/
structure Least (k : Nat) (L : List Nat → Bool) (M : Mach) : Prop where
  wf : Wf k M
  lang : ∀ v, okW k v → accT M 0 v = L v
  red : ∀ i j, i < M.acc.length → j < M.acc.length → Eqv k M i j → i = j
  rea : ∀ i, i < M.acc.length → ∃ v, okW k v ∧ runT M.tab 0 v = i
/-- the states chosen of l so far, by their numbers -/
structure Chosen (l : List Nat) (f : Nat → Int) (i : Nat) (cs : List Nat) : Prop where
  sub : ∀ c ∈ cs, c ∈ l
  all : ∀ q ∈ l.take i, ∃ c ∈ cs, f c = f q
  nd : (cs.map f).Nodup
  hd : 0 < i → cs[0]? = l[0]?
  len : cs.length ≤ i
theorem Chosen.nil (l : List Nat) (f : Nat → Int) : Chosen l f 0 [] := ⟨fun c h => (by cases h), fun q h => by simp at h, List.nodup_nil, fun h => absurd h (Nat.lt_irrefl 0), Nat.le_refl _⟩
theorem Chosen.old {l : List Nat} {f : Nat → Int} {i q : Nat} {cs : List Nat} (c : Chosen l f i cs) (hq : l[i]? = some q) (h : f q ∈ cs.map f) : Chosen l f (i + 1) cs where
  sub := c.sub
  all := fun p hp => by
    rw [List.take_add_one, hq] at hp
    rcases List.mem_append.mp hp with z | z
    · exact c.all p z
    · obtain ⟨d, hd, e⟩ := List.mem_map.mp h
      have : p = q := by simpa using z
      rw [this]
      exact ⟨d, hd, e⟩
  nd := c.nd
  hd := fun _ => by
    rcases Nat.eq_zero_or_pos i with z | z
    · exfalso
      have := c.len
      obtain ⟨d, hd, _⟩ := List.mem_map.mp h
      have := List.length_pos_of_mem hd
      omega
    · exact c.hd z
  len := Nat.le_succ_of_le c.len
theorem Chosen.new {l : List Nat} {f : Nat → Int} {i q : Nat} {cs : List Nat} (c : Chosen l f i cs) (hq : l[i]? = some q) (h : f q ∉ cs.map f) : Chosen l f (i + 1) (cs ++ [q]) where
  sub := fun p hp => by
    rcases List.mem_append.mp hp with z | z
    · exact c.sub p z
    · rw [List.mem_singleton.mp z]
      exact List.mem_of_getElem? hq
  all := fun p hp => by
    rw [List.take_add_one, hq] at hp
    rcases List.mem_append.mp hp with z | z
    · obtain ⟨d, hd, e⟩ := c.all p z
      exact ⟨d, List.mem_append_left _ hd, e⟩
    · have : p = q := by simpa using z
      rw [this]
      exact ⟨q, List.mem_append_right _ (List.mem_singleton.mpr rfl), rfl⟩
  nd := by
    rw [List.map_append]
    exact nodup_snoc c.nd h
  hd := fun _ => by
    rcases Nat.eq_zero_or_pos i with z | z
    · subst z
      have e : cs = [] := List.eq_nil_of_length_eq_zero (Nat.le_zero.mp c.len)
      rw [e, hq]
      rfl
    · have h1 := c.hd z
      cases cs with
      | nil =>
        cases l with
        | nil => simp at hq
        | cons a l => simp at h1
      | cons a cs => exact h1
  len := by
    rw [List.length_append, List.length_singleton]
    exact Nat.succ_le_succ c.len
/-- the place of q's number among the chosen ones' -/
def pl (cs : List Nat) (f : Nat → Int) (q : Nat) : Nat := (cs.map f).idxOf (f q)
theorem pl_at {cs : List Nat} {f : Nat → Int} {q : Nat} (h : f q ∈ cs.map f) : pl cs f q < cs.length ∧ f (cs.getD (pl cs f q) 0) = f q := by
  have h1 : pl cs f q < (cs.map f).length := List.idxOf_lt_length_of_mem h
  have h2 : (cs.map f)[pl cs f q]? = some (f q) := by
    rw [List.getElem?_eq_getElem h1]
    exact congrArg some (List.getElem_idxOf h1)
  rw [List.length_map] at h1
  rw [List.getElem?_map, List.getElem?_eq_getElem h1] at h2
  rw [getD_of (List.getElem?_eq_getElem h1)]
  exact ⟨h1, Option.some.inj h2⟩
theorem pl_self {cs : List Nat} {f : Nat → Int} (nd : (cs.map f).Nodup) {i : Nat} (hi : i < cs.length) : pl cs f (cs.getD i 0) = i := by
  have h0 := getD_of (d := 0) (List.getElem?_eq_getElem hi)
  have hm : f (cs.getD i 0) ∈ cs.map f := by rw [h0]; exact List.mem_map.mpr ⟨_, List.getElem_mem hi, rfl⟩
  obtain ⟨h1, h2⟩ := pl_at hm
  refine nd_ix nd (i := pl cs f (cs.getD i 0)) (j := i) (x := f (cs.getD i 0)) ?_ ?_
  · rw [List.getElem?_map, List.getElem?_eq_getElem h1, Option.map_some, ← h2, getD_of (d := 0) (List.getElem?_eq_getElem h1)]
  · rw [List.getElem?_map, List.getElem?_eq_getElem hi, Option.map_some, h0]
theorem pl_eq {cs : List Nat} {f : Nat → Int} {a b : Nat} (h : f a = f b) : pl cs f a = pl cs f b := by
  unfold pl
  rw [h]
/-- the machine made of them -/
def leastM (k : Nat) (M : Mach) (f : Nat → Int) (cs : List Nat) : Mach := ⟨cs.map fun c => M.acc.getD c false, cs.map fun c => (List.range k).map fun a => pl cs f (nxt M.tab c a)⟩
theorem least_of_ok {k : Nat} {M : Mach} {l cs : List Nat} {f : Nat → Int} (W : Wf k M) (R : Reach k M.acc.length M.tab l) (hf : ∀ a ∈ l, ∀ b ∈ l, f a = f b ↔ Eqv k M a b) (C : Chosen l f l.length cs) : Least k (accT M 0) (leastM k M f cs) ∧ cs.length ≤ l.length := by
  have mem : ∀ q ∈ l, f q ∈ cs.map f := fun q hq => by
    obtain ⟨c, hc, e⟩ := C.all q (by rw [List.take_length]; exact hq)
    exact List.mem_map.mpr ⟨c, hc, e⟩
  have h0 : (0 : Nat) ∈ l := List.mem_of_getElem? R.hd
  have lpos : 0 < l.length := List.length_pos_of_mem h0
  have c0 : cs[0]? = some 0 := (C.hd lpos).trans R.hd
  have cpos : 0 < cs.length := (List.getElem?_eq_some_iff.mp c0).1
  have cmem : ∀ i, i < cs.length → cs.getD i 0 ∈ l := fun i hi => by
    rw [getD_of (List.getElem?_eq_getElem hi)]
    exact C.sub _ (List.getElem_mem hi)
  have len1 : (leastM k M f cs).acc.length = cs.length := by show (cs.map _).length = _; rw [List.length_map]
  have len2 : (leastM k M f cs).tab.length = cs.length := by show (cs.map _).length = _; rw [List.length_map]
  have step : ∀ i a, i < cs.length → a < k → nxt (leastM k M f cs).tab i a = pl cs f (nxt M.tab (cs.getD i 0) a) := fun i a hi ha => by
    unfold nxt leastM
    rw [getD_of (show (cs.map fun c => (List.range k).map fun a => pl cs f (nxt M.tab c a))[i]? = some ((List.range k).map fun a => pl cs f (nxt M.tab (cs.getD i 0) a)) by
      rw [List.getElem?_map, List.getElem?_eq_getElem hi, getD_of (List.getElem?_eq_getElem hi)]; rfl)]
    exact getD_of (by rw [List.getElem?_map, List.getElem?_range ha]; rfl)
  have accAt : ∀ i, i < cs.length → (leastM k M f cs).acc.getD i false = M.acc.getD (cs.getD i 0) false := fun i hi => by
    refine getD_of ?_
    show (cs.map fun c => M.acc.getD c false)[i]? = _
    rw [List.getElem?_map, List.getElem?_eq_getElem hi, getD_of (d := 0) (List.getElem?_eq_getElem hi)]
    rfl
  have eqv_pl : ∀ q ∈ l, Eqv k M (cs.getD (pl cs f q) 0) q := fun q hq => by
    obtain ⟨h1, h2⟩ := pl_at (mem q hq)
    exact (hf _ (cmem _ h1) q hq).mp h2
  have run : ∀ (v : List Nat), okW k v → ∀ q ∈ l, runT (leastM k M f cs).tab (pl cs f q) v = pl cs f (runT M.tab q v) ∧ runT M.tab q v ∈ l := by
    intro v
    induction v with
    | nil => exact fun _ q hq => ⟨rfl, hq⟩
    | cons a v ih =>
      intro ok q hq
      have ha := ok a List.mem_cons_self
      have hn := R.cl q hq a ha
      obtain ⟨i1, i2⟩ := ih (fun x hx => ok x (List.mem_cons_of_mem _ hx)) _ hn
      refine ⟨?_, i2⟩
      show runT (leastM k M f cs).tab (nxt (leastM k M f cs).tab (pl cs f q) a) v = _
      have hp := (pl_at (mem q hq)).1
      rw [step _ a hp ha]
      have e : pl cs f (nxt M.tab (cs.getD (pl cs f q) 0) a) = pl cs f (nxt M.tab q a) := pl_eq ((hf _ (R.cl _ (cmem _ hp) a ha) _ hn).mpr ((eqv_pl q hq).step ha))
      rw [e]
      exact i1
  have accRun : ∀ (v : List Nat), okW k v → ∀ q ∈ l, accT (leastM k M f cs) (pl cs f q) v = accT M q v := fun v ok q hq => by
    obtain ⟨h1, h2⟩ := run v ok q hq
    unfold accT
    rw [h1, accAt _ (pl_at (mem _ h2)).1]
    have := eqv_pl _ h2 [] fun _ h => (by cases h)
    exact this
  have p0 : pl cs f 0 = 0 := by
    have := pl_self C.nd cpos
    rwa [getD_of c0] at this
  refine ⟨⟨⟨by rw [len1, len2], by rw [len1]; exact cpos, fun r hr => ?_, ?_⟩, fun v ok => ?_, fun i j hi hj e => ?_, fun i hi => ?_⟩, C.len⟩
  · obtain ⟨c, hc, rfl⟩ := List.mem_map.mp hr
    refine ⟨by rw [List.length_map, List.length_range], fun q hq => ?_⟩
    obtain ⟨a, ha, rfl⟩ := List.mem_map.mp hq
    rw [len1]
    exact (pl_at (mem _ (R.cl c (C.sub c hc) a (List.mem_range.mp ha)))).1
  · rw [len1]
    have := C.len
    have := R.toRch.le
    have := W.few
    omega
  · have := accRun v ok 0 h0
    rwa [p0] at this
  · rw [len1] at hi hj
    have e2 : Eqv k M (cs.getD i 0) (cs.getD j 0) := fun v ok => by
      have h1 := accRun v ok _ (cmem i hi)
      have h2 := accRun v ok _ (cmem j hj)
      rw [pl_self C.nd hi] at h1
      rw [pl_self C.nd hj] at h2
      rw [← h1, ← h2]
      exact e v ok
    have e3 := (hf _ (cmem i hi) _ (cmem j hj)).mpr e2
    have := pl_eq (cs := cs) e3
    rwa [pl_self C.nd hi, pl_self C.nd hj] at this
  · rw [len1] at hi
    obtain ⟨v, ok, e⟩ := R.re _ (cmem i hi)
    refine ⟨v, ok, ?_⟩
    have := (run v ok 0 h0).1
    rw [p0, e, pl_self C.nd hi] at this
    exact this
/-- the dict of the places -/
def plD (cs : List Nat) (f : Nat → Int) (d : Nat → Nat) : HO := .dK (cs.map fun c => ((Sum.inl (f c) : Key), nV (d c)))
end K46
set_option Elab.async false
set_option linter.all false
set_option maxRecDepth 100000
set_option maxHeartbeats 1600000
namespace K46
open PySem PySem.Spec PyProof.Rows L2
theorem pl_old {cs : List Nat} {f : Nat → Int} {c q : Nat} (h : c ∈ cs) : pl (cs ++ [q]) f c = pl cs f c := by
  unfold pl
  rw [List.map_append, List.idxOf_append, if_pos (List.mem_map.mpr ⟨c, h, rfl⟩)]
theorem pl_new {cs : List Nat} {f : Nat → Int} {q : Nat} (h : f q ∉ cs.map f) : pl (cs ++ [q]) f q = cs.length := by
  unfold pl
  rw [List.map_append, List.idxOf_append, if_neg h, List.length_map]
  show List.idxOf (f q) [f q] + cs.length = cs.length
  rw [List.idxOf_cons_self, Nat.zero_add]
def plL (cs : List Nat) (f : Nat → Int) : List (Key × V) := cs.map fun c => ((Sum.inl (f c) : Key), nV (pl cs f c))
theorem plL_fst (cs : List Nat) (f : Nat → Int) : (plL cs f).map (·.1) = (cs.map f).map fun z => (Sum.inl z : Key) := by
  unfold plL
  rw [List.map_map, List.map_map]
  rfl
theorem plL_nd {cs : List Nat} {f : Nat → Int} (nd : (cs.map f).Nodup) : ((plL cs f).map (·.1)).Nodup := by
  rw [plL_fst]
  exact List.Pairwise.map _ (fun a b h e => h (Sum.inl.inj e)) nd
theorem plL_mem {cs : List Nat} {f : Nat → Int} {q : Nat} : (Sum.inl (f q) : Key) ∈ (plL cs f).map (·.1) ↔ f q ∈ cs.map f := by
  rw [plL_fst, List.mem_map]
  exact ⟨fun ⟨z, h, e⟩ => by rw [← Sum.inl.inj e]; exact h, fun h => ⟨_, h, rfl⟩⟩
theorem plL_some {cs : List Nat} {f : Nat → Int} {q : Nat} (nd : (cs.map f).Nodup) (h : f q ∈ cs.map f) : valV (plL cs f) (Sum.inl (f q)) = some (nV (pl cs f q)) := by
  obtain ⟨c, hc, e⟩ := List.mem_map.mp h
  refine valV_mem (plL_nd nd) (List.mem_map.mpr ⟨c, hc, ?_⟩)
  show ((Sum.inl (f c) : Key), nV (pl cs f c)) = _
  rw [e, pl_eq e]
theorem plL_none {cs : List Nat} {f : Nat → Int} {q : Nat} (h : f q ∉ cs.map f) : valV (plL cs f) (Sum.inl (f q)) = none := valV_no fun z => h (plL_mem.mp z)
theorem plL_snoc {cs : List Nat} {f : Nat → Int} {q : Nat} (h : f q ∉ cs.map f) : putK (plL cs f) (Sum.inl (f q)) (nV cs.length) = plL (cs ++ [q]) f := by
  rw [putK_new _ (plL_none h)]
  unfold plL
  rw [List.map_append]
  refine congr (congrArg _ (List.map_congr_left fun c hc => by rw [pl_old hc])) ?_
  show [((Sum.inl (f q) : Key), nV cs.length)] = [((Sum.inl (f q) : Key), nV (pl (cs ++ [q]) f q))]
  rw [pl_new h]
theorem plL_len (cs : List Nat) (f : Nat → Int) : (plL cs f).length = cs.length := List.length_map ..
theorem same_new {H H' : Hp} {p dx : Addr} {u o : HO} (h1 : H p = none) (h2 : H dx = none) (s : SameB p (upd (upd H dx u) p o) H') : Same H H' := fun b z e => by
  have n1 := ne_of_none e h1
  have n2 := ne_of_none e h2
  refine s b z n1 ?_
  rw [upd_ne n1, upd_ne n2]
  exact e
section
variable {P : Program} {w : World} {K : PySem.W.Frag} {mg : Str → Option Value} {base : Heap}
abbrev nmLeast : List Str := ["letters", "accepting", "table", "states", "number", "chosen", "place", "state", "rows", "following"]
theorem scLeast : FnScope nmLeast ["letters", "accepting", "table"] (defScope (topS 13)) := C8.fnScope_by (by decide +kernel)
def spLeastOf (K : PySem.W.Frag) : Sp := fun vs H Q _ => ∃ (b : Bool) (x : Str) (ac t : Addr) (M : Mach), vs = [.str x, .ref ac, .ref t] ∧ SqB b K H ac (M.acc.map V.bl) ∧ TabK b K H t M.tab ∧ Wf x.cps.size M ∧ x.cps.size ≤ 1000 ∧ M.acc.length < 64 ∧
  ∀ H' p M', Same H H' → H p = none → MachK K H' p x M' → Least x.cps.size (accT M 0) M' → M'.acc.length ≤ M.acc.length → Q (.ref p) H'
theorem cal_least_of (T : Tx K mg) : C8.Cal P w K mg base 4 "least_of" (spLeastOf K) [] := by
  obtain ⟨fdI, FI, bI⟩ := ok_init (P := P) (w := w) (base := base) T
  refine cal_of T (i := 13) 6 rfl (by decide +kernel) scLeast (fun _ _ _ _ _ _ us hl => match us, hl with | [_, _, _], _ => rfl) (fun vs H Q E h => ?_) (fun f cdv A outer s H vs Q E hr h => ?_)
  · obtain ⟨b, x, ac, t, M, rfl, _⟩ := h
    rfl
  · obtain ⟨b, x, ac, t, M, rfl, hA, hT, W, hk, hn, q⟩ := h
    have hu := hu_of hr
    refine ⟨_, pss_cons (ps_set (i := 3) scLeast.nd rfl (.inl rfl) (C8.pe_c (cal_reached T) hr (by decide) (by rfl) (pa_cons (pv 2) pa_nil)))
      (pss_cons (ps_set (i := 4) scLeast.nd rfl (.inr rfl) (C8.pe_c (cal_classes T) hr (by decide) (by rfl) (pa_cons (pv 3) (pa_cons (pv 1) (pa_cons (pv 2) pa_nil)))))
      (pss_cons (ps_set (i := 5) scLeast.nd rfl (.inl rfl) (pe_lst pa_nil))
      (pss_cons (ps_set (i := 6) scLeast.nd rfl (.inr rfl) pe_dnewK)
      (pss_cons (ps_for PassesOwn.never rfl (piB K (pv 3)) (pg_name (i := 7) scLeast.nd rfl (.inl rfl))
        (pss_one (ps_if (pt_cmp (pc_dnotin hu (pe_dget hu (pv 4) (pv 7) (fun _ _ => rfl)) (pv 6)))
          (pss_cons (ps_dput hu (pv 6) (pe_dget hu (pv 4) (pv 7) (fun _ _ => rfl)) (pe_callB (lenB K) (by rfl) (T.b "len" (by decide +kernel)) PySem.boot_len (pa_cons (pv 5) pa_nil)) rfl)
            (pss_one (ps_expr (pe_bm PySem.F.plainAttrs_list PySem.F.slot_list_append PySem.F.type_list_append mt_append (pv 5) (pa_cons (pv 7) pa_nil))))) pss_nil)))
      (pss_cons (ps_setLc (i := 8) (own := [("state", 7)]) (g := gName 7) (tt := tYes) rfl scLeast.nd rfl rfl (sw_true rfl rfl rfl (by decide +kernel)) (piB K (pv 5)) (blkOk_by (N := nmLeast) (sc := defScope (topS 13)) (by decide +kernel))
          (fun _ _ _ _ _ => pg_name (i := 7) scLeast.nd rfl (Or.inl rfl)) (fun _ _ _ _ _ => pts_nil) (fun _ _ _ _ _ =>
            pe_lc (own := [("following", 9)]) (g := gName 9) (tt := tYes) rfl scLeast.nd (piB K (pe_ix (ixB K) (pv 2) (pv 7) (fun _ _ => rfl))) (blkOk_rel (N := nmLeast) (sc := defScope (topS 13)) rfl (by decide +kernel))
              (fun _ _ _ _ _ => pg_name (i := 9) scLeast.nd rfl (Or.inl rfl)) (fun _ _ _ _ _ => pts_nil) (fun _ _ _ _ _ => pe_dget hu (pv 6) (pe_dget hu (pv 4) (pv 9) (fun _ _ => rfl)) (fun _ _ => rfl))))
      (pss_one (ps_ret (pe_make T.mkM FI hr (by rfl) (T.g "Machine" (by decide +kernel)) bI .nil pass0 (pa_cons (pv 0) (pa_cons
          (pe_lc (own := [("state", 7)]) (g := gName 7) (tt := tYes) rfl scLeast.nd (piB K (pv 5)) (blkOk_by (N := nmLeast) (sc := defScope (topS 13)) (by decide +kernel))
            (fun _ _ _ _ _ => pg_name (i := 7) scLeast.nd rfl (Or.inl rfl)) (fun _ _ _ _ _ => pts_nil) (fun _ _ _ _ _ => pe_ix (ixB K) (pv 1) (pv 7) (fun _ _ => rfl))) (pa_cons (pv 8) pa_nil))))))))))), ?_⟩
    refine ⟨_, rfl, b, t, M.tab, x.cps.size, M.acc.length, rfl, hT, W.tb, W.pos, W.few, fun H1 sl l sm1 nsl hsl R => ?_⟩
    have hl : l.length < 64 := by have := R.toRch.le; omega
    have C1 : Clo1 x.cps.size M l := ⟨R.cl, R.lt⟩
    refine ⟨_, rfl, _, rfl, _, rfl, b, sl, ac, t, M, _, l, rfl, .lst hsl, hA.same sm1, hT.same sm1, W, hk, C1, R.nd, hl, fun H2 dn f sm2 ndn hdn hf => ?_⟩
    have smA := sm1.trans sm2
    have e1sl : H2 sl = some (.lst (l.map nV)) := sm2 _ _ hsl
    have hdn0 : H dn = none := by
      cases z : H dn with
      | none => rfl
      | some o => rw [sm1 _ _ z] at ndn; cases ndn
    refine ⟨by show 0 ≤ sizeLine; decide, fun C hC D hD => ?_⟩
    have smB : Same H2 (upd (upd H2 C (.lst [])) D (.dK [])) := (same_upd hC).trans (same_upd hD)
    have nC0 : H C = none := by
      cases z : H C with
      | none => rfl
      | some o => rw [smA _ _ z] at hC; cases hC
    have nD1 : H2 D = none := (upd_none hD).1
    have nCD : C ≠ D := (upd_none hD).2.symm
    have nD0 : H D = none := by
      cases z : H D with
      | none => rfl
      | some o => rw [smA _ _ z] at nD1; cases nD1
    have dget : ∀ {H3 : Hp}, Same H2 H3 → ∀ q ∈ l, DGet H3 dn (nV q) (some (.int (f q))) := fun s q hq => DGet_at (s _ _ hdn) hq
    refine ⟨_, rfl, sl, true, rfl, ⟨_, .lst (smB _ _ e1sl)⟩, for_by (wk_seq true K sl (l.map nV)) (fun i σ H3 => ∃ (cs : List Nat) (y : Option V), σ = [some (.str x), some (.ref ac), some (.ref t), some (.ref sl), some (.ref dn), some (.ref C), some (.ref D), y, none, none] ∧ Same H2 H3 ∧ H3 C = some (.lst (cs.map nV)) ∧ H3 D = some (.dK (plL cs f)) ∧ Chosen l f i cs)
      ⟨[], none, rfl, smB, by rw [upd_ne nCD, upd_same]; rfl, by rw [upd_same]; rfl, .nil l f⟩ (fun i σ H3 _ hP => ?_) (fun i v σ H3 hi hv hP => ?_) (fun σ H3 hP => ?_)⟩
    · obtain ⟨_, _, _, sm3, _⟩ := hP
      exact .lst (sm3 _ _ e1sl)
    · obtain ⟨cs, y, rfl, sm3, eC, eD, hc⟩ := hP
      rw [List.length_map] at hi
      have hli := List.getElem?_eq_getElem hi
      rw [List.getElem?_map, hli] at hv
      cases hv
      have hqm := List.getElem_mem hi
      generalize l[i] = p at hli hqm ⊢
      have small : cs.length < sizeLine := by have := hc.len; rw [sizeLine_eq]; omega
      refine ⟨_, rfl, _, rfl, dn, _, rfl, dget sm3 p hqm, _, rfl, D, _, rfl, DGet.k (k := Sum.inl (f p)) eD, _, rfl, ?_⟩
      by_cases hm : f p ∈ cs.map f
      · rw [plL_some hc.nd hm]
        exact iteF ⟨cs, _, rfl, sm3, eC, eD, hc.old hli hm⟩
      · rw [plL_none hm]
        refine iteT ?_
        have nDC : D ≠ C := nCD.symm
        have eC3 : upd H3 D (.dK (plL (cs ++ [p]) f)) C = some (.lst (cs.map nV)) := (upd_ne nCD).trans eC
        refine ⟨_, rfl, true, C, _, rfl, .lst eC, _, rfl, _, rfl, _, rfl, dn, _, rfl, dget sm3 p hqm, D, _, rfl, DPut.k (k := Sum.inl (f p)) eD (by rw [plL_len]; exact small), ?_⟩
        rw [List.length_map]
        have e9 := plL_snoc hm
        unfold nV at e9
        rw [e9]
        refine ⟨_, rfl, .inl ⟨rfl, _, SqL.of eC3⟩, _, rfl, C, _, _, rfl, rfl, eC3, by rw [List.length_map]; exact small, cs ++ [p], _, rfl, fun c o e => ?_, ?_, ?_, hc.new hli hm⟩
        · have e' := smB _ _ e
          rw [upd_ne (ne_of_none e hC), upd_ne (ne_of_none e nD1)]
          exact sm3 _ _ e
        · rw [upd_same, List.map_append]
          rfl
        · rw [upd_ne nDC, upd_same]
    obtain ⟨cs, y, rfl, sm3, eC, eD, hc⟩ := hP
    rw [List.length_map] at hc
    obtain ⟨LM, Lle⟩ := least_of_ok W R hf hc
    have hcl := hc.len
    have allP : ∀ p ∈ l, f p ∈ cs.map f := fun p hp => by
      obtain ⟨c, h1, h2⟩ := hc.all p (by rw [List.take_length]; exact hp)
      exact List.mem_map.mpr ⟨c, h1, h2⟩
    -- rows
    refine ⟨_, rfl, C, true, rfl, ⟨_, .lst eC⟩, fun R2 hR2 => lc_by (wk_seq true K C (cs.map nV)) (fun i H4 => Same H3 H4 ∧ ∃ rs : List Addr, rs.length = i ∧ H4 R2 = some (.lst (rs.map V.ref)) ∧ R2 ∉ rs ∧ ∀ (j : Nat) (r : Addr) (row : List Nat), rs[j]? = some r → (leastM x.cps.size M f cs).tab[j]? = some row → H4 r = some (.lst (row.map nV)))
      ⟨same_upd hR2, [], rfl, upd_same, fun h => (by cases h), fun j r row e => by simp at e⟩ (fun i H4 _ hP => .lst (hP.1 _ _ eC)) (fun i v H4 hi hv hP => ?_) (fun H4 hP => ?_)⟩
    · obtain ⟨sm4, rs, el, eR, nin, ers⟩ := hP
      rw [List.length_map] at hi
      have hci := List.getElem?_eq_getElem hi
      rw [List.getElem?_map, hci] at hv
      cases hv
      have hcm := List.getElem_mem hi
      have hti : (leastM x.cps.size M f cs).tab[i]? = some ((List.range x.cps.size).map fun a => pl cs f (nxt M.tab cs[i] a)) := by
        show (cs.map _)[i]? = _
        rw [List.getElem?_map, hci]
        rfl
      generalize cs[i] = p at hci hcm hti ⊢
      have hpl := hc.sub p hcm
      obtain ⟨rs2, r, row, h1, h2, h3, h4, h5, h6⟩ := hT.row W.tb (R.lt p hpl)
      have smC := (smA.trans sm3).trans sm4
      refine ⟨rfl, _, rfl, _, rfl, b, _, _, _, _, rfl, rfl, h1.same smC, atI_nat h2, r, b, rfl, ⟨_, h3.same smC⟩, fun E hE => lc_pure (wk_seq b K r (row.map nV)) (fun a => nV (pl cs f (nxt M.tab p a))) (by rw [List.length_map]; omega) (fun a acc _ => (h3.same smC).same (same_upd hE)) (fun a u acc hj hu H5 e5 => ?_) ?_ (fun σ H Q Q' m q => ?_) (fun _ _ _ _ _ m q => m _ _ q)⟩
      · rw [List.length_map, h4] at hj
        rw [List.getElem?_map, h6 a hj] at hu
        cases hu
        have hq := R.cl p hpl a hj
        have s5 : Same H4 H5 := by rw [e5]; exact same_upd hE
        refine ⟨rfl, _, rfl, _, rfl, _, rfl, dn, _, rfl, dget (sm3.trans (sm4.trans s5)) _ hq, D, _, rfl, ?_, e5, rfl⟩
        have z := DGet.k (k := (Sum.inl (f (nxt M.tab p a)) : Key)) (s5 _ _ (sm4 _ _ eD))
        rw [plL_some hc.nd (allP _ hq)] at z
        exact z
      · rw [List.length_map, h4]
        refine ⟨rs.map V.ref, same_upd hE _ _ eR, by rw [List.length_map, el, sizeLine_eq]; omega, fun c o e => ?_, rs ++ [E], by rw [List.length_append, el]; rfl, ?_, ?_, fun j r' row' e1 e2 => ?_⟩
        · rw [upd_ne (ne_of_none e hR2)]
          exact same_upd hE _ _ (sm4 _ _ e)
        · rw [upd_same, List.map_append]
          rfl
        · intro z
          rcases List.mem_append.mp z with z | z
          · exact nin z
          · rw [← List.mem_singleton.mp z, eR] at hE
            cases hE
        · have nE : E ≠ R2 := fun z => by rw [z, eR] at hE; cases hE
          by_cases hj : j < rs.length
          · rw [List.getElem?_append_left hj] at e1
            have z := ers j r' row' e1 e2
            have nr : r' ≠ R2 := fun y => nin (by rw [← y]; exact List.mem_of_getElem? e1)
            rw [upd_ne nr, upd_ne (ne_of_none z hE)]
            exact z
          · have ej : j = rs.length := by
              have := (List.getElem?_eq_some_iff.mp e1).1
              rw [List.length_append, List.length_singleton] at this
              omega
            subst ej
            rw [List.getElem?_append_right (Nat.le_refl _), Nat.sub_self] at e1
            cases e1
            rw [el, hti] at e2
            cases e2
            rw [upd_ne nE, upd_same, List.map_map]
            rfl
      · obtain ⟨v1, e1, v2, e2, v3, e3, a, v, e4, e5, c, z, e6, e7, e8⟩ := q
        exact ⟨v1, e1, v2, e2, v3, e3, a, v, e4, e5, c, z, e6, e7, m _ _ e8⟩
    obtain ⟨sm4, rs, el, eR, nin, ers⟩ := hP
    rw [List.length_map] at el
    have smC := (smA.trans sm3).trans sm4
    have eC4 := sm4 _ _ eC
    refine ⟨_, rfl, _, rfl, C, true, rfl, ⟨_, .lst eC4⟩, fun A2 hA2 => lc_pure (wk_seq true K C (cs.map nV)) (fun i => .bl (M.acc.getD (cs.getD i 0) false)) (by rw [List.length_map]; omega) (fun a acc _ => .lst (same_upd hA2 _ _ eC4)) (fun i v acc hi hv H5 e5 => ?_) ?_ (fun σ H Q Q' m q => ?_) (fun _ _ _ _ _ m q => m _ _ q)⟩
    · rw [List.length_map] at hi
      have hci := List.getElem?_eq_getElem hi
      rw [List.getElem?_map, hci] at hv
      cases hv
      have hcm := List.getElem_mem hi
      rw [getD_of hci]
      generalize cs[i] = p at hcm ⊢
      have hpl := R.lt p (hc.sub p hcm)
      have s5 : Same H4 H5 := by rw [e5]; exact same_upd hA2
      have hacc : (M.acc.map V.bl)[p]? = some (.bl (M.acc.getD p false)) := by
        rw [List.getElem?_map, List.getElem?_eq_getElem hpl, getD_of (List.getElem?_eq_getElem hpl)]
        rfl
      exact ⟨rfl, _, rfl, _, rfl, b, _, _, _, _, rfl, rfl, hA.same (smC.trans s5), atI_nat hacc, e5, rfl⟩
    · rw [List.length_map]
      refine ⟨_, rfl, fun p dx hp hdx npx => ?_⟩
      have eA : (List.range cs.length).map (fun i => V.bl (M.acc.getD (cs.getD i 0) false)) = (leastM x.cps.size M f cs).acc.map V.bl := by
        show _ = (cs.map _).map _
        rw [List.map_map]
        apply List.ext_getElem?
        intro i
        rw [List.getElem?_map, List.getElem?_map]
        by_cases h : i < cs.length
        · rw [List.getElem?_range h, List.getElem?_eq_getElem h, Option.map_some, Option.map_some, getD_of (d := 0) (List.getElem?_eq_getElem h)]
          rfl
        · rw [List.getElem?_eq_none (by simpa using h), List.getElem?_eq_none (by simpa using h)]
          rfl
      rw [eA] at hp hdx ⊢
      have sm6 : Same H4 (upd (upd (upd H4 A2 (.lst ((leastM x.cps.size M f cs).acc.map V.bl))) dx (.own p)) p (.ins (He.ga K "Machine") dx [])) := ((same_upd hA2).trans (same_upd hdx)).trans (same_upd (by rw [upd_ne npx.symm]; exact hp))
      have sm7 : Same (upd H4 A2 (.lst ((leastM x.cps.size M f cs).acc.map V.bl))) (upd (upd (upd H4 A2 (.lst ((leastM x.cps.size M f cs).acc.map V.bl))) dx (.own p)) p (.ins (He.ga K "Machine") dx [])) := (same_upd hdx).trans (same_upd (by rw [upd_ne npx.symm]; exact hp))
      refine ⟨p, dx, A2, R2, x, leastM x.cps.size M f cs, rfl, upd_same, .lst (sm7 _ _ upd_same), ⟨rs, .lst (sm6 _ _ eR), ?_, fun i r row e1 e2 => .lst (sm6 _ _ (ers i r row e1 e2))⟩, LM.wf, hk, fun H7 s7 hM => ⟨rfl, q H7 p _ ?_ ?_ hM LM ?_⟩⟩
      · show rs.length = (cs.map _).length
        rw [List.length_map, el]
      · exact (smC.trans (same_upd hA2)).trans (same_new hp hdx s7)
      · cases z : H p with
        | none => rfl
        | some o => rw [same_upd hA2 _ _ (smC _ _ z)] at hp; cases hp
      · show (cs.map _).length ≤ _
        rw [List.length_map]
        have := R.toRch.le
        omega
    · obtain ⟨v1, e1, v2, e2, b', p', xs, i', z, e3, e4, e5, e6, e7⟩ := q
      exact ⟨v1, e1, v2, e2, b', p', xs, i', z, e3, e4, e5, e6, m _ _ e7⟩
end
end K46
set_option Elab.async false
set_option linter.all false
set_option maxRecDepth 100000
set_option maxHeartbeats 1600000
namespace K46
open PySem PySem.Spec PyProof.Rows L2
section
variable {P : Program} {w : World} {K : PySem.W.Frag} {mg : Str → Option Value} {base : Heap}
/-! ### least -/
theorem scLst : FnScope ["machine"] ["machine"] (defScope (topS 14)) := C8.fnScope_by (by decide +kernel)
def spLst (K : PySem.W.Frag) : Sp := fun vs H Q _ => ∃ (x : Str) (p : Addr) (M : Mach), vs = [.ref p] ∧ MachK K H p x M ∧ Wf x.cps.size M ∧ x.cps.size ≤ 1000 ∧ M.acc.length < 64 ∧
  ∀ H' p' M', Same H H' → H p' = none → MachK K H' p' x M' → Least x.cps.size (accT M 0) M' → M'.acc.length ≤ M.acc.length → Q (.ref p') H'
theorem cal_least (T : Tx K mg) : C8.Cal P w K mg base 5 "least" (spLst K) [] := by
  refine cal_of T (i := 14) 7 rfl (by decide +kernel) scLst (fun _ _ _ _ _ _ us hl => match us, hl with | [_], _ => rfl) (fun vs H Q E h => ?_) (fun f cdv A outer s H vs Q E hr h => ?_)
  · obtain ⟨x, p, M, rfl, _⟩ := h
    rfl
  · obtain ⟨x, p, M, rfl, hM, W, hk, hn, q⟩ := h
    refine ⟨_, pss_one (ps_ret (C8.pe_c (cal_least_of T) hr (by decide) (by rfl) (pa_cons (pe_fld (pv 0) rfl) (pa_cons (pe_fld (pv 0) rfl) (pa_cons (pe_fld (pv 0) rfl) pa_nil))))), ?_⟩
    obtain ⟨dx, a, t, hp, ha, ht⟩ := id hM
    exact ⟨_, rfl, _, _, _, _, _, rfl, hp, T.cl, T.nL, rfl, _, rfl, _, _, _, _, _, rfl, hp, T.cl, T.nA, rfl, _, rfl, _, _, _, _, _, rfl, hp, T.cl, T.nT, rfl, false, x, a, t, M, rfl, ha, ht, W, hk, hn, q⟩
end
end K46
set_option Elab.async false
set_option linter.all false
set_option maxRecDepth 100000
set_option maxHeartbeats 1600000
namespace K46
open PySem PySem.Spec PyProof.Rows L2
/-! ### {k: v}, the key a tuple of ints and texts; either kind -/
def tDisp1T (tk tv : TE) : TE := fun σ H Q => ∀ p, H p = none → tk σ (upd H p (.dT [])) fun x H1 => tv σ H1 fun y H2 => ∃ b ks, x = .ref b ∧ H2 p = some (.dT []) ∧ H2 b = some (.tup (ks.map kV)) ∧ Q (.ref p) (upd H2 p (.dT [(ks, y)]))
section
variable {X : Cx} {pos : Pos} {k v : Expr} {tk tv : TE}
theorem pe_disp1T (hu : X.A.units + 1 < cLine) (hk : PE X k tk) (hv : PE X v tv) : PE X (.Dict [some k] [v] pos) (tDisp1T tk tv) := by
  refine ⟨fun pins s σ H Q I q => ?_⟩
  have hn := I.hok.fresh (Nat.le_refl s.heap.objs.size)
  have I1 := I.laid (a := s.heap.objs.size) (o := .dT []) (h' := s.heap.push { cls := .type "dict", data := .dict #[] }) (t' := s.toks) (fun _ _ q => Heap.get?_push_of_some _ q) (Nat.le_refl _) (dt_empty s.heap I.big)
  refine wpAny_Dict_any rfl rfl (fun z => by cases z) (by show 1 ≤ 15; decide) (pairTrees_cons_walk (thn (hk.run pins _ σ _ _ I1 (q _ hn)) fun u s1 ⟨x, H1, I2, rx, q1⟩ => thn (hv.run pins s1 σ H1 _ I2 q1) fun w2 s2 ⟨y, H2, I3, ry, b, ks, ex, e, eb, q2⟩ => pairTrees_nil_walk ?_))
  subst ex
  cases (show u = Value.ref b from rx)
  unfold storeAll
  rw [List.forIn_cons]
  refine wpAny_bind (wpAny_bind ?_)
  obtain ⟨z, hd, xs, rel, dd⟩ := dt_of I3.hok e
  cases rel
  refine wpAny_dictSet_heap (knd := tupleKind (mixKind X.prog X.w)) (hsz := by rw [sizeLine_eq]; exact Nat.zero_le _) (by show X.A.units < cLine; omega) (key_of I3.hok eb) dd fun h' dd' hs => wpAny_pure ?_
  show wpAny _ _ (forIn [] PUnit.unit _) _ _ _
  rw [List.forIn_nil]
  refine wpAny_pure ⟨.ref s.heap.objs.size, _, ?_, rfl, q2⟩
  obtain ⟨o, es, ep, hq, h2, h3, h4, _, h5⟩ := dd'
  have pt := (KT.put (H := H2) .nil ks eb ry).keeps (H' := upd H2 s.heap.objs.size (.dT [(ks, y)])) fun c ys ec => by
    rw [upd_ne (ne_of ec e (fun z => nomatch z))]
    exact ec
  exact d_write I3 (by rw [e]; exact True.intro) hs ⟨o, hq⟩ ⟨by show 1 ≤ sizeLine; decide, hd, _, pt, o, es, ep, hq, h2, h3, h4, h5⟩
theorem pe_or {e : Expr} {t1 t2 : TE} (h1 : PE X e t1) (h2 : PE X e t2) : PE X e (fun σ H Q => t1 σ H Q ∨ t2 σ H Q) := ⟨fun pins s σ H Q I q => q.elim (h1.run pins s σ H Q I) (h2.run pins s σ H Q I)⟩
end
end K46
set_option Elab.async false
set_option linter.all false
set_option maxRecDepth 100000
set_option maxHeartbeats 1600000
namespace K46
open PySem PySem.Spec PyProof.Rows L2 NdefX LamX
/-! ### closures that are handed in: a promise about their calls -/
/-- f may be called from H0 on: R tells what a call needs and gives -/
def CloP (P : Program) (w : World) (K : PySem.W.Frag) (mg : Str → Option Value) (base : Heap) (k : Nat) (f : Addr) (H0 : Hp) (R : List V → Hp → VK → Prop) : Prop := ∃ (F : Clo) (ps fr : List Str) (ws : List V) (sp : List (Option V) → Sp),
  COk P w K mg base k f F ps fr sp ∧ CloAt f F fr ws H0 ∧ ∀ H vs Q, Same H0 H → R vs H Q → sp (ws.map some) vs (hidC F.cl H) (fun v H2 => (∀ b, inCl F.cl b → H2 b = none) → Q v (bakC F.cl H H2)) E0
theorem CloP.same {P : Program} {w : World} {K : PySem.W.Frag} {mg : Str → Option Value} {base : Heap} {k : Nat} {f : Addr} {H0 H1 : Hp} {R : List V → Hp → VK → Prop} (c : CloP P w K mg base k f H0 R) (s : Same H0 H1) : CloP P w K mg base k f H1 R := by
  obtain ⟨F, ps, fr, ws, sp, h1, h2, h3⟩ := c
  exact ⟨F, ps, fr, ws, sp, h1, h2.same s, fun H vs Q a b => h3 H vs Q (s.trans a) b⟩
theorem CloP.mono {P : Program} {w : World} {K : PySem.W.Frag} {mg : Str → Option Value} {base : Heap} {k j : Nat} {f : Addr} {H0 : Hp} {R : List V → Hp → VK → Prop} (c : CloP P w K mg base j f H0 R) (h : j ≤ k) : CloP P w K mg base k f H0 R := by
  obtain ⟨F, ps, fr, ws, sp, h1, h2, h3⟩ := c
  exact ⟨F, ps, fr, ws, sp, h1.mono h, h2, h3⟩
def tCallP (i : Nat) (f : Addr) (H0 : Hp) (R : List V → Hp → VK → Prop) (t : TA) : TE := fun σ H Q => σ[i]? = some (some (.ref f)) ∧ Same H0 H ∧ t σ H fun vs H1 => Same H0 H1 ∧ R vs H1 Q
section
variable {X : Cx} {i k : Nat} {x : Str} {t : TA} {e : Expr} {es : List Expr} {p pos : Pos} {f : Addr} {H0 : Hp} {R : List V → Hp → VK → Prop}
theorem pe_callP (c : CloP X.prog X.w X.K X.mg X.base k f H0 R) (hr : Room k X.A) (hN : X.N[i]? = some x) (hv : Vis X.env.scope x) (ha : PA X (e :: es) t)
    (hd : (x == ("__debug__" : Str)) = false := by decide) (hcd : (x == ("__classdict__" : Str)) = false := by decide)
    (he : starEach (e :: es) X.env = (false, eval e X.env) :: starEach es X.env := by rfl) (hpl : (backTo pos (starEach es X.env)).any (·.1) = false := by rfl) :
    PE X (.Call (.Name x p) (e :: es) [] pos) (tCallP i f H0 R t) := by
  obtain ⟨F, ps, fr, ws, sp, Fn, C00, hR⟩ := c
  refine ⟨fun pins s σ H Q I h => ?_⟩
  obtain ⟨hs, sm0, ht⟩ := h
  have C0 := C00.same sm0
  have fat : ∀ {H1 : Hp} {s1 : Shared}, Inv X pins σ H1 s1 → CloAt f F fr ws H1 → PySem.W.FnAt f s1.heap := fun I1 C => by
    obtain ⟨od, sl, doc, pm, ctv, ho⟩ := cloO_at I1.hok C.fn
    exact ⟨_, od, _, sl, ho⟩
  refine wpAny_Call_Name_kw (thn ((pe_var (pos := p) hN hv hd hcd).run pins s σ H (fun v H1 => v = .ref f ∧ H1 = H) I ⟨.ref f, hs, rfl, rfl⟩) fun u s1 ⟨v, H1, I1, r1, q1⟩ => ?_)
  obtain ⟨rfl, rfl⟩ := q1
  obtain rfl : u = Value.ref f := r1
  refine PySem.W.callWith_F (first := []) (fat I1 C0) (thn (ha.run pos pins s1 σ H1 _ I1 ht) fun us s2 ⟨vs, H2, I2, r, sm2, q⟩ => ⟨fat I2 (C00.same sm2), ?_⟩) he hpl
  show wpAny _ _ (call (.ref f) us) _ _ _
  have C := C00.same sm2
  have e0 := I2.env0
  have nf : ¬ inCl F.cl f := C.cells.not_in C.fn fun o z => by
    unfold CloO at z
    cases z
  have nc : ¬ inCl F.cl F.c := C.cells.not_in C.code fun o z => by
    unfold CodeO at z
    cases z
  have e1 : Env0 X.prog X.w X.K X.mg X.base X.A X.stack s2 (hidC F.cl H2) := ⟨e0.frames, e0.mod, fun b o q => ⟨(e0.bs b o q).1, by rw [hidC_out (C.cells.none_out (e0.bs b o q).2)]; exact (e0.bs b o q).2⟩, e0.bsz, e0.funs,
    fun b hb => by rw [hidC_out (C.cells.none_out (e0.frf b hb))]; exact e0.frf b hb, hok_hid C.cells e0.hok, e0.bare⟩
  refine wpAny_call (codeAny_mono (Fn.run X.A X.stack s2 (hidC F.cl H2) us vs (ws.map some) _ E0 hr e1 (by rw [hidC_out nf]; exact C.fn) (by rw [hidC_out nc]; exact C.code) (cells_hid C.cells e0.hok) r (hR H2 vs Q sm2 q)) fun r s' hq => ?_)
  cases r with
  | error e => exact False.elim hq
  | ok fl =>
    cases fl with
    | next => exact False.elim hq
    | brk => exact False.elim hq
    | cont => exact False.elim hq
    | ret u =>
      obtain ⟨v, H', os, bare, un, hok', rv, q⟩ := hq
      obtain ⟨un2, hok2⟩ := un_bak C.cells e0.hok e0.frf un hok'
      refine I2.after ⟨v, _, os, bare, un2, hok2, rv, q fun b hb => ?_⟩
      obtain ⟨o, u, e1, _⟩ := C.cells.frz hb
      obtain ⟨e3, _⟩ := e0.hok b _ e1
      exact un.free b o e3 (hidC_in hb) (by simp)
end
/-! ### what the closure sees of the heap -/
section
variable {H H' : Hp} {cl : List (Str × Addr)} {fr : List Str} {ws : List V} {K : PySem.W.Frag}
theorem ClosH.hid (C : ClosH cl fr ws H) {b : Addr} {u : HO} (e : H b = some u) (n : ∀ o, u ≠ .frz o (.own 0)) : hidC cl H b = some u := by
  rw [hidC_out (C.not_in e n)]
  exact e
theorem hid_sq (C : ClosH cl fr ws H) {b : Bool} {a : Addr} {xs : List V} (h : SqB b K H a xs) : SqB b K (hidC cl H) a xs := by
  cases b with
  | true =>
    rcases h with (h | ⟨o, h⟩) | h
    · exact .inl (.inl (C.hid h fun _ z => by cases z))
    · exact .inl (.inr ⟨o, C.hid h fun _ z => by cases z⟩)
    · exact .inr h
  | false =>
    rcases h with (h | ⟨o, h⟩) | h
    · exact .inl (.inl (C.hid h fun _ z => by cases z))
    · exact .inl (.inr ⟨o, C.hid h fun _ z => by cases z⟩)
    · exact .inr h
theorem hid_tab (C : ClosH cl fr ws H) {b : Bool} {t : Addr} {tab : List (List Nat)} (h : TabK b K H t tab) : TabK b K (hidC cl H) t tab := by
  obtain ⟨rs, h1, h2, h3⟩ := h
  exact ⟨rs, hid_sq C h1, h2, fun i r row e1 e2 => hid_sq C (h3 i r row e1 e2)⟩
theorem hid_mach (C : ClosH cl fr ws H) {p : Addr} {x : Str} {M : Mach} (h : MachK K H p x M) : MachK K (hidC cl H) p x M := by
  obtain ⟨dx, a, t, h1, h2, h3⟩ := h
  exact ⟨dx, a, t, C.hid h1 (fun _ z => by cases z), hid_sq C h2, hid_tab C h3⟩
theorem bak_get (h0 : ∀ b, inCl cl b → H' b = none) {b : Addr} {u : HO} (e : H' b = some u) : bakC cl H H' b = some u := by
  rw [bakC_out fun hb => by rw [h0 b hb] at e; cases e]
  exact e
end
end K46
set_option Elab.async false
set_option linter.all false
set_option maxRecDepth 100000
set_option maxHeartbeats 1600000
namespace K46
open PySem PySem.Spec PyProof.Rows L2
/-! ### keys told by another's -/
theorem valV_inj {α κ : Type} [DecidableEq α] [DecidableEq κ] (g : α → κ) (inj : ∀ a b, g a = g b → a = b) (s : α) : ∀ (l : List (α × V)), valV (l.map fun p => (g p.1, p.2)) (g s) = valV l s
  | [] => rfl
  | p :: l => by
    have ih := valV_inj g inj s l
    unfold valV at ih ⊢
    rw [List.map_cons, List.find?_cons, List.find?_cons]
    by_cases e : p.1 = s
    · subst e
      simp
    · have e2 : ¬ g p.1 = g s := fun z => e (inj _ _ z)
      rw [decide_eq_false e, decide_eq_false e2]
      exact ih
theorem putK_inj {α κ : Type} [DecidableEq α] [DecidableEq κ] (g : α → κ) (inj : ∀ a b, g a = g b → a = b) (s : α) (u : V) (l : List (α × V)) : putK (l.map fun p => (g p.1, p.2)) (g s) u = (putK l s u).map fun p => (g p.1, p.2) := by
  unfold putK
  rw [valV_any, valV_any, valV_inj g inj]
  by_cases h : (valV l s).isSome = true
  · rw [if_pos h, if_pos h, List.map_map, List.map_map]
    apply List.map_congr_left
    intro p _
    show (if g p.1 = g s then (g p.1, u) else (g p.1, p.2)) = (g (if p.1 = s then (p.1, u) else p).1, (if p.1 = s then (p.1, u) else p).2)
    by_cases e : p.1 = s
    · rw [if_pos e, if_pos (congrArg g e)]
    · rw [if_neg e, if_neg fun z => e (inj _ _ z)]
  · rw [if_neg h, if_neg h, List.map_append]
    rfl
/-! ### what a state of a search is in the heap -/
structure Kind (S : Type) [DecidableEq S] where
  rep : Hp → V → S → Prop
  dob : List (S × V) → HO
  keep : ∀ {H H' : Hp} {v : V} {s : S}, (∀ b xs, H b = some (.tup xs) → H' b = some (.tup xs)) → rep H v s → rep H' v s
  get : ∀ {H : Hp} {d : Addr} {kvs : List (S × V)} {v : V} {s : S}, H d = some (dob kvs) → rep H v s → DGet H d v (valV kvs s)
  put : ∀ {H : Hp} {d : Addr} {kvs : List (S × V)} {v u : V} {s : S}, H d = some (dob kvs) → rep H v s → kvs.length < sizeLine → DPut H d v u (upd H d (dob (putK kvs s u)))
  nl : ∀ kvs xs, dob kvs ≠ .lst xs
  nt : ∀ kvs xs, dob kvs ≠ .tup xs
  disp : ∀ {σ : L2.St} {i : Nat} {n : Int} {H : Hp} {v : V} {s : S} {Q : VK}, σ[i]? = some (some v) → rep H v s → (∀ p, H p = none → Q (.ref p) (upd H p (dob [(s, .int n)]))) → tDisp [(tVar i, tC (.int n))] σ H Q ∨ tDisp1T (tVar i) (tC (.int n)) σ H Q
def kNat : Kind Nat where
  rep := fun _ v s => v = nV s
  dob := fun kvs => .dK (kvs.map fun p => (kI p.1, p.2))
  keep := fun _ h => h
  get := fun {H d kvs v s} e h => by
    subst h
    have := DGet.k (k := kI s) e
    rw [valV_inj kI fun _ _ => kI_inj] at this
    exact this
  put := fun {H d kvs v u s} e h hl => by
    subst h
    have := DPut.k (k := kI s) (v := u) e (by rw [List.length_map]; exact hl)
    rw [putK_inj kI fun _ _ => kI_inj] at this
    exact this
  nl := fun _ _ z => by cases z
  nt := fun _ _ z => by cases z
  disp := fun {σ i n H v s Q} e h q => .inl fun p hp => by
    subst h
    refine ⟨_, e, upd_same, [(kI s, .int n)], rfl, (by show 1 ≤ 15; decide), ?_⟩
    rw [upd_upd]
    exact q p hp
def kP (s : Nat × Nat) : List Key := [kI s.1, kI s.2]
theorem kP_inj (a b : Nat × Nat) (h : kP a = kP b) : a = b := by
  unfold kP at h
  injection h with h1 h2
  injection h2 with h2 _
  exact Prod.ext (kI_inj h1) (kI_inj h2)
def kPair : Kind (Nat × Nat) where
  rep := fun H v s => ∃ b, v = .ref b ∧ H b = some (.tup [nV s.1, nV s.2])
  dob := fun kvs => .dT (kvs.map fun p => (kP p.1, p.2))
  keep := fun k ⟨b, e, h⟩ => ⟨b, e, k _ _ h⟩
  get := fun {H d kvs v s} e h => by
    obtain ⟨b, rfl, h⟩ := h
    have := DGet.t (k := kP s) e h
    rw [valV_inj kP kP_inj] at this
    exact this
  put := fun {H d kvs v u s} e h hl => by
    obtain ⟨b, rfl, h⟩ := h
    have := DPut.t (k := kP s) (v := u) e h (by rw [List.length_map]; exact hl)
    rw [putK_inj kP kP_inj] at this
    exact this
  nl := fun _ _ z => by cases z
  nt := fun _ _ z => by cases z
  disp := fun {σ i n H v s Q} e h q => .inr fun p hp => by
    obtain ⟨b, rfl, h⟩ := h
    refine ⟨_, e, b, kP s, rfl, upd_same, (upd_ne (ne_of_none h hp)).trans h, ?_⟩
    rw [upd_upd]
    exact q p hp
/-! ### searching -/
section
variable {S : Type} [DecidableEq S]
def runS (stp : S → Nat → S) (s : S) (v : List Nat) : S := v.foldl stp s
def ReS (k : Nat) (stp : S → Nat → S) (s0 s : S) : Prop := ∃ v, okW k v ∧ runS stp s0 v = s
theorem ReS.step {k : Nat} {stp : S → Nat → S} {s0 s : S} {a : Nat} (r : ReS k stp s0 s) (ha : a < k) : ReS k stp s0 (stp s a) := by
  obtain ⟨v, h1, h2⟩ := r
  refine ⟨v ++ [a], fun b hb => ?_, by unfold runS at h2 ⊢; rw [List.foldl_append, h2]; rfl⟩
  rcases List.mem_append.mp hb with z | z
  · exact h1 b z
  · rw [List.mem_singleton.mp z]
    exact ha
structure RchS (k : Nat) (stp : S → Nat → S) (s0 : S) (l : List S) : Prop where
  nd : l.Nodup
  hd : l[0]? = some s0
  re : ∀ s ∈ l, ReS k stp s0 s
theorem RchS.start {k : Nat} (stp : S → Nat → S) (s0 : S) : RchS k stp s0 [s0] := ⟨by simp, rfl, fun s h => by rw [List.mem_singleton.mp h]; exact ⟨[], fun _ h => (by cases h), rfl⟩⟩
theorem RchS.snoc {k : Nat} {stp : S → Nat → S} {s0 : S} {l : List S} (R : RchS k stp s0 l) {s : S} (hs : ReS k stp s0 s) (new : s ∉ l) : RchS k stp s0 (l ++ [s]) where
  nd := nodup_snoc R.nd new
  hd := by
    have := (List.getElem?_eq_some_iff.mp R.hd).1
    rw [List.getElem?_append_left this]
    exact R.hd
  re := fun p hp => by
    rcases List.mem_append.mp hp with z | z
    · exact R.re p z
    · rw [List.mem_singleton.mp z]
      exact hs
/-- the places of l -/
def plS (l : List S) : List (S × V) := l.zipIdx.map fun p => (p.1, nV p.2)
theorem plS_fst (l : List S) : (plS l).map (·.1) = l := by
  unfold plS
  rw [List.map_map]
  exact List.zipIdx_map_fst 0 l
theorem plS_len (l : List S) : (plS l).length = l.length := by
  have := congrArg List.length (plS_fst l)
  rwa [List.length_map] at this
theorem plS_none {l : List S} {s : S} (h : s ∉ l) : valV (plS l) s = none := valV_no (by rw [plS_fst]; exact h)
theorem plS_some {l : List S} {s : S} {j : Nat} (nd : l.Nodup) (h : l[j]? = some s) : valV (plS l) s = some (nV j) :=
  valV_mem (by rw [plS_fst]; exact nd) (List.mem_map.mpr ⟨(s, j), List.mem_zipIdx_iff_getElem?.mpr h, rfl⟩)
theorem plS_snoc {l : List S} {s : S} (h : s ∉ l) : putK (plS l) s (nV l.length) = plS (l ++ [s]) := by
  rw [putK_new _ (plS_none h)]
  unfold plS
  rw [List.zipIdx_append, List.map_append]
  simp
/-- one row of the table -/
def RowS (k : Nat) (stp : S → Nat → S) (l : List S) (i : Nat) (row : List Nat) : Prop := row.length = k ∧ ∀ a, a < k → ∃ q s, row[a]? = some q ∧ l[i]? = some s ∧ l[q]? = some (stp s a)
theorem get_app {l z : List S} {i : Nat} {s : S} (h : l[i]? = some s) : (l ++ z)[i]? = some s := by
  rw [List.getElem?_append_left (List.getElem?_eq_some_iff.mp h).1]
  exact h
theorem RowS.app {k : Nat} {stp : S → Nat → S} {l z : List S} {i : Nat} {row : List Nat} (r : RowS k stp l i row) : RowS k stp (l ++ z) i row := ⟨r.1, fun a ha => by
  obtain ⟨q, s, h1, h2, h3⟩ := r.2 a ha
  exact ⟨q, s, h1, get_app h2, get_app h3⟩⟩
/-- the machine found -/
theorem found_ok {k : Nat} {stp : S → Nat → S} {s0 : S} {l : List S} {rows : List (List Nat)} (acc : S → Bool) (R : RchS k stp s0 l) (hl : rows.length = l.length) (few : l.length ≤ 1000) (hr : ∀ i row, rows[i]? = some row → RowS k stp l i row) :
    Wf k ⟨l.map acc, rows⟩ ∧ ∀ v, okW k v → accT ⟨l.map acc, rows⟩ 0 v = acc (runS stp s0 v) := by
  have run : ∀ (v : List Nat), okW k v → ∀ i s, l[i]? = some s → l[runT rows i v]? = some (runS stp s v) := by
    intro v
    induction v with
    | nil => exact fun _ i s h => h
    | cons a v ih =>
      intro ok i s h
      have hi : i < rows.length := by rw [hl]; exact (List.getElem?_eq_some_iff.mp h).1
      obtain ⟨_, h2⟩ := hr i _ (List.getElem?_eq_getElem hi)
      obtain ⟨q, s', e1, e2, e3⟩ := h2 a (ok a List.mem_cons_self)
      rw [h] at e2
      cases e2
      have en : nxt rows i a = q := by
        unfold nxt
        rw [getD_of (List.getElem?_eq_getElem hi), getD_of e1]
      show l[runT rows (nxt rows i a) v]? = some (runS stp (stp s a) v)
      rw [en]
      exact ih (fun x hx => ok x (List.mem_cons_of_mem _ hx)) q _ e3
  refine ⟨⟨by show rows.length = (l.map acc).length; rw [List.length_map, hl], ?_, fun r hr' => ?_, by show (l.map acc).length ≤ 1000; rw [List.length_map]; exact few⟩, fun v ok => ?_⟩
  · show 0 < (l.map acc).length
    rw [List.length_map]
    exact (List.getElem?_eq_some_iff.mp R.hd).1
  · obtain ⟨i, hi⟩ := List.mem_iff_getElem?.mp hr'
    obtain ⟨h1, h2⟩ := hr i r hi
    refine ⟨h1, fun q hq => ?_⟩
    obtain ⟨a, ha⟩ := List.mem_iff_getElem?.mp hq
    obtain ⟨q', s, e1, _, e3⟩ := h2 a (by rw [← h1]; exact (List.getElem?_eq_some_iff.mp ha).1)
    rw [ha] at e1
    cases e1
    show q < (l.map acc).length
    rw [List.length_map]
    exact (List.getElem?_eq_some_iff.mp e3).1
  · have := run v ok 0 s0 R.hd
    unfold accT
    refine getD_of ?_
    show (l.map acc)[runT rows 0 v]? = _
    rw [List.getElem?_map, this]
    rfl
/-! ### the heap while it searches -/
structure ExI (kd : Kind S) (k : Nat) (stp : S → Nat → S) (s0 : S) (H0 H : Hp) (A D T : Addr) (l : List S) (vs : List V) (rs : List Addr) (rows : List (List Nat)) : Prop where
  sm : Same H0 H
  fA : H0 A = none
  fD : H0 D = none
  fT : H0 T = none
  nAT : A ≠ T
  eA : H A = some (.lst vs)
  rl : vs.length = l.length
  rp : ∀ (j : Nat) v s, vs[j]? = some v → l[j]? = some s → kd.rep H v s
  eD : H D = some (kd.dob (plS l))
  eT : H T = some (.lst (rs.map V.ref))
  tl : rs.length = rows.length
  tr : ∀ (j : Nat) r row, rs[j]? = some r → rows[j]? = some row → H r = some (.lst (row.map nV))
  nA : A ∉ rs
  nT : T ∉ rs
  R : RchS k stp s0 l
  ok : ∀ (i : Nat) row, rows[i]? = some row → RowS k stp l i row
variable {kd : Kind S} {k : Nat} {stp : S → Nat → S} {s0 : S} {H0 H H' : Hp} {A D T : Addr} {l : List S} {vs : List V} {rs : List Addr} {rows : List (List Nat)}
theorem ExI.keep (I : ExI kd k stp s0 H0 H A D T l vs rs rows) (s : Same H H') : ExI kd k stp s0 H0 H' A D T l vs rs rows where
  sm := I.sm.trans s
  fA := I.fA
  fD := I.fD
  fT := I.fT
  nAT := I.nAT
  eA := s _ _ I.eA
  rl := I.rl
  rp := fun j v s' h1 h2 => kd.keep (fun b xs e => s b _ e) (I.rp j v s' h1 h2)
  eD := s _ _ I.eD
  eT := s _ _ I.eT
  tl := I.tl
  tr := fun j r row h1 h2 => s _ _ (I.tr j r row h1 h2)
  nA := I.nA
  nT := I.nT
  R := I.R
  ok := I.ok
theorem ExI.nD (I : ExI kd k stp s0 H0 H A D T l vs rs rows) : D ≠ A ∧ D ≠ T ∧ ∀ r ∈ rs, r ≠ D := by
  refine ⟨ne_of I.eD I.eA (kd.nl _ _), ne_of I.eD I.eT (kd.nl _ _), fun r hr => ?_⟩
  obtain ⟨j, hj⟩ := List.mem_iff_getElem?.mp hr
  have hj2 : j < rows.length := by rw [← I.tl]; exact (List.getElem?_eq_some_iff.mp hj).1
  exact ne_of (I.tr j r _ hj (List.getElem?_eq_getElem hj2)) I.eD fun z => kd.nl _ _ z.symm
/-- an object of another place is written -/
theorem ExI.other (I : ExI kd k stp s0 H0 H A D T l vs rs rows) {B : Addr} {o : HO} (h0 : H0 B = none) (ht : ∀ xs, H B ≠ some (.tup xs)) (n1 : B ≠ A) (n2 : B ≠ D) (n3 : B ≠ T) (n4 : B ∉ rs) : ExI kd k stp s0 H0 (upd H B o) A D T l vs rs rows where
  sm := same_store I.sm h0
  fA := I.fA
  fD := I.fD
  fT := I.fT
  nAT := I.nAT
  eA := (upd_ne n1.symm).trans I.eA
  rl := I.rl
  rp := fun j v s' h1 h2 => kd.keep (fun b xs e => (upd_ne (fun z => ht xs (by rw [← z]; exact e))).trans e) (I.rp j v s' h1 h2)
  eD := (upd_ne n2.symm).trans I.eD
  eT := (upd_ne n3.symm).trans I.eT
  tl := I.tl
  tr := fun j r row h1 h2 => (upd_ne (fun z => n4 (by rw [← z]; exact List.mem_of_getElem? h1))).trans (I.tr j r row h1 h2)
  nA := I.nA
  nT := I.nT
  R := I.R
  ok := I.ok
/-- a new state -/
theorem ExI.add (I : ExI kd k stp s0 H0 H A D T l vs rs rows) {v : V} {s : S} (hv : kd.rep H v s) (hs : ReS k stp s0 s) (new : s ∉ l) :
    ExI kd k stp s0 H0 (upd (upd H D (kd.dob (plS (l ++ [s])))) A (.lst (vs ++ [v]))) A D T (l ++ [s]) (vs ++ [v]) rs rows where
  sm := same_store (same_store I.sm I.fD) I.fA
  fA := I.fA
  fD := I.fD
  fT := I.fT
  nAT := I.nAT
  eA := upd_same
  rl := by rw [List.length_append, List.length_append, I.rl]; rfl
  rp := fun j v' s' h1 h2 => by
    have kp : ∀ b xs, H b = some (.tup xs) → upd (upd H D (kd.dob (plS (l ++ [s])))) A (.lst (vs ++ [v])) b = some (.tup xs) := fun b xs e => by
      rw [upd_ne (ne_of e I.eA fun z => by cases z), upd_ne (ne_of e I.eD fun z => kd.nt _ _ z.symm)]
      exact e
    by_cases hj : j < l.length
    · rw [List.getElem?_append_left (by rw [I.rl]; exact hj)] at h1
      rw [List.getElem?_append_left hj] at h2
      exact kd.keep kp (I.rp j v' s' h1 h2)
    · have ej : j = l.length := by
        have := (List.getElem?_eq_some_iff.mp h2).1
        rw [List.length_append, List.length_singleton] at this
        omega
      subst ej
      rw [List.getElem?_append_right (Nat.le_refl _), Nat.sub_self] at h2
      rw [← I.rl, List.getElem?_append_right (Nat.le_refl _), Nat.sub_self] at h1
      cases h1
      cases h2
      exact kd.keep kp hv
  eD := (upd_ne I.nD.1).trans upd_same
  eT := (upd_ne I.nAT.symm).trans ((upd_ne I.nD.2.1.symm).trans I.eT)
  tl := I.tl
  tr := fun j r row h1 h2 => by
    have hm := List.mem_of_getElem? h1
    rw [upd_ne (fun z => I.nA (by rw [← z]; exact hm)), upd_ne (I.nD.2.2 r hm)]
    exact I.tr j r row h1 h2
  nA := I.nA
  nT := I.nT
  R := I.R.snoc hs new
  ok := fun i row h => (I.ok i row h).app
/-- a row is done -/
theorem ExI.row (I : ExI kd k stp s0 H0 H A D T l vs rs rows) {r : Addr} {row : List Nat} (hr : H r = some (.lst (row.map nV))) (n1 : r ≠ A) (n2 : r ≠ T) (hrow : RowS k stp l rows.length row) :
    ExI kd k stp s0 H0 (upd H T (.lst (rs.map V.ref ++ [.ref r]))) A D T l vs (rs ++ [r]) (rows ++ [row]) where
  sm := same_store I.sm I.fT
  fA := I.fA
  fD := I.fD
  fT := I.fT
  nAT := I.nAT
  eA := (upd_ne I.nAT).trans I.eA
  rl := I.rl
  rp := fun j v s' h1 h2 => kd.keep (fun b xs e => (upd_ne (ne_of e I.eT fun z => by cases z)).trans e) (I.rp j v s' h1 h2)
  eD := (upd_ne I.nD.2.1).trans I.eD
  eT := by rw [upd_same, List.map_append]; rfl
  tl := by rw [List.length_append, List.length_append, I.tl]; rfl
  tr := fun j r' row' h1 h2 => by
    by_cases hj : j < rs.length
    · rw [List.getElem?_append_left hj] at h1
      rw [List.getElem?_append_left (by rw [← I.tl]; exact hj)] at h2
      rw [upd_ne (fun z => I.nT (by rw [← z]; exact List.mem_of_getElem? h1))]
      exact I.tr j r' row' h1 h2
    · have ej : j = rs.length := by
        have := (List.getElem?_eq_some_iff.mp h1).1
        rw [List.length_append, List.length_singleton] at this
        omega
      subst ej
      rw [List.getElem?_append_right (Nat.le_refl _), Nat.sub_self] at h1
      rw [I.tl, List.getElem?_append_right (Nat.le_refl _), Nat.sub_self] at h2
      cases h1
      cases h2
      rw [upd_ne n2]
      exact hr
  nA := fun z => by
    rcases List.mem_append.mp z with z | z
    · exact I.nA z
    · exact n1 (List.mem_singleton.mp z).symm
  nT := fun z => by
    rcases List.mem_append.mp z with z | z
    · exact I.nT z
    · exact n2 (List.mem_singleton.mp z).symm
  R := I.R
  ok := fun i row' h => by
    by_cases hi : i < rows.length
    · rw [List.getElem?_append_left hi] at h
      exact I.ok i row' h
    · have ei : i = rows.length := by
        have := (List.getElem?_eq_some_iff.mp h).1
        rw [List.length_append, List.length_singleton] at this
        omega
      subst ei
      rw [List.getElem?_append_right (Nat.le_refl _), Nat.sub_self] at h
      cases h
      exact hrow
end
end K46
set_option Elab.async false
set_option linter.all false
set_option maxRecDepth 100000
set_option maxHeartbeats 1600000
namespace K46
open PySem PySem.Spec PyProof.Rows L2
section
variable {P : Program} {w : World} {K : PySem.W.Frag} {mg : Str → Option Value} {base : Heap}
abbrev nmExp : List Str := ["letters", "start", "step", "is_accepting", "states", "places", "table", "at", "row", "letter", "following", "state"]
theorem scExp : FnScope nmExp ["letters", "start", "step", "is_accepting"] (defScope (topS 16)) := C8.fnScope_by (by decide +kernel)
/-- what a call of step needs and gives -/
def RStep {S : Type} [DecidableEq S] (kd : Kind S) (x : Str) (stp : S → Nat → S) (s0 : S) : List V → Hp → VK → Prop := fun vs H Q => ∃ (v : V) (s : S) (a c : Nat), vs = [v, .str ⟨#[c]⟩] ∧ kd.rep H v s ∧ ReS x.cps.size stp s0 s ∧ a < x.cps.size ∧ x.cps.toList[a]? = some c ∧
  ∀ H' v', Same H H' → kd.rep H' v' (stp s a) → Q v' H'
def RAcc {S : Type} [DecidableEq S] (kd : Kind S) (x : Str) (stp : S → Nat → S) (s0 : S) (acc : S → Bool) : List V → Hp → VK → Prop := fun vs H Q => ∃ (v : V) (s : S), vs = [v] ∧ kd.rep H v s ∧ ReS x.cps.size stp s0 s ∧ ∀ H', Same H H' → Q (.bl (acc s)) H'
def spExp (P : Program) (w : World) (K : PySem.W.Frag) (mg : Str → Option Value) (base : Heap) {S : Type} [DecidableEq S] (kd : Kind S) : Sp := fun vs H Q _ => ∃ (x : Str) (v0 : V) (fS fA : Addr) (s0 : S) (stp : S → Nat → S) (acc : S → Bool) (n : Nat), vs = [.str x, v0, .ref fS, .ref fA] ∧ kd.rep H v0 s0 ∧ x.cps.size ≤ 1000 ∧ n < 64 ∧
  (∀ l : List S, l.Nodup → (∀ s ∈ l, ReS x.cps.size stp s0 s) → l.length ≤ n) ∧ CloP P w K mg base 4 fS H (RStep kd x stp s0) ∧ CloP P w K mg base 4 fA H (RAcc kd x stp s0 acc) ∧
  ∀ H' p M', Same H H' → H p = none → MachK K H' p x M' → Least x.cps.size (fun u => acc (runS stp s0 u)) M' → M'.acc.length ≤ n → Q (.ref p) H'
theorem cal_explored (T : Tx K mg) {S : Type} [DecidableEq S] (kd : Kind S) : C8.Cal P w K mg base 5 "explored" (spExp P w K mg base kd) [] := by
  refine cal_of T (i := 16) 8 rfl (by decide +kernel) scExp (fun _ _ _ _ _ _ us hl => match us, hl with | [_, _, _, _], _ => rfl) (fun vs H Q E h => ?_) (fun f cdv A outer s H vs Q E hr h => ?_)
  · obtain ⟨x, v0, fS, fA, s0, stp, acc, n, rfl, _⟩ := h
    rfl
  · obtain ⟨x, v0, fS, fA, s0, stp, acc, n, rfl, hv0, hx, hn, hb, cS, cA, q⟩ := h
    have hu := hu_of hr
    refine ⟨_, pss_cons (ps_set (i := 4) scExp.nd rfl (.inl rfl) (pe_lst (pa_cons (pv 1) pa_nil)))
      (pss_cons (ps_set (i := 5) scExp.nd rfl (.inl rfl) (pe_or (pe_disp (pps_cons (pv 1) pe_int pps_nil) (by rfl) (by rfl) (fun z => by cases z) (by decide)) (pe_disp1T hu (pv 1) pe_int)))
      (pss_cons (ps_set (i := 6) scExp.nd rfl (.inl rfl) (pe_lst pa_nil))
      (pss_cons (ps_set (i := 7) scExp.nd rfl (.inl rfl) pe_int)
      (pss_cons (ps_while PassesOwn.never (pt_cmpR op_lt (pv 7) (pe_callB (lenB K) (by rfl) (T.b "len" (by decide +kernel)) PySem.boot_len (pa_cons (pv 4) pa_nil)) (nomark _))
        (pss_cons (ps_set (i := 8) scExp.nd rfl (.inl rfl) (pe_lst pa_nil))
        (pss_cons (ps_for PassesOwn.never rfl (pi_str (pv 0)) (pg_name (i := 9) scExp.nd rfl (.inl rfl))
          (pss_cons (ps_set (i := 10) scExp.nd rfl (.inl rfl) (pe_callP (i := 2) cS hr rfl (.inl rfl) (pa_cons (pe_ix (ixB K) (pv 4) (pv 7) (fun _ _ => rfl)) (pa_cons (pv 9) pa_nil))))
          (pss_cons (ps_if (pt_cmp (pc_dnotin hu (pv 10) (pv 5)))
            (pss_cons (ps_dput hu (pv 5) (pv 10) (pe_callB (lenB K) (by rfl) (T.b "len" (by decide +kernel)) PySem.boot_len (pa_cons (pv 4) pa_nil)) rfl)
              (pss_one (ps_expr (pe_bm PySem.F.plainAttrs_list PySem.F.slot_list_append PySem.F.type_list_append mt_append (pv 4) (pa_cons (pv 10) pa_nil))))) pss_nil)
          (pss_one (ps_expr (pe_bm PySem.F.plainAttrs_list PySem.F.slot_list_append PySem.F.type_list_append mt_append (pv 8) (pa_cons (pe_dget hu (pv 5) (pv 10) (fun _ _ => rfl)) pa_nil)))))))
        (pss_cons (ps_expr (pe_bm PySem.F.plainAttrs_list PySem.F.slot_list_append PySem.F.type_list_append mt_append (pv 6) (pa_cons (pv 8) pa_nil)))
        (pss_one (ps_set (i := 7) scExp.nd rfl (.inl rfl) (pe_op op_add (pv 7) pe_int)))))))
      (pss_one (ps_ret (C8.pe_c (cal_least_of T) hr (by decide) (by rfl) (pa_cons (pv 0) (pa_cons
          (pe_lc (own := [("state", 11)]) (g := gName 11) (tt := tYes) rfl scExp.nd (piB K (pv 4)) (blkOk_by (N := nmExp) (sc := defScope (topS 16)) (by decide +kernel))
            (fun _ _ _ _ _ => pg_name (i := 11) scExp.nd rfl (Or.inl rfl)) (fun _ _ _ _ _ => pts_nil) (fun _ _ _ _ _ => pe_callP (i := 3) cA hr rfl (.inr (.inl rfl)) (pa_cons (pv 11) pa_nil))) (pa_cons (pv 6) pa_nil)))))))))), ?_⟩
    refine ⟨_, rfl, by show 1 ≤ sizeLine; decide, fun A hA => ?_⟩
    have kp0 : ∀ b xs, H b = some (.tup xs) → upd H A (.lst [v0]) b = some (.tup xs) := fun b xs e => same_upd hA _ _ e
    refine kd.disp (v := v0) (s := s0) rfl (kd.keep kp0 hv0) fun D hD => ?_
    refine ⟨by show 0 ≤ sizeLine; decide, fun Tt hT => ?_⟩
    have sm0 : Same H (upd (upd (upd H A (.lst [v0])) D (kd.dob [(s0, .int 0)])) Tt (.lst [])) := ((same_upd hA).trans (same_upd hD)).trans (same_upd hT)
    have nTD : Tt ≠ D := (upd_none hT).2
    have nTA : Tt ≠ A := (upd_none (upd_none hT).1).2
    have nDA : D ≠ A := (upd_none hD).2
    have I0 : ExI kd x.cps.size stp s0 H (upd (upd (upd H A (.lst [v0])) D (kd.dob [(s0, .int 0)])) Tt (.lst [])) A D Tt [s0] [v0] [] [] := {
      sm := sm0
      fA := hA
      fD := (upd_none hD).1
      fT := (upd_none (upd_none hT).1).1
      nAT := nTA.symm
      eA := by rw [upd_ne nTA.symm, upd_ne nDA.symm, upd_same]
      rl := rfl
      rp := fun j v s h1 h2 => by
        cases j with
        | zero =>
          cases h1
          cases h2
          exact kd.keep (fun b xs e => sm0 b _ e) hv0
        | succ j => simp at h1
      eD := by rw [upd_ne nTD.symm, upd_same]; rfl
      eT := by rw [upd_same]; rfl
      tl := rfl
      tr := fun j r row h1 => by simp at h1
      nA := fun h => by cases h
      nT := fun h => by cases h
      R := .start stp s0
      ok := fun i row h => by simp at h }
    generalize upd (upd (upd H A (.lst [v0])) D (kd.dob [(s0, .int 0)])) Tt (.lst []) = H1 at I0 ⊢
    clear hD hT kp0 sm0 nTD nTA nDA
    refine while_by (fun σ H1 => ∃ (l : List S) (vs : List V) (rs : List Addr) (rows : List (List Nat)) (y8 y9 y10 : Option V), σ = [some (.str x), some v0, some (.ref fS), some (.ref fA), some (.ref A), some (.ref D), some (.ref Tt), some (nV rows.length), y8, y9, y10, none] ∧ ExI kd x.cps.size stp s0 H H1 A D Tt l vs rs rows ∧ rows.length ≤ l.length)
      (fun σ _ => n + 1 - (sI 7 σ).toNat) ⟨_, _, _, [], none, none, none, rfl, I0, Nat.zero_le _⟩ (fun σ H1 hP => ?_) (fun σ H Q Q' m q => ?_)
    · obtain ⟨l, vs, rs, rows, y8, y9, y10, rfl, I, hle⟩ := hP
      have hln := hb l I.R.nd I.R.re
      refine ⟨_, rfl, _, rfl, true, _, _, rfl, .lst I.eA, _, _, rfl, rfl, _, rfl, ?_⟩
      rw [I.rl]
      refine ite2 (fun c => ?_) (fun c => ?_)
      · have c1 : rows.length < l.length := by
          have : (rows.length : Int) < (l.length : Int) := of_decide_eq_true c
          omega
        refine ⟨by show 0 ≤ sizeLine; decide, fun Rw hR => ?_⟩
        have hR0 : H Rw = none := by
          cases z : H Rw with
          | none => rfl
          | some o => rw [I.sm _ _ z] at hR; cases hR
        have nRA : Rw ≠ A := fun z => by rw [z, I.eA] at hR; cases hR
        have nRD : Rw ≠ D := fun z => by rw [z, I.eD] at hR; cases hR
        have nRT : Rw ≠ Tt := fun z => by rw [z, I.eT] at hR; cases hR
        have nRr : Rw ∉ rs := fun z => by
          obtain ⟨j, hj⟩ := List.mem_iff_getElem?.mp z
          have hj2 : j < rows.length := by rw [← I.tl]; exact (List.getElem?_eq_some_iff.mp hj).1
          rw [I.tr j _ _ hj (List.getElem?_eq_getElem hj2)] at hR
          cases hR
        have I1 := I.other (B := Rw) (o := .lst []) hR0 (fun xs z => by rw [hR] at z; cases z) nRA nRD nRT nRr
        have eR1 : upd H1 Rw (.lst []) Rw = some (.lst []) := upd_same
        generalize upd H1 Rw (.lst []) = H2 at I1 eR1 ⊢
        have hs0 := List.getElem?_eq_getElem c1
        have hsm : l[rows.length] ∈ l := List.getElem_mem c1
        generalize l[rows.length] = st at hs0 hsm
        have hre := I.R.re st hsm
        refine ⟨_, rfl, _, rfl, for_by (wk_str x) (fun j σ H3 => ∃ (l2 : List S) (vs2 : List V) (cur : List Nat) (y9 y10 : Option V), σ = [some (.str x), some v0, some (.ref fS), some (.ref fA), some (.ref A), some (.ref D), some (.ref Tt), some (nV rows.length), some (.ref Rw), y9, y10, none] ∧ ExI kd x.cps.size stp s0 H H3 A D Tt l2 vs2 rs rows ∧ (∃ z, l2 = l ++ z) ∧ H3 Rw = some (.lst (cur.map nV)) ∧ cur.length = j ∧ ∀ a, a < j → ∃ q, cur[a]? = some q ∧ l2[q]? = some (stp st a))
          ⟨l, vs, [], y9, y10, rfl, I1, ⟨[], by simp⟩, eR1, rfl, fun a h => absurd h (Nat.not_lt_zero _)⟩ (fun j σ H3 _ hP => trivial) (fun j v σ H3 hj hv hP => ?_) (fun σ H3 hP => ?_)⟩
        · obtain ⟨l2, vs2, cur, y9, y10, rfl, I3, ⟨z, hz⟩, eR, hcl, hcur⟩ := hP
          obtain ⟨c0, hc, rfl⟩ := hv
          have hs2 : l2[rows.length]? = some st := by rw [hz]; exact get_app hs0
          have hv2 : rows.length < vs2.length := by rw [I3.rl]; exact (List.getElem?_eq_some_iff.mp hs2).1
          have hvg := List.getElem?_eq_getElem hv2
          generalize vs2[rows.length] = vv at hvg
          have hrp := I3.rp _ _ _ hvg hs2
          refine ⟨rfl, I3.sm, _, rfl, _, rfl, true, _, _, _, _, rfl, rfl, .lst I3.eA, atI_nat hvg, _, rfl, I3.sm, vv, st, j, c0, rfl, hrp, hre, hj, by rw [Array.getElem?_toList]; exact hc, fun H4 v' s34 hr4 => ?_⟩
          have I4 := I3.keep s34
          have eR4 := s34 _ _ eR
          have hre' := hre.step hj
          have few2 := hb l2 I3.R.nd I3.R.re
          refine ⟨_, rfl, _, rfl, D, _, rfl, kd.get I4.eD hr4, _, rfl, ?_⟩
          by_cases hm : stp st j ∈ l2
          · obtain ⟨q0, hq0⟩ := List.mem_iff_getElem?.mp hm
            rw [plS_some I4.R.nd hq0]
            refine iteF ⟨_, rfl, .inl ⟨rfl, _, SqL.of eR4⟩, _, rfl, _, rfl, D, nV q0, rfl, ?_, Rw, _, _, rfl, rfl, eR4, by rw [List.length_map, hcl, sizeLine_eq]; omega, l2, vs2, cur ++ [q0], _, _, rfl, I4.other hR0 (fun xs z => by rw [eR4] at z; cases z) nRA nRD nRT nRr, ⟨z, hz⟩, ?_, by rw [List.length_append, hcl]; rfl, fun a ha => ?_⟩
            · have g := kd.get I4.eD hr4
              rw [plS_some I4.R.nd hq0] at g
              exact g
            · rw [upd_same, List.map_append]
              rfl
            · rcases Nat.lt_or_ge a j with y | y
              · obtain ⟨q1, h1, h2⟩ := hcur a y
                exact ⟨q1, get_app h1, h2⟩
              · have ea : a = j := by omega
                subst ea
                exact ⟨q0, by rw [← hcl, List.getElem?_append_right (Nat.le_refl _), Nat.sub_self]; rfl, hq0⟩
          · rw [plS_none hm]
            have I5 := I4.add hr4 hre' hm
            have eA5 : upd H4 D (kd.dob (plS (l2 ++ [stp st j]))) A = some (.lst vs2) := (upd_ne I4.nD.1.symm).trans I4.eA
            have small : l2.length < sizeLine := by rw [sizeLine_eq]; omega
            have dp := kd.put (u := nV l2.length) I4.eD hr4 (by rw [plS_len]; exact small)
            rw [plS_snoc hm] at dp
            refine iteT ⟨_, rfl, true, A, _, rfl, .lst I4.eA, _, rfl, _, rfl, D, _, rfl, by rw [I4.rl]; exact dp, _, rfl, .inl ⟨rfl, _, SqL.of eA5⟩, _, rfl, A, _, _, rfl, rfl, eA5, by rw [I4.rl]; exact small, ?_⟩
            have eR5 : upd (upd H4 D (kd.dob (plS (l2 ++ [stp st j])))) A (.lst (vs2 ++ [v'])) Rw = some (.lst (cur.map nV)) := by
              rw [upd_ne nRA, upd_ne nRD]
              exact eR4
            have few3 := hb _ I5.R.nd I5.R.re
            have hq0 : (l2 ++ [stp st j])[l2.length]? = some (stp st j) := by rw [List.getElem?_append_right (Nat.le_refl _), Nat.sub_self]; rfl
            have hr5 : kd.rep (upd (upd H4 D (kd.dob (plS (l2 ++ [stp st j])))) A (.lst (vs2 ++ [v']))) v' (stp st j) := I5.rp l2.length v' _ (by rw [← I4.rl, List.getElem?_append_right (Nat.le_refl _), Nat.sub_self]; rfl) hq0
            generalize upd (upd H4 D (kd.dob (plS (l2 ++ [stp st j])))) A (.lst (vs2 ++ [v'])) = H5 at I5 eR5 hr5 ⊢
            refine ⟨_, rfl, .inl ⟨rfl, _, SqL.of eR5⟩, _, rfl, _, rfl, D, nV l2.length, rfl, ?_, Rw, _, _, rfl, rfl, eR5, by rw [List.length_map, hcl, sizeLine_eq]; omega, _, _, cur ++ [l2.length], _, _, rfl, I5.other hR0 (fun xs z => by rw [eR5] at z; cases z) nRA nRD nRT nRr, ⟨z ++ [stp st j], by rw [hz, List.append_assoc]⟩, ?_, by rw [List.length_append, hcl]; rfl, fun a ha => ?_⟩
            · have g := kd.get I5.eD hr5
              rw [plS_some I5.R.nd hq0] at g
              exact g
            · rw [upd_same, List.map_append]
              rfl
            · rcases Nat.lt_or_ge a j with y | y
              · obtain ⟨q1, h1, h2⟩ := hcur a y
                exact ⟨q1, get_app h1, get_app h2⟩
              · have ea : a = j := by omega
                subst ea
                exact ⟨l2.length, by rw [← hcl, List.getElem?_append_right (Nat.le_refl _), Nat.sub_self]; rfl, hq0⟩
        · obtain ⟨l2, vs2, cur, y9, y10, rfl, I3, ⟨z, hz⟩, eR, hcl, hcur⟩ := hP
          have hs2 : l2[rows.length]? = some st := by rw [hz]; exact get_app hs0
          have few2 := hb l2 I3.R.nd I3.R.re
          have hrow : RowS x.cps.size stp l2 rows.length cur := ⟨hcl, fun a ha => by
            obtain ⟨q1, h1, h2⟩ := hcur a ha
            exact ⟨q1, st, h1, hs2, h2⟩⟩
          have I6 := I3.row eR nRA nRT hrow
          have len2 : l.length ≤ l2.length := by rw [hz, List.length_append]; omega
          refine ⟨_, rfl, .inl ⟨rfl, _, SqL.of I3.eT⟩, _, rfl, Tt, _, _, rfl, rfl, I3.eT, by rw [List.length_map, I3.tl, sizeLine_eq]; omega, _, rfl, _, _, rfl, rfl, ⟨l2, vs2, _, _, some (.ref Rw), y9, y10, ?_, I6, by rw [List.length_append, List.length_singleton]; omega⟩, ?_⟩
          · rw [List.length_append, List.length_singleton]
            rfl
          · show n + 1 - ((rows.length : Int) + 1).toNat < n + 1 - ((rows.length : Int)).toNat
            omega
      · have c1 : ¬ (rows.length : Int) < (l.length : Int) := fun z => c (decide_eq_true z)
        have el : rows.length = l.length := by omega
        obtain ⟨W, hacc⟩ := found_ok acc I.R el (by omega) I.ok
        refine ⟨_, rfl, .ref A, rfl, A, true, rfl, ⟨_, .lst I.eA⟩, fun B hB => lc_by (wk_seq true K A vs) (fun i H3 => Same H1 H3 ∧ H3 B = some (.lst ((l.take i).map fun s => V.bl (acc s)))) ⟨same_upd hB, by rw [upd_same]; rfl⟩ (fun i H3 _ hP => .lst (hP.1 _ _ I.eA)) (fun i v H3 hi hv hP => ?_) (fun H3 hP => ?_)⟩
        · obtain ⟨s13, eB⟩ := hP
          have hi2 : i < l.length := by rw [← I.rl]; exact hi
          have hli := List.getElem?_eq_getElem hi2
          have hsm : l[i] ∈ l := List.getElem_mem hi2
          generalize l[i] = st at hli hsm
          have I3 := I.keep s13
          refine ⟨rfl, rfl, I3.sm, _, rfl, I3.sm, v, st, rfl, I3.rp i v st hv hli, I.R.re st hsm, fun H4 s34 => ⟨_, s34 _ _ eB, by rw [List.length_map, List.length_take, sizeLine_eq]; omega, fun b o e => ?_, ?_⟩⟩
          · rw [upd_ne (ne_of_none e hB)]
            exact s34 _ _ (s13 _ _ e)
          · rw [upd_same, List.take_add_one, hli, List.map_append]
            rfl
        · obtain ⟨s13, eB⟩ := hP
          rw [I.rl, List.take_length] at eB
          have I3 := I.keep s13
          refine ⟨_, rfl, true, x, B, Tt, ⟨l.map acc, rows⟩, rfl, .lst (by rw [eB]; show some (HO.lst _) = some (HO.lst ((l.map acc).map V.bl)); rw [List.map_map]; rfl), ⟨rs, .lst I3.eT, I3.tl, fun i r row e1 e2 => .lst (I3.tr i r row e1 e2)⟩, W, hx, by show (l.map acc).length < 64; rw [List.length_map]; omega, fun H5 p M' s35 hp hM L hlen => q H5 p M' (I3.sm.trans s35) ?_ hM ⟨L.wf, fun v ok => (L.lang v ok).trans (hacc v ok), L.red, L.rea⟩ ?_⟩
          · cases z : H p with
            | none => rfl
            | some o => rw [I3.sm _ _ z] at hp; cases hp
          · rw [show (Mach.mk (l.map acc) rows).acc.length = l.length from List.length_map ..] at hlen
            omega
    · obtain ⟨v1, e1, v2, e2, b, p, ys, e3, e4, i, j, e5, e6, c, e7, h⟩ := q
      exact ⟨v1, e1, v2, e2, b, p, ys, e3, e4, i, j, e5, e6, c, e7, m _ _ h⟩
end
end K46
set_option Elab.async false
set_option linter.all false
set_option maxRecDepth 100000
set_option maxHeartbeats 1600000
namespace K46
open PySem PySem.Spec PyProof.Rows L2 NdefX LamX
/-! ### the tables of the nested code objects -/
def nmAll (l c : Nat) : Str := if l = 114 then "paired.<locals>.step" else if l = 118 then "paired.<locals>.accepts" else if l = 124 then "since.<locals>.step" else if l = 126 then "since.<locals>.<lambda>" else if l = 143 then "parting.<locals>.<lambda>" else "suite.<locals>.<lambda>"
def TT (K : PySem.W.Frag) : List NTab := tf.map fun p => ((He.cT K p).2, nmAll)
theorem TT_mem {K : PySem.W.Frag} {p : He.Defn} (h : p ∈ tf) : ((He.cT K p).2, nmAll) ∈ TT K := List.mem_map.mpr ⟨p, h, rfl⟩
theorem TT_nm {K : PySem.W.Frag} {P : Addr} : ∀ p ∈ TT K, p.1 = P → p.2 = nmAll := fun p h _ => by
  obtain ⟨q, _, rfl⟩ := List.mem_map.mp h
  rfl
def TBs (K : PySem.W.Frag) (mg : Str → Option Value) (base : Heap) : Prop := ∀ p ∈ tf, TabB base mg (He.cT K p).1 (He.cT K p).2
/-- what a call leaves that may make code objects -/
structure Ex (K : PySem.W.Frag) (H H' : Hp) : Prop where
  ext : ExtN H H'
  new : ∀ b, H' b = none → H b = none
  tab : TabsN (TT K) H → TabsN (TT K) H'
theorem Ex.of {K : PySem.W.Frag} {H H' : Hp} (s : Same H H') : Ex K H H' := ⟨ExtN.of s, fun b e => (by
  cases z : H b with
  | none => rfl
  | some o =>
    rw [s _ _ z] at e
    cases e), fun t => t.ext s⟩
theorem Ex.trans {K : PySem.W.Frag} {H H1 H2 : Hp} (a : Ex K H H1) (b : Ex K H1 H2) : Ex K H H2 := ⟨a.ext.trans b.ext, fun c e => a.new c (b.new c e), fun t => b.tab (a.tab t)⟩
theorem Ex.refl {K : PySem.W.Frag} (H : Hp) : Ex K H H := .of (Same.refl H)
/-! ### what is seen in both heaps -/
/-- all but tables and cells -/
def Vw (H J : Hp) : Prop := ∀ b u, H b = some u → (∀ o, u ≠ .frz o (.own 0)) → (∀ ps, u ≠ .tbl ps) → J b = some u
theorem Ex.vw {K : PySem.W.Frag} {H H' : Hp} (s : Ex K H H') : Vw H H' := fun b u e _ n => s.ext b u e n
theorem SqB.vw {b : Bool} {K : PySem.W.Frag} {H J : Hp} {a : Addr} {xs : List V} (s : Vw H J) (h : SqB b K H a xs) : SqB b K J a xs := by
  cases b with
  | true =>
    rcases h with (h | ⟨o, h⟩) | h
    · exact .inl (.inl (s _ _ h (fun _ z => by cases z) fun _ z => by cases z))
    · exact .inl (.inr ⟨o, s _ _ h (fun _ z => by cases z) fun _ z => by cases z⟩)
    · exact .inr h
  | false =>
    rcases h with (h | ⟨o, h⟩) | h
    · exact .inl (.inl (s _ _ h (fun _ z => by cases z) fun _ z => by cases z))
    · exact .inl (.inr ⟨o, s _ _ h (fun _ z => by cases z) fun _ z => by cases z⟩)
    · exact .inr h
theorem TabK.vw {b : Bool} {K : PySem.W.Frag} {H J : Hp} {t : Addr} {tab : List (List Nat)} (s : Vw H J) (h : TabK b K H t tab) : TabK b K J t tab := by
  obtain ⟨rs, h1, h2, h3⟩ := h
  exact ⟨rs, h1.vw s, h2, fun i r row e1 e2 => (h3 i r row e1 e2).vw s⟩
theorem MachK.vw {K : PySem.W.Frag} {H J : Hp} {p : Addr} {x : Str} {M : Mach} (s : Vw H J) (h : MachK K H p x M) : MachK K J p x M := by
  obtain ⟨dx, a, t, h1, h2, h3⟩ := h
  exact ⟨dx, a, t, s _ _ h1 (fun _ z => by cases z) (fun _ z => by cases z), h2.vw s, h3.vw s⟩
theorem vw_hid {H : Hp} {cl : List (Str × Addr)} {fr : List Str} {ws : List V} (C : ClosH cl fr ws H) : Vw H (hidC cl H) := fun b u e n _ => C.hid e n
theorem vw_untrk {cs : Cells} {H H' : Hp} (s : ExtN (trk cs H) H') : Vw H' (untrk cs H') := fun b u e n _ => by
  cases z : cs.at b with
  | none => rw [untrk_out z]; exact e
  | some p =>
    have e2 := s b _ (trk_at z) fun _ z => by cases z
    rw [e] at e2
    exact absurd (Option.some.inj e2) (n _)
theorem ex_untrk {K : PySem.W.Frag} {cs : Cells} {H H' : Hp} (h : ∀ p ∈ cs, H p.2.1 = none) (s : Ex K (trk cs H) H') : Ex K H (untrk cs H') where
  ext := untrk_same h s.ext
  new := fun b e => by
    cases z : cs.at b with
    | none =>
      rw [untrk_out z] at e
      have := s.new b e
      rwa [trk_out z] at this
    | some p =>
      obtain ⟨h1, h2⟩ := Cells.at_some z
      rw [← h2]
      exact h p h1
  tab := fun t => by
    have t2 := s.tab (t.ext (trk_ext h))
    have out : ∀ b u, H' b = some u → (∀ o, u ≠ .frz o (.own 0)) → untrk cs H' b = some u := fun b u e n => by
      cases z : cs.at b with
      | none => rw [untrk_out z]; exact e
      | some p =>
        have e2 := s.ext b _ (trk_at z) fun _ z => by cases z
        rw [e] at e2
        exact absurd (Option.some.inj e2) (n _)
    intro p hp
    obtain ⟨ps, h1, h2, h3⟩ := t2 p hp
    refine ⟨ps, out _ _ h1 fun _ z => (by cases z), h2, fun pos cv hc => ?_⟩
    obtain ⟨c, e1, e2⟩ := h3 pos cv hc
    exact ⟨c, e1, out _ _ e2 fun _ z => by unfold CodeO at z; cases z⟩
section
variable {P : Program} {w : World} {K : PySem.W.Frag} {mg : Str → Option Value} {base : Heap}
/-- a def of the module with its table -/
theorem cal_ofT (T : Tx K mg) (TB : TBs K mg base) {x : Str} {i : Nat} (j : Nat) {N ps : List Str} {k : Nat} {sp : Sp} (hd : fn[j]? = some (mkD x i)) (hg : x ∈ gnames) (ht : (x, none) ∈ tf) (S : FnScope N ps (defScope (topS i)))
    (hb : ∀ (kV doc pm : Value) (an : Option Addr) (cdv ct : Value) (us : List Value), us.length = ps.length → bindArgs (PySem.W.fnOf x x (defArgs (topS i)) (defBody (topS i)) (defScope (topS i)) .none kV doc pm an cdv ct) ⟨us, []⟩ = pure (ps.zip us))
    (len : ∀ vs H Q E, sp vs H Q E → vs.length = ps.length)
    (hbody : ∀ (c Pt : Addr), TabB base mg c Pt → (Pt, nmAll) ∈ TT K → ∀ (f : Addr) (A : Around) (outer : List Env) (s : Shared) (H : Hp) (vs : List V) (Q : VK) (E : XK), Room k (A.deeper (envOfC x (defScope (topS i)) s.heap.objs.size f (.ref c))) → sp vs H Q E →
      ∃ t, PSs (cxOf CX0 P w K mg base N x (defScope (topS i)) f (.ref c) A outer s H E).nox (defBody (topS i)) t ∧ t { nx := fun _ H' => Q .non H', rt := Q } (start N vs) H) :
    C8.Cal P w K mg base (k + 1) x sp [] := by
  obtain ⟨fd, F⟩ := T.fn _ (List.mem_of_getElem? hd)
  refine ⟨_, fd, ps, [], ?_, T.g x hg, F.kp, F.bindsN hb, .nil⟩
  obtain ⟨oc, od, dV, kV, doc, pm, an, cdv, ct, osl, rfl, lk, hcd, _, _⟩ := F.ex
  obtain ⟨c, rfl⟩ := He.codeIn_ref hcd
  have ec : He.codeOf K (x, none) = c := He.codeOf_eq lk rfl
  have tb : TabB base mg c (He.cT K (x, none)).2 := by
    have := TB _ ht
    unfold He.cT at this ⊢
    rwa [ec] at this ⊢
  refine fn_of lk hcd S len fun A outer s H vs Q E hr hsp => ?_
  obtain ⟨t, h1, h2⟩ := hbody c _ tb (TT_mem ht) _ A outer s H vs Q E hr hsp
  exact ⟨t, h1.nox, h2⟩
end
/-! ### a call while the caller's cells are tracked, the context's law at hand -/
def tCallT2 (X : Cx) (xs : List Str) (sp : Sp) (t : TA) : TE := fun σ H Q => t σ H fun vs H1 => X.Ok → ∀ cs : Cells, cs.map (·.1) = xs → CellsOf X σ H1 cs → sp vs (trk cs H1) (fun v H2 => Q v (untrk cs H2)) E0
section
variable {X : Cx} {k j : Nat} {x : Str} {sp : Sp} {p pos : Pos} {e : Expr} {es : List Expr} {t : TA} {xs : List Str}
theorem pe_callT2 (c : C8.Cal X.prog X.w X.K X.mg X.base k x sp []) (hr : Room j X.A) (hk : k ≤ j) (hg : Gl X x) (hN : X.N.Nodup) (hst : X.stack = X.env :: X.outer) (js : List Nat) (hjs : js.map (fun i => X.N[i]?) = xs.map some) (hcl : ∀ y ∈ xs, X.env.scope.names.lookup y = some .cell ∧ X.fn y = true) (ha : PA X (e :: es) t)
    (hdb : (x == ("__debug__" : Str)) = false := by decide) (he : starEach (e :: es) X.env = (false, eval e X.env) :: starEach es X.env := by rfl) (hpl : (backTo pos (starEach es X.env)).any (·.1) = false := by rfl) :
    PE X (.Call (.Name x p) (e :: es) [] pos) (fun σ H Q => (∀ i ∈ js, ∃ v, σ[i]? = some (some v)) ∧ tCallT2 X xs sp t σ H Q) := by
  obtain ⟨f, fd, ps, ds, F, hm, kp, b, d⟩ := c.ex
  cases d
  refine ⟨fun pins s σ H Q I ⟨hv, h⟩ => ?_⟩
  refine wpAny_Call_Name_kw (ld_glob I hg hm ?_ hdb)
  refine PySem.W.callWith_K (h₀ := X.base) I.ok.mod.kin kp (thn (ha.run pos pins s σ H _ I h) fun us s1 ⟨vs, H1, I1, r, q⟩ => ⟨I1.kIn, ?_⟩) he hpl
  refine run_trk F (hr.mono hk) b (fun y hy => ?_) hN hst I1 r (q I1.ok)
  obtain ⟨n, hn⟩ := List.mem_iff_getElem?.mp hy
  have e1 : (js.map fun i => X.N[i]?)[n]? = some (some y) := by
    rw [hjs, List.getElem?_map, hn]
    rfl
  rw [List.getElem?_map] at e1
  cases ei : js[n]? with
  | none =>
    rw [ei] at e1
    cases e1
  | some i =>
    rw [ei] at e1
    have e2 : X.N[i]? = some y := Option.some.inj e1
    exact ⟨(hcl y hy).1, (hcl y hy).2, i, e2, hv i (List.mem_of_getElem? ei)⟩
end
end K46
set_option Elab.async false
set_option linter.all false
set_option maxRecDepth 100000
set_option maxHeartbeats 1600000
namespace K46
open PySem PySem.Spec PyProof.Rows L2 NdefX LamX
/-! ### since -/
abbrev nmSince : List Str := ["machine", "state", "letters", "step"]
theorem scSince : FnScope nmSince ["machine", "state"] (defScope (topS 19)) := C8.fnScope_by (by decide +kernel)
/-- the nested def -/
abbrev stSince : Stmt := (defBody (topS 19)).getD 1 (.Pass ⟨0, 0, 0, 0⟩)
abbrev nmSStep : List Str := ["at", "letter", "letters", "machine"]
theorem scSStep : NScope nmSStep ["at", "letter"] ["letters", "machine"] (C8.fnScope stSince) := nscope_by (by decide +kernel)
theorem reach_lt {k : Nat} {M : Mach} (W : Wf k M) {s0 s : Nat} (h0 : s0 < M.acc.length) (r : ReS k (nxt M.tab) s0 s) : s < M.acc.length := by
  obtain ⟨v, ok, rfl⟩ := r
  exact W.tb.run h0 ok
def spSStep (K : PySem.W.Frag) : List (Option V) → Sp := fun ws vs H Q _ => ∃ (x : Str) (m : Addr) (M : Mach) (q a c : Nat), ws = [some (.str x), some (.ref m)] ∧ vs = [nV q, .str ⟨#[c]⟩] ∧ MachK K H m x M ∧ Wf x.cps.size M ∧ Ltr x ∧ q < M.acc.length ∧ a < x.cps.size ∧ x.cps.toList[a]? = some c ∧ Q (nV (nxt M.tab q a)) H
theorem free_by {sc outer : Scope} (h : (sc.names.all fun y => !decide (y.2 = .free) || decide (outer.names.lookup y.1 = some .cell) || decide (outer.names.lookup y.1 = some .free)) = true) : ∀ y ∈ sc.names, y.2 = .free → outer.names.lookup y.1 = some .cell ∨ outer.names.lookup y.1 = some .free := fun y hy e => by
  have := List.all_eq_true.mp h y hy
  simp only [Bool.or_eq_true, Bool.not_eq_true', decide_eq_true_eq, decide_eq_false_iff_not] at this
  rcases this with (z | z) | z
  · exact absurd e z
  · exact .inl z
  · exact .inr z
theorem cells_by {xs : List Str} {sc : Scope} (h : (xs.all fun y => decide (sc.names.lookup y = some .cell)) = true) : ∀ y ∈ xs, sc.names.lookup y = some .cell := fun y hy => of_decide_eq_true (List.all_eq_true.mp h y hy)
theorem cloAt_def {f : Addr} {F : NF} {fr : List Str} {ws : List V} {H : Hp} (e : H f = some (FnO f F)) (ec : H F.c = some (CodeO F.c F.qual)) (C : ClosH F.cl fr ws H) : CloAt f (cloOf F) fr ws H := ⟨e, ec, C⟩
theorem ClosH.same {cl : List (Str × Addr)} {fr : List Str} {ws : List V} {H H' : Hp} (C : ClosH cl fr ws H) (s : Same H H') : ClosH cl fr ws H' := C.ext (ExtN.of s)
def retE : Stmt → Expr
  | .Return (value := some e) .. => e
  | _ => .Constant .none 0 ⟨0, 0, 0, 0⟩
def argE (i : Nat) : Expr → Expr
  | .Call (args := as) .. => as.getD i (.Constant .none 0 ⟨0, 0, 0, 0⟩)
  | _ => .Constant .none 0 ⟨0, 0, 0, 0⟩
def lamA : Expr → Arguments
  | .Lambda (args := a) .. => a
  | _ => ⟨[], [], none, [], [], none, []⟩
def lamB : Expr → Expr
  | .Lambda (body := b) .. => b
  | e => e
def lamS : Expr → Scope
  | .Lambda (scope := s) .. => s
  | _ => ⟨.function, [], false, false, []⟩
/-- a lambda's object -/
def LamC (e : Expr) (F : Clo) : Prop := ∃ qual cl c, F = ⟨"<lambda>", qual, lamA e, .expr (lamB e), lamS e, cl, c⟩
abbrev lamSince : Expr := argE 3 (retE ((defBody (topS 19)).getD 2 (.Pass ⟨0, 0, 0, 0⟩)))
abbrev nmSLam : List Str := ["at", "machine"]
theorem scSLam : NScope nmSLam ["at"] ["machine"] (lamS lamSince) := nscope_by (by decide +kernel)
def spSLam (K : PySem.W.Frag) : List (Option V) → Sp := fun ws vs H Q _ => ∃ (x : Str) (m : Addr) (M : Mach) (q : Nat), ws = [some (.ref m)] ∧ vs = [nV q] ∧ MachK K H m x M ∧ q < M.acc.length ∧ Q (.bl (M.acc.getD q false)) H
theorem acc_at {M : Mach} {q : Nat} (hq : q < M.acc.length) : (M.acc.map V.bl)[q]? = some (.bl (M.acc.getD q false)) := by
  rw [List.getElem?_map, List.getElem?_eq_getElem hq, getD_of (List.getElem?_eq_getElem hq)]
  rfl
section
variable {P : Program} {w : World} {K : PySem.W.Frag} {mg : Str → Option Value} {base : Heap}
theorem ok_slam (T : Tx K mg) {f : Addr} {F : Clo} (hF : LamC lamSince F) : COk P w K mg base 1 f F ["at"] ["machine"] (spSLam K) := by
  obtain ⟨qual, cl, c, rfl⟩ := hF
  refine cok_lam (N := nmSLam) rfl scSLam (fun _ _ _ us hl => match us, hl with | [_], _ => rfl) (fun ws vs H Q E h => ?_) (fun A outer s H vs ws Q E hr hw h => ?_)
  · obtain ⟨x, m, M, q, _, rfl, _⟩ := h
    rfl
  · obtain ⟨x, m, M, q, rfl, rfl, hM, hq, h⟩ := h
    refine ⟨_, pe_ix (ixB K) (pe_fld (pv 1) rfl) (pv 0) (fun _ _ => rfl), ?_⟩
    obtain ⟨dx, a', t, hp, hA, hT⟩ := id hM
    exact ⟨_, rfl, _, _, _, _, _, rfl, hp, T.cl, T.nA, rfl, _, rfl, false, _, _, _, _, rfl, rfl, hA, atI_nat (acc_at hq), h⟩
theorem ok_sstep (T : Tx K mg) {f : Addr} {F : NF} (hF : ∃ name qual cl c, F = NF.of stSince name qual cl c) : COk P w K mg base 1 f (cloOf F) ["at", "letter"] ["letters", "machine"] (spSStep K) := by
  obtain ⟨name, qual, cl, c, rfl⟩ := hF
  refine cok_def (N := nmSStep) scSStep (fun _ _ _ us hl => match us, hl with | [_, _], _ => rfl) (fun ws vs H Q E h => ?_) (fun A outer s H vs ws Q E hr hw h => ?_)
  · obtain ⟨x, m, M, q, a, c, _, rfl, _⟩ := h
    rfl
  · obtain ⟨x, m, M, q, a, c, rfl, rfl, hM, W, L, hq, ha, hc, h⟩ := h
    refine ⟨_, pss_one (ps_ret (pe_ix (ixB K) (pe_ix (ixB K) (pe_fld (pv 3) rfl) (pv 0) (fun _ _ => rfl)) (pe_m1 PySem.F.slot_str_index PySem.F.type_str_index mt_sindex (pv 2) (pv 1)) (fun _ _ => rfl))), ?_⟩
    obtain ⟨dx, a', t, hp, hA, hT⟩ := id hM
    obtain ⟨rs, r, row, h1, h2, h3, h4, h5, h6⟩ := hT.row W.tb hq
    exact ⟨_, rfl, _, _, _, _, _, rfl, hp, T.cl, T.nT, rfl, _, rfl, false, t, _, _, _, rfl, rfl, h1, atI_nat h2, _, rfl, ⟨_, rfl⟩, _, rfl, _, _, a, [], rfl, rfl, L.at hc, false, r, _, _, _, rfl, rfl, h3, atI_nat (by rw [List.getElem?_map, h6 a ha]; rfl), h⟩
def spSince (K : PySem.W.Frag) : Sp := fun vs H Q _ => ∃ (x : Str) (m : Addr) (M : Mach) (q0 : Nat), vs = [.ref m, nV q0] ∧ MachK K H m x M ∧ Wf x.cps.size M ∧ Ltr x ∧ q0 < M.acc.length ∧ M.acc.length < 64 ∧ TabsN (TT K) H ∧
  ∀ H' p M', Ex K H H' → MachK K H' p x M' → Least x.cps.size (accT M q0) M' → M'.acc.length ≤ M.acc.length → Q (.ref p) H'
theorem cal_since (T : Tx K mg) (TB : TBs K mg base) : C8.Cal P w K mg base 6 "since" (spSince K) [] := by
  refine cal_ofT T TB (i := 19) 10 rfl (by decide +kernel) (by decide +kernel) scSince (fun _ _ _ _ _ _ us hl => match us, hl with | [_, _], _ => rfl) (fun vs H Q E h => ?_) (fun c Pt tb hPt f A outer s H vs Q E hr h => ?_)
  · obtain ⟨x, m, M, q0, rfl, _⟩ := h
    rfl
  · obtain ⟨x, m, M, q0, rfl, hM, W, L, hq0, few, hTT, q⟩ := h
    refine ⟨_, pss_cons (ps_set (i := 2) scSince.nd rfl (.inr rfl) (pe_fld (pv 0) rfl))
      (pss_cons (ps_ndefMS (i := 3) (name := "step") rfl tb rfl hPt (by rfl) TT_nm (free_by (sc := C8.fnScope stSince) (outer := defScope (topS 19)) (by decide +kernel)) rfl rfl rfl scSince.nd rfl (.inl rfl) (.inr rfl))
      (pss_one (ps_ret (pe_callT2 (xs := ["letters", "machine"]) (cal_explored T kNat) hr (by decide) (by rfl) scSince.nd rfl [2, 0] rfl (fun y hy => ⟨cells_by (sc := defScope (topS 19)) (by decide +kernel) y hy, rfl⟩)
        (pa_cons (pv 2) (pa_cons (pv 1) (pa_cons (pv 3) (pa_cons (pe_lambda tb rfl hPt (by rfl) TT_nm rfl (free_by (sc := lamS lamSince) (outer := defScope (topS 19)) (by decide +kernel))) pa_nil)))))))), ?_⟩
    obtain ⟨dx, a', t, hp, hA, hT⟩ := id hM
    refine ⟨_, rfl, _, _, _, _, _, rfl, hp, T.cl, T.nL, rfl, hTT, fun fS c1 H1 e1 n1 t1 nf1 ef1 ec1 => ⟨fun i hi => ?_, _, rfl, _, rfl, _, rfl, t1, fun fA c2 H2 e2 n2 t2 nf2 ef2 ec2 => fun ok cs hcs C => ?_⟩⟩
    · rcases List.mem_cons.mp hi with rfl | hi
      · exact ⟨_, rfl⟩
      · rw [List.mem_singleton.mp hi]
        exact ⟨_, rfl⟩
    have x1 : Ex K H H1 := ⟨e1, n1, fun _ => t1⟩
    have x2 : Ex K H1 H2 := ⟨e2, n2, fun _ => t2⟩
    have tr := trk_ext C.free
    have hM2 : MachK K (trk cs H2) m x M := (hM.vw (x1.trans x2).vw).same tr
    have inC : ∀ y ∈ (["letters", "machine"] : List Str), ∃ p ∈ cs, p.1 = y := fun y hy => by
      have : y ∈ cs.map (·.1) := by rw [hcs]; exact hy
      obtain ⟨p, hp, e⟩ := List.mem_map.mp this
      exact ⟨p, hp, e⟩
    have cS := cloAt_def (fr := ["letters", "machine"]) (ws := [.str x, .ref m]) (tr _ _ (e2 _ _ ef1 fnO_ne)) (tr _ _ (e2 _ _ ec1 codeO_ne)) (
      closH_of (js := [2, 0]) C ok inC scSStep.free (fun y hy => PySem.mem_of_lookup (scSStep.frk y hy)) (free_by (sc := C8.fnScope stSince) (outer := defScope (topS 19)) (by decide +kernel)) rfl rfl)
    have cA : CloAt fA _ ["machine"] [.ref m] (trk cs H2) := ⟨tr _ _ ef2, tr _ _ ec2,
      closH_of (js := [0]) C ok (fun y hy => inC y (List.mem_cons_of_mem _ hy)) scSLam.free (fun y hy => PySem.mem_of_lookup (scSLam.frk y hy)) (free_by (sc := lamS lamSince) (outer := defScope (topS 19)) (by decide +kernel)) rfl rfl⟩
    have hk : x.cps.size ≤ 1000 := Nat.le_trans L.few (by decide)
    refine ⟨x, nV q0, fS, fA, q0, nxt M.tab, fun s => M.acc.getD s false, M.acc.length, rfl, rfl, hk, few, fun l nd hl => nodup_lt_len nd fun s hs => reach_lt W hq0 (hl s hs),
      ⟨_, _, _, _, _, (ok_sstep T ⟨_, _, _, _, rfl⟩).mono (by decide), cS, fun H3 vs Q3 s3 r => ?_⟩, ⟨_, _, _, _, _, (ok_slam T ⟨_, _, _, rfl⟩).mono (by decide), cA, fun H3 vs Q3 s3 r => ?_⟩, fun H' p M' s' _ hM' LM' hle => ?_⟩
    · obtain ⟨v, s4, a, c4, rfl, hv, hre, ha, hc, q3⟩ := r
      have hv : v = nV s4 := hv
      subst hv
      have cl3 := cS.cells.same s3
      exact ⟨x, m, M, s4, a, c4, rfl, rfl, (hM2.same s3).vw (vw_hid cl3), W, L, reach_lt W hq0 hre, ha, hc, fun _ => q3 _ _ (same_bak cl3 (Same.refl _)) rfl⟩
    · obtain ⟨v, s4, rfl, hv, hre, q3⟩ := r
      have hv : v = nV s4 := hv
      subst hv
      have cl3 := cA.cells.same s3
      exact ⟨x, m, M, s4, rfl, rfl, (hM2.same s3).vw (vw_hid cl3), reach_lt W hq0 hre, fun _ => q3 _ (same_bak cl3 (Same.refl _))⟩
    · exact q _ p M' ((x1.trans x2).trans (ex_untrk C.free (.of s'))) (hM'.vw (vw_untrk (ExtN.of s'))) LM' hle
end
end K46
set_option Elab.async false
set_option linter.all false
set_option maxRecDepth 100000
set_option maxHeartbeats 1600000
namespace K46
open PySem PySem.Spec PyProof.Rows L2 NdefX LamX
/-! ### a closure without cells -/
def CloP0 (P : Program) (w : World) (K : PySem.W.Frag) (mg : Str → Option Value) (base : Heap) (k : Nat) (f : Addr) (H0 : Hp) (R : List V → Hp → VK → Prop) : Prop := ∃ (F : Clo) (ps : List Str) (sp : List (Option V) → Sp),
  COk P w K mg base k f F ps [] sp ∧ F.cl = [] ∧ H0 f = some (CloO f F) ∧ H0 F.c = some (CodeO F.c F.qual) ∧ ∀ H vs Q, R vs H Q → sp [] vs H Q E0
theorem CloP0.vw {P : Program} {w : World} {K : PySem.W.Frag} {mg : Str → Option Value} {base : Heap} {k : Nat} {f : Addr} {H0 J : Hp} {R : List V → Hp → VK → Prop} (c : CloP0 P w K mg base k f H0 R) (s : Vw H0 J) : CloP0 P w K mg base k f J R := by
  obtain ⟨F, ps, sp, h1, h2, h3, h4, h5⟩ := c
  exact ⟨F, ps, sp, h1, h2, s _ _ h3 (fun o z => by unfold CloO at z; cases z) (fun ps => cloO_ne ps), s _ _ h4 (fun o z => by unfold CodeO at z; cases z) (fun ps => codeO_ne ps), h5⟩
theorem CloP0.same {P : Program} {w : World} {K : PySem.W.Frag} {mg : Str → Option Value} {base : Heap} {k : Nat} {f : Addr} {H0 J : Hp} {R : List V → Hp → VK → Prop} (c : CloP0 P w K mg base k f H0 R) (s : Same H0 J) : CloP0 P w K mg base k f J R := c.vw fun b u e _ _ => s b u e
theorem not_inCl {b : Addr} : ¬ inCl [] b := fun ⟨y, h⟩ => by cases h
theorem CloP0.to {P : Program} {w : World} {K : PySem.W.Frag} {mg : Str → Option Value} {base : Heap} {k : Nat} {f : Addr} {H0 : Hp} {R : List V → Hp → VK → Prop} (c : CloP0 P w K mg base k f H0 R) : CloP P w K mg base k f H0 R := by
  obtain ⟨F, ps, sp, h1, h2, h3, h4, h5⟩ := c
  refine ⟨F, ps, [], [], sp, h1, ⟨h3, h4, ?_⟩, fun H vs Q _ r => ?_⟩
  · rw [h2]
    exact ⟨rfl, fun y c e => (by cases e), fun x y c e => (by cases e), fun i y v e => by simp at e⟩
  · rw [h2]
    have e1 : hidC [] H = H := funext fun b => hidC_out not_inCl
    have e2 : ∀ H2, bakC [] H H2 = H2 := fun H2 => funext fun b => bakC_out not_inCl
    rw [e1]
    have z := h5 H vs (fun v H2 => (∀ b, inCl [] b → H2 b = none) → Q v (bakC [] H H2)) (by
      have e3 : (fun v H2 => (∀ b, inCl [] b → H2 b = none) → Q v (bakC [] H H2)) = Q := by
        funext v H2
        rw [e2]
        exact propext ⟨fun z => z fun b h => absurd h not_inCl, fun z _ => z⟩
      rw [e3]
      exact r)
    exact z
def RJudge : List V → Hp → VK → Prop := fun vs H Q => ∃ a b : Bool, vs = [.bl a, .bl b] ∧ Q (.bl (a != b)) H
/-! ### paired -/
abbrev nmPaired : List Str := ["first", "second", "judge", "letters", "step", "accepts"]
theorem scPaired : FnScope nmPaired ["first", "second", "judge"] (defScope (topS 18)) := C8.fnScope_by (by decide +kernel)
abbrev stPStep : Stmt := (defBody (topS 18)).getD 1 (.Pass ⟨0, 0, 0, 0⟩)
abbrev stPAcc : Stmt := (defBody (topS 18)).getD 2 (.Pass ⟨0, 0, 0, 0⟩)
abbrev nmPStep : List Str := ["pair", "letter", "first", "letters", "second", "at"]
theorem scPStep : NScope nmPStep ["pair", "letter"] ["first", "letters", "second"] (C8.fnScope stPStep) := nscope_by (by decide +kernel)
abbrev nmPAcc : List Str := ["pair", "first", "judge", "second"]
theorem scPAcc : NScope nmPAcc ["pair"] ["first", "judge", "second"] (C8.fnScope stPAcc) := nscope_by (by decide +kernel)
def stpP (M1 M2 : Mach) (s : Nat × Nat) (a : Nat) : Nat × Nat := (nxt M1.tab s.1 a, nxt M2.tab s.2 a)
theorem runP (M1 M2 : Mach) : ∀ (v : List Nat) (s : Nat × Nat), runS (stpP M1 M2) s v = (runT M1.tab s.1 v, runT M2.tab s.2 v)
  | [], _ => rfl
  | a :: v, s => by
    show runS (stpP M1 M2) (stpP M1 M2 s a) v = _
    rw [runP M1 M2 v]
    rfl
theorem reachP {k : Nat} {M1 M2 : Mach} (W1 : Wf k M1) (W2 : Wf k M2) {s : Nat × Nat} (r : ReS k (stpP M1 M2) (0, 0) s) : s.1 < M1.acc.length ∧ s.2 < M2.acc.length := by
  obtain ⟨v, ok, rfl⟩ := r
  rw [runP]
  exact ⟨W1.tb.run W1.pos ok, W2.tb.run W2.pos ok⟩
theorem pairs_len {l : List (Nat × Nat)} {n m : Nat} (nd : l.Nodup) (h : ∀ s ∈ l, s.1 < n ∧ s.2 < m) : l.length ≤ n * m := by
  have nd2 : (l.map fun s => s.1 * m + s.2).Nodup := by
    have : ∀ (l : List (Nat × Nat)), l.Nodup → (∀ s ∈ l, s.1 < n ∧ s.2 < m) → (l.map fun s => s.1 * m + s.2).Nodup := by
      intro l
      induction l with
      | nil => exact fun _ _ => List.nodup_nil
      | cons a l ih =>
        intro nd h
        obtain ⟨n1, n2⟩ := List.nodup_cons.mp nd
        rw [List.map_cons, List.nodup_cons]
        refine ⟨fun z => ?_, ih n2 fun s hs => h s (List.mem_cons_of_mem _ hs)⟩
        obtain ⟨b, hb, e⟩ := List.mem_map.mp z
        obtain ⟨_, a2⟩ := h a List.mem_cons_self
        obtain ⟨_, b2⟩ := h b (List.mem_cons_of_mem _ hb)
        have m0 : 0 < m := by omega
        have e1 : (b.1 * m + b.2) / m = b.1 := by rw [Nat.mul_comm, Nat.mul_add_div m0, Nat.div_eq_of_lt b2, Nat.add_zero]
        have e2 : (a.1 * m + a.2) / m = a.1 := by rw [Nat.mul_comm, Nat.mul_add_div m0, Nat.div_eq_of_lt a2, Nat.add_zero]
        have e3 : b.1 = a.1 := by rw [← e1, ← e2, e]
        have e4 : b.2 = a.2 := by rw [e3] at e; omega
        exact n1 (by rw [show a = b from Prod.ext e3.symm e4.symm]; exact hb)
    exact this l nd h
  have := nodup_lt_len nd2 (n := n * m) fun q hq => by
    obtain ⟨s, hs, rfl⟩ := List.mem_map.mp hq
    obtain ⟨h1, h2⟩ := h s hs
    have : (s.1 + 1) * m ≤ n * m := Nat.mul_le_mul_right m h1
    rw [Nat.add_mul, Nat.one_mul] at this
    omega
  rwa [List.length_map] at this
def spPStep (K : PySem.W.Frag) : List (Option V) → Sp := fun ws vs H Q _ => ∃ (x : Str) (m1 m2 b : Addr) (M1 M2 : Mach) (s : Nat × Nat) (a c : Nat), ws = [some (.ref m1), some (.str x), some (.ref m2)] ∧ vs = [.ref b, .str ⟨#[c]⟩] ∧ MachK K H m1 x M1 ∧ MachK K H m2 x M2 ∧ Wf x.cps.size M1 ∧ Wf x.cps.size M2 ∧ Ltr x ∧
  H b = some (.tup [nV s.1, nV s.2]) ∧ s.1 < M1.acc.length ∧ s.2 < M2.acc.length ∧ a < x.cps.size ∧ x.cps.toList[a]? = some c ∧ ∀ p, H p = none → Q (.ref p) (upd H p (.tup [nV (nxt M1.tab s.1 a), nV (nxt M2.tab s.2 a)]))
section
variable {P : Program} {w : World} {K : PySem.W.Frag} {mg : Str → Option Value} {base : Heap}
def spPAcc (P : Program) (w : World) (K : PySem.W.Frag) (mg : Str → Option Value) (base : Heap) (fJ : Addr) : List (Option V) → Sp := fun ws vs H Q _ => ∃ (x : Str) (m1 m2 b : Addr) (M1 M2 : Mach) (s : Nat × Nat), ws = [some (.ref m1), some (.ref fJ), some (.ref m2)] ∧ vs = [.ref b] ∧ MachK K H m1 x M1 ∧ MachK K H m2 x M2 ∧
  H b = some (.tup [nV s.1, nV s.2]) ∧ s.1 < M1.acc.length ∧ s.2 < M2.acc.length ∧ CloP0 P w K mg base 1 fJ H RJudge ∧ Q (.bl (M1.acc.getD s.1 false != M2.acc.getD s.2 false)) H
theorem ok_pstep (T : Tx K mg) {f : Addr} {F : NF} (hF : ∃ name qual cl c, F = NF.of stPStep name qual cl c) : COk P w K mg base 1 f (cloOf F) ["pair", "letter"] ["first", "letters", "second"] (spPStep K) := by
  obtain ⟨name, qual, cl, c, rfl⟩ := hF
  refine cok_def (N := nmPStep) scPStep (fun _ _ _ us hl => match us, hl with | [_, _], _ => rfl) (fun ws vs H Q E h => ?_) (fun A outer s H vs ws Q E hr hw h => ?_)
  · obtain ⟨x, m1, m2, b, M1, M2, s, a, c, _, rfl, _⟩ := h
    rfl
  · obtain ⟨x, m1, m2, b, M1, M2, st, a, c, rfl, rfl, hM1, hM2, W1, W2, L, hb, hs1, hs2, ha, hc, h⟩ := h
    refine ⟨_, pss_cons (ps_set (i := 5) scPStep.nd rfl (.inl rfl) (pe_m1 PySem.F.slot_str_index PySem.F.type_str_index mt_sindex (pv 3) (pv 1)))
      (pss_one (ps_ret (pe_tup (pa_cons (pe_ix (ixB K) (pe_ix (ixB K) (pe_fld (pv 2) rfl) (pe_ix (ixB K) (pv 0) pe_int (fun _ _ => rfl)) (fun _ _ => rfl)) (pv 5) (fun _ _ => rfl)) (pa_cons (pe_ix (ixB K) (pe_ix (ixB K) (pe_fld (pv 4) rfl) (pe_ix (ixB K) (pv 0) pe_int (fun _ _ => rfl)) (fun _ _ => rfl)) (pv 5) (fun _ _ => rfl)) pa_nil))))), ?_⟩
    obtain ⟨d1, a1, t1, hp1, hA1, hT1⟩ := id hM1
    obtain ⟨d2, a2, t2, hp2, hA2, hT2⟩ := id hM2
    obtain ⟨rs1, r1, row1, h11, h12, h13, h14, h15, h16⟩ := hT1.row W1.tb hs1
    obtain ⟨rs2, r2, row2, h21, h22, h23, h24, h25, h26⟩ := hT2.row W2.tb hs2
    refine ⟨_, rfl, ⟨_, rfl⟩, _, rfl, _, _, a, [], rfl, rfl, L.at hc, ?_⟩
    refine ⟨_, rfl, _, _, _, _, _, rfl, hp1, T.cl, T.nT, rfl, _, rfl, false, b, _, 0, nV st.1, rfl, rfl, .tup hb, rfl, false, t1, _, _, _, rfl, rfl, h11, atI_nat h12, _, rfl, false, r1, _, _, _, rfl, rfl, h13, atI_nat (by rw [List.getElem?_map, h16 a ha]; rfl), ?_⟩
    exact ⟨_, rfl, _, _, _, _, _, rfl, hp2, T.cl, T.nT, rfl, _, rfl, false, b, _, 1, nV st.2, rfl, rfl, .tup hb, rfl, false, t2, _, _, _, rfl, rfl, h21, atI_nat h22, _, rfl, false, r2, _, _, _, rfl, rfl, h23, atI_nat (by rw [List.getElem?_map, h26 a ha]; rfl), by show 2 ≤ sizeLine; decide, h⟩
theorem ok_pacc (T : Tx K mg) {f : Addr} {F : NF} (hF : ∃ name qual cl c, F = NF.of stPAcc name qual cl c) (fJ : Addr) : COk P w K mg base 2 f (cloOf F) ["pair"] ["first", "judge", "second"] (spPAcc P w K mg base fJ) := by
  obtain ⟨name, qual, cl, c, rfl⟩ := hF
  refine cok_def (N := nmPAcc) scPAcc (fun _ _ _ us hl => match us, hl with | [_], _ => rfl) (fun ws vs H Q E h => ?_) (fun A outer s H vs ws Q E hr hw h => ?_)
  · obtain ⟨x, m1, m2, b, M1, M2, s, _, rfl, _⟩ := h
    rfl
  · obtain ⟨x, m1, m2, b, M1, M2, st, rfl, rfl, hM1, hM2, hb, hs1, hs2, hJ, h⟩ := h
    refine ⟨_, pss_one (ps_ret (pe_callP (i := 2) hJ.to hr rfl (.inr (.inr rfl)) (pa_cons (pe_ix (ixB K) (pe_fld (pv 1) rfl) (pe_ix (ixB K) (pv 0) pe_int (fun _ _ => rfl)) (fun _ _ => rfl)) (pa_cons (pe_ix (ixB K) (pe_fld (pv 3) rfl) (pe_ix (ixB K) (pv 0) pe_int (fun _ _ => rfl)) (fun _ _ => rfl)) pa_nil)))), ?_⟩
    obtain ⟨d1, a1, t1, hp1, hA1, hT1⟩ := id hM1
    obtain ⟨d2, a2, t2, hp2, hA2, hT2⟩ := id hM2
    refine ⟨rfl, Same.refl H, ?_⟩
    refine ⟨_, rfl, _, _, _, _, _, rfl, hp1, T.cl, T.nA, rfl, _, rfl, false, b, _, 0, nV st.1, rfl, rfl, .tup hb, rfl, false, a1, _, _, _, rfl, rfl, hA1, atI_nat (acc_at hs1), ?_⟩
    exact ⟨_, rfl, _, _, _, _, _, rfl, hp2, T.cl, T.nA, rfl, _, rfl, false, b, _, 1, nV st.2, rfl, rfl, .tup hb, rfl, false, a2, _, _, _, rfl, rfl, hA2, atI_nat (acc_at hs2), Same.refl H, _, _, rfl, h⟩
def spPaired (P : Program) (w : World) (K : PySem.W.Frag) (mg : Str → Option Value) (base : Heap) : Sp := fun vs H Q _ => ∃ (x : Str) (m1 m2 fJ : Addr) (M1 M2 : Mach), vs = [.ref m1, .ref m2, .ref fJ] ∧ MachK K H m1 x M1 ∧ MachK K H m2 x M2 ∧ Wf x.cps.size M1 ∧ Wf x.cps.size M2 ∧ Ltr x ∧ M1.acc.length * M2.acc.length < 64 ∧ TabsN (TT K) H ∧ CloP0 P w K mg base 1 fJ H RJudge ∧
  ∀ H' p M', Ex K H H' → MachK K H' p x M' → Least x.cps.size (fun u => accT M1 0 u != accT M2 0 u) M' → M'.acc.length ≤ M1.acc.length * M2.acc.length → Q (.ref p) H'
theorem cal_paired (T : Tx K mg) (TB : TBs K mg base) : C8.Cal P w K mg base 6 "paired" (spPaired P w K mg base) [] := by
  refine cal_ofT T TB (i := 18) 9 rfl (by decide +kernel) (by decide +kernel) scPaired (fun _ _ _ _ _ _ us hl => match us, hl with | [_, _, _], _ => rfl) (fun vs H Q E h => ?_) (fun c Pt tb hPt f A outer s H vs Q E hr h => ?_)
  · obtain ⟨x, m1, m2, fJ, M1, M2, rfl, _⟩ := h
    rfl
  · obtain ⟨x, m1, m2, fJ, M1, M2, rfl, hM1, hM2, W1, W2, L, few, hTT, hJ, q⟩ := h
    refine ⟨_, pss_cons (ps_set (i := 3) scPaired.nd rfl (.inr rfl) (pe_fld (pv 0) rfl))
      (pss_cons (ps_ndefMS (i := 4) (name := "step") rfl tb rfl hPt (by rfl) TT_nm (free_by (sc := C8.fnScope stPStep) (outer := defScope (topS 18)) (by decide +kernel)) rfl rfl rfl scPaired.nd rfl (.inl rfl) (.inr rfl))
      (pss_cons (ps_ndefMS (i := 5) (name := "accepts") rfl tb rfl hPt (by rfl) TT_nm (free_by (sc := C8.fnScope stPAcc) (outer := defScope (topS 18)) (by decide +kernel)) rfl rfl rfl scPaired.nd rfl (.inl rfl) (.inr rfl))
      (pss_one (ps_ret (pe_callT2 (xs := ["letters", "first", "judge", "second"]) (cal_explored T kPair) hr (by decide) (by rfl) scPaired.nd rfl [3, 0, 2, 1] rfl (fun y hy => ⟨cells_by (sc := defScope (topS 18)) (by decide +kernel) y hy, rfl⟩)
        (pa_cons (pv 3) (pa_cons (pe_tup (pa_cons pe_int (pa_cons pe_int pa_nil))) (pa_cons (pv 4) (pa_cons (pv 5) pa_nil))))))))), ?_⟩
    obtain ⟨d1, a1, t1', hp1, hA1, hT1⟩ := id hM1
    refine ⟨_, rfl, _, _, _, _, _, rfl, hp1, T.cl, T.nL, rfl, hTT, fun fS c1 H1 e1 n1 t1 nf1 ef1 ec1 => ⟨t1, fun fA c2 H2 e2 n2 t2 nf2 ef2 ec2 => ⟨fun i hi => ?_, _, rfl, by show 2 ≤ sizeLine; decide, fun p0 hp0 => ⟨_, rfl, _, rfl, fun ok cs hcs C => ?_⟩⟩⟩⟩
    · have : ∀ i ∈ [3, 0, 2, 1], ∃ v, ([some (.ref m1), some (.ref m2), some (.ref fJ), some (.str x), some (.ref fS), some (.ref fA)] : List (Option V))[i]? = some (some v) := by
        intro i hi
        simp only [List.mem_cons, List.not_mem_nil, or_false] at hi
        rcases hi with rfl | rfl | rfl | rfl
        · exact ⟨_, rfl⟩
        · exact ⟨_, rfl⟩
        · exact ⟨_, rfl⟩
        · exact ⟨_, rfl⟩
      exact this i hi
    have x1 : Ex K H H1 := ⟨e1, n1, fun _ => t1⟩
    have x2 : Ex K H1 H2 := ⟨e2, n2, fun _ => t2⟩
    have s3 : Same H2 (upd H2 p0 (.tup [.int 0, .int 0])) := same_upd hp0
    have eP : upd H2 p0 (.tup [.int 0, .int 0]) p0 = some (.tup [.int 0, .int 0]) := upd_same
    generalize upd H2 p0 (.tup [.int 0, .int 0]) = H3 at s3 eP C ⊢
    have x3 : Ex K H H3 := (x1.trans x2).trans (.of s3)
    have tr := trk_ext C.free
    have hN1 : MachK K (trk cs H3) m1 x M1 := (hM1.vw x3.vw).same tr
    have hN2 : MachK K (trk cs H3) m2 x M2 := (hM2.vw x3.vw).same tr
    have hJ3 := (hJ.vw x3.vw).same tr
    have inC : ∀ y ∈ (["letters", "first", "judge", "second"] : List Str), ∃ p ∈ cs, p.1 = y := fun y hy => by
      have : y ∈ cs.map (·.1) := by rw [hcs]; exact hy
      obtain ⟨p, hp, e⟩ := List.mem_map.mp this
      exact ⟨p, hp, e⟩
    have cS := cloAt_def (fr := ["first", "letters", "second"]) (ws := [.ref m1, .str x, .ref m2]) (tr _ _ (s3 _ _ (e2 _ _ ef1 fnO_ne))) (tr _ _ (s3 _ _ (e2 _ _ ec1 codeO_ne))) (
      closH_of (js := [0, 3, 1]) C ok (fun y hy => inC y (by revert hy; revert y; decide)) scPStep.free (fun y hy => PySem.mem_of_lookup (scPStep.frk y hy)) (free_by (sc := C8.fnScope stPStep) (outer := defScope (topS 18)) (by decide +kernel)) rfl rfl)
    have cA := cloAt_def (fr := ["first", "judge", "second"]) (ws := [.ref m1, .ref fJ, .ref m2]) (tr _ _ (s3 _ _ ef2)) (tr _ _ (s3 _ _ ec2)) (
      closH_of (js := [0, 2, 1]) C ok (fun y hy => inC y (by revert hy; revert y; decide)) scPAcc.free (fun y hy => PySem.mem_of_lookup (scPAcc.frk y hy)) (free_by (sc := C8.fnScope stPAcc) (outer := defScope (topS 18)) (by decide +kernel)) rfl rfl)
    have hk : x.cps.size ≤ 1000 := Nat.le_trans L.few (by decide)
    refine ⟨x, .ref p0, fS, fA, (0, 0), stpP M1 M2, fun s => M1.acc.getD s.1 false != M2.acc.getD s.2 false, M1.acc.length * M2.acc.length, rfl, ⟨p0, rfl, tr _ _ eP⟩, hk, few, fun l nd hl => pairs_len nd fun s hs => reachP W1 W2 (hl s hs),
      ⟨_, _, _, _, _, (ok_pstep T ⟨_, _, _, _, rfl⟩).mono (by decide), cS, fun H4 vs Q4 s4 r => ?_⟩, ⟨_, _, _, _, _, (ok_pacc T ⟨_, _, _, _, rfl⟩ fJ).mono (by decide), cA, fun H4 vs Q4 s4 r => ?_⟩, fun H' p M' s' _ hM' LM' hle => ?_⟩
    · obtain ⟨v, st, a, c4, rfl, ⟨b, rfl, hb⟩, hre, ha, hc, q3⟩ := r
      have cl3 := cS.cells.same s4
      obtain ⟨r1, r2⟩ := reachP W1 W2 hre
      exact ⟨x, m1, m2, b, M1, M2, st, a, c4, rfl, rfl, (hN1.same s4).vw (vw_hid cl3), (hN2.same s4).vw (vw_hid cl3), W1, W2, L, cl3.hid hb (fun _ z => by cases z), r1, r2, ha, hc, fun p hp h0 => q3 _ _ (same_bak cl3 (same_upd hp)) ⟨p, rfl, bak_get h0 upd_same⟩⟩
    · obtain ⟨v, st, rfl, ⟨b, rfl, hb⟩, hre, q3⟩ := r
      have cl3 := cA.cells.same s4
      obtain ⟨r1, r2⟩ := reachP W1 W2 hre
      exact ⟨x, m1, m2, b, M1, M2, st, rfl, rfl, (hN1.same s4).vw (vw_hid cl3), (hN2.same s4).vw (vw_hid cl3), cl3.hid hb (fun _ z => by cases z), r1, r2, (hJ3.same s4).vw (vw_hid cl3), fun _ => q3 _ (same_bak cl3 (Same.refl _))⟩
    · refine q _ p M' (x3.trans (ex_untrk C.free (.of s'))) (hM'.vw (vw_untrk (ExtN.of s'))) ⟨LM'.wf, fun v ok => (LM'.lang v ok).trans ?_, LM'.red, LM'.rea⟩ hle
      show (M1.acc.getD (runS (stpP M1 M2) (0, 0) v).1 false != M2.acc.getD (runS (stpP M1 M2) (0, 0) v).2 false) = _
      rw [runP]
      rfl
end
end K46
set_option Elab.async false
set_option linter.all false
set_option maxRecDepth 100000
set_option maxHeartbeats 1600000
namespace K46
open PySem PySem.Spec PyProof.Rows L2
/-! ### the order of the words -/
def lx : List Nat → List Nat → Prop
  | a :: u, b :: v => a < b ∨ (a = b ∧ lx u v)
  | _, _ => False
def slx (u v : List Nat) : Prop := u.length < v.length ∨ (u.length = v.length ∧ lx u v)
theorem lx_irr : ∀ u, ¬ lx u u
  | [], h => h
  | a :: u, h => by
    rcases h with h | ⟨_, h⟩
    · exact Nat.lt_irrefl _ h
    · exact lx_irr u h
theorem lx_trans : ∀ {u v w : List Nat}, lx u v → lx v w → lx u w
  | a :: u, b :: v, c :: w, h1, h2 => by
    rcases h1 with h1 | ⟨e1, h1⟩
    · rcases h2 with h2 | ⟨e2, _⟩
      · exact .inl (Nat.lt_trans h1 h2)
      · exact .inl (by omega)
    · rcases h2 with h2 | ⟨e2, h2⟩
      · exact .inl (by omega)
      · exact .inr ⟨e1.trans e2, lx_trans h1 h2⟩
  | [], _, _, h, _ => h.elim
  | _ :: _, [], _, h, _ => h.elim
  | _ :: _, _ :: _, [], _, h => h.elim
theorem lx_tot : ∀ {u v : List Nat}, u.length = v.length → lx u v ∨ u = v ∨ lx v u
  | [], [], _ => .inr (.inl rfl)
  | a :: u, b :: v, h => by
    have h' : u.length = v.length := by simpa using h
    rcases Nat.lt_trichotomy a b with z | z | z
    · exact .inl (.inl z)
    · rcases lx_tot h' with y | y | y
      · exact .inl (.inr ⟨z, y⟩)
      · exact .inr (.inl (by rw [z, y]))
      · exact .inr (.inr (.inr ⟨z.symm, y⟩))
    · exact .inr (.inr (.inl z))
theorem lx_snoc : ∀ {u v : List Nat} {a b : Nat}, u.length = v.length → (lx (u ++ [a]) (v ++ [b]) ↔ lx u v ∨ (u = v ∧ a < b))
  | [], [], a, b, _ => by
    constructor
    · rintro (h | ⟨_, h⟩)
      · exact .inr ⟨rfl, h⟩
      · exact h.elim
    · rintro (h | ⟨_, h⟩)
      · exact h.elim
      · exact .inl h
  | c :: u, d :: v, a, b, h => by
    have h' : u.length = v.length := by simpa using h
    have ih := lx_snoc (a := a) (b := b) h'
    constructor
    · rintro (h | ⟨e, h⟩)
      · exact .inl (.inl h)
      · rcases ih.mp h with z | ⟨z1, z2⟩
        · exact .inl (.inr ⟨e, z⟩)
        · exact .inr ⟨by rw [e, z1], z2⟩
    · rintro ((h | ⟨e, h⟩) | ⟨e, h⟩)
      · exact .inl h
      · exact .inr ⟨e, ih.mpr (.inl h)⟩
      · injection e with e1 e2
        exact .inr ⟨e1, ih.mpr (.inr ⟨e2, h⟩)⟩
theorem slx_irr (u : List Nat) : ¬ slx u u := fun h => h.elim (Nat.lt_irrefl _) fun h => lx_irr u h.2
theorem slx_trans {u v w : List Nat} (h1 : slx u v) (h2 : slx v w) : slx u w := by
  rcases h1 with h1 | ⟨e1, h1⟩
  · rcases h2 with h2 | ⟨e2, _⟩
    · exact .inl (Nat.lt_trans h1 h2)
    · exact .inl (by omega)
  · rcases h2 with h2 | ⟨e2, h2⟩
    · exact .inl (by omega)
    · exact .inr ⟨e1.trans e2, lx_trans h1 h2⟩
theorem slx_tot (u v : List Nat) : slx u v ∨ u = v ∨ slx v u := by
  rcases Nat.lt_trichotomy u.length v.length with z | z | z
  · exact .inl (.inl z)
  · rcases lx_tot z with y | y | y
    · exact .inl (.inr ⟨z, y⟩)
    · exact .inr (.inl y)
    · exact .inr (.inr (.inr ⟨z.symm, y⟩))
  · exact .inr (.inr (.inl z))
theorem slx_snoc {u v : List Nat} {a b : Nat} : slx (u ++ [a]) (v ++ [b]) ↔ slx u v ∨ (u = v ∧ a < b) := by
  unfold slx
  rw [List.length_append, List.length_append, List.length_singleton, List.length_singleton]
  constructor
  · rintro (h | ⟨e, h⟩)
    · exact .inl (.inl (by omega))
    · have e' : u.length = v.length := by omega
      rcases (lx_snoc e').mp h with z | z
      · exact .inl (.inr ⟨e', z⟩)
      · exact .inr z
  · rintro ((h | ⟨e, h⟩) | ⟨e, h⟩)
    · exact .inl (by omega)
    · exact .inr ⟨by omega, (lx_snoc e).mpr (.inl h)⟩
    · exact .inr ⟨by rw [e], (lx_snoc (by rw [e])).mpr (.inr ⟨e, h⟩)⟩
theorem slx_grow (u : List Nat) (a : Nat) : slx u (u ++ [a]) := .inl (by rw [List.length_append, List.length_singleton]; omega)
/-- not above -/
def sle (u v : List Nat) : Prop := u = v ∨ slx u v
theorem sle_lt {u v w : List Nat} (h : sle u v) (h2 : slx v w) : slx u w := by
  rcases h with rfl | h
  · exact h2
  · exact slx_trans h h2
theorem lt_sle {u v w : List Nat} (h : slx u v) (h2 : sle v w) : slx u w := by
  rcases h2 with rfl | h2
  · exact h
  · exact slx_trans h h2
theorem sle_trans {u v w : List Nat} (h : sle u v) (h2 : sle v w) : sle u w := by
  rcases h with rfl | h
  · exact h2
  · exact .inr (lt_sle h h2)
theorem sle_not {u v : List Nat} : sle u v ↔ ¬ slx v u := by
  constructor
  · rintro (rfl | h) z
    · exact slx_irr _ z
    · exact slx_irr _ (slx_trans h z)
  · intro h
    rcases slx_tot u v with z | z | z
    · exact .inr z
    · exact .inl z
    · exact absurd z h
theorem sle_snoc {u v : List Nat} (a : Nat) (h : sle u v) : sle (u ++ [a]) (v ++ [a]) := by
  rcases h with rfl | h
  · exact .inl rfl
  · exact .inr (slx_snoc.mpr (.inl h))
/-! ### the search by words -/
section
variable {S : Type} [DecidableEq S]
/-- place (i, b) is before (at, a) -/
def bef (i b at_ a : Nat) : Prop := i < at_ ∨ (i = at_ ∧ b < a)
structure Bfs (k : Nat) (stp : S → Nat → S) (s0 : S) (l : List S) (tx : List (List Nat)) (at_ a : Nat) : Prop where
  len : tx.length = l.length
  nd : l.Nodup
  h0 : l[0]? = some s0
  t0 : tx[0]? = some []
  run : ∀ (i : Nat) s u, l[i]? = some s → tx[i]? = some u → okW k u ∧ runS stp s0 u = s
  srt : ∀ (i j : Nat) u v, i < j → tx[i]? = some u → tx[j]? = some v → slx u v
  cov : ∀ (i b : Nat) s u, bef i b at_ a → b < k → l[i]? = some s → tx[i]? = some u → ∃ (j : Nat) (v : List Nat), l[j]? = some (stp s b) ∧ tx[j]? = some v ∧ sle v (u ++ [b])
  par : ∀ (j : Nat) v, 0 < j → tx[j]? = some v → ∃ (i b : Nat) (u : List Nat), bef i b at_ a ∧ b < k ∧ tx[i]? = some u ∧ v = u ++ [b]
  lst : ∀ (j : Nat) s v, l[j]? = some s → tx[j]? = some v → ∀ u, okW k u → runS stp s0 u = s → sle v u
variable {k : Nat} {stp : S → Nat → S} {s0 : S} {l : List S} {tx : List (List Nat)} {at_ a : Nat}
theorem okW.snoc {k : Nat} {u : List Nat} {b : Nat} (h : okW k u) (hb : b < k) : okW k (u ++ [b]) := fun c hc => by
  rcases List.mem_append.mp hc with z | z
  · exact h c z
  · rw [List.mem_singleton.mp z]
    exact hb
theorem okW.of_snoc {k : Nat} {u : List Nat} {b : Nat} (h : okW k (u ++ [b])) : okW k u ∧ b < k := ⟨fun c hc => h c (List.mem_append_left _ hc), h b (List.mem_append_right _ (List.mem_singleton.mpr rfl))⟩
theorem runS_snoc (stp : S → Nat → S) (s0 : S) (u : List Nat) (b : Nat) : runS stp s0 (u ++ [b]) = stp (runS stp s0 u) b := by
  unfold runS
  rw [List.foldl_append]
  rfl
theorem sle_nil (u : List Nat) : sle [] u := by
  cases u with
  | nil => exact .inl rfl
  | cons a u => exact .inr (.inl (Nat.succ_pos _))
theorem Bfs.start (k : Nat) (stp : S → Nat → S) (s0 : S) : Bfs k stp s0 [s0] [[]] 0 0 where
  len := rfl
  nd := by simp
  h0 := rfl
  t0 := rfl
  run := fun i s u h1 h2 => by
    cases i with
    | zero =>
      cases h1
      cases h2
      exact ⟨fun _ h => (by cases h), rfl⟩
    | succ i => simp at h1
  srt := fun i j u v h h1 h2 => by
    have := (List.getElem?_eq_some_iff.mp h2).1
    simp at this
    omega
  cov := fun i b s u h => by
    rcases h with h | ⟨_, h⟩
    · exact absurd h (Nat.not_lt_zero _)
    · exact absurd h (Nat.not_lt_zero _)
  par := fun j v h h2 => by
    have := (List.getElem?_eq_some_iff.mp h2).1
    simp at this
    omega
  lst := fun j s v h1 h2 u _ _ => by
    cases j with
    | zero =>
      cases h2
      exact sle_nil u
    | succ j => simp at h1
/-- the words found are all before the next one -/
theorem Bfs.low (B : Bfs k stp s0 l tx at_ a) {t : List Nat} (ht : tx[at_]? = some t) {j : Nat} {v : List Nat} (hv : tx[j]? = some v) : slx v (t ++ [a]) := by
  rcases Nat.eq_zero_or_pos j with e | e
  · subst e
    rw [B.t0] at hv
    cases hv
    exact .inl (by rw [List.length_append, List.length_singleton]; exact Nat.succ_pos _)
  · obtain ⟨i, b, u, hb, _, hu, rfl⟩ := B.par j v e hv
    refine slx_snoc.mpr ?_
    rcases hb with hb | ⟨hb, hb2⟩
    · exact .inl (B.srt i at_ u t hb hu ht)
    · subst hb
      rw [ht] at hu
      cases hu
      exact .inr ⟨rfl, hb2⟩
/-- a word before the next one leads to a state found -/
theorem Bfs.cover (B : Bfs k stp s0 l tx at_ a) {t : List Nat} (ht : tx[at_]? = some t) : ∀ (n : Nat) (u : List Nat), u.length = n → okW k u → slx u (t ++ [a]) → ∃ (j : Nat) (v : List Nat), l[j]? = some (runS stp s0 u) ∧ tx[j]? = some v ∧ sle v u
  | 0, u, hn, _, _ => by
    obtain rfl := List.eq_nil_of_length_eq_zero hn
    exact ⟨0, [], B.h0, B.t0, .inl rfl⟩
  | n + 1, u, hn, ok, h => by
    have hne : u ≠ [] := fun z => by rw [z] at hn; cases hn
    obtain ⟨v, b, rfl⟩ : ∃ v b, u = v ++ [b] := ⟨u.dropLast, u.getLast hne, (List.dropLast_concat_getLast hne).symm⟩
    have hn' : v.length = n := by rw [List.length_append, List.length_singleton] at hn; omega
    obtain ⟨okv, hb⟩ := ok.of_snoc
    rw [runS_snoc]
    rcases slx_snoc.mp h with h | ⟨rfl, hba⟩
    · obtain ⟨i, v', e1, e2, e3⟩ := B.cover ht n v hn' okv (slx_trans h (slx_grow t a))
      have hi : i < at_ := by
        rcases Nat.lt_trichotomy i at_ with z | z | z
        · exact z
        · subst z
          rw [ht] at e2
          cases e2
          exact absurd (sle_lt e3 h) (slx_irr _)
        · exact absurd (slx_trans (B.srt _ _ _ _ z ht e2) (sle_lt e3 h)) (slx_irr _)
      obtain ⟨j, v2, f1, f2, f3⟩ := B.cov i b _ v' (.inl hi) hb e1 e2
      exact ⟨j, v2, f1, f2, sle_trans f3 (sle_snoc b e3)⟩
    · have hl : at_ < l.length := by rw [← B.len]; exact (List.getElem?_eq_some_iff.mp ht).1
      obtain ⟨r1, r2⟩ := B.run at_ _ v (List.getElem?_eq_getElem hl) ht
      obtain ⟨j, v2, f1, f2, f3⟩ := B.cov at_ b _ v (.inr ⟨rfl, hba⟩) hb (List.getElem?_eq_getElem hl) ht
      rw [← r2] at f1
      exact ⟨j, v2, f1, f2, f3⟩
theorem bef_succ {i b at_ a : Nat} (h : bef i b at_ (a + 1)) : bef i b at_ a ∨ (i = at_ ∧ b = a) := by
  rcases h with h | ⟨h, h2⟩
  · exact .inl (.inl h)
  · rcases Nat.lt_or_ge b a with z | z
    · exact .inl (.inr ⟨h, z⟩)
    · exact .inr ⟨h, by omega⟩
theorem bef_up {i b at_ a : Nat} (h : bef i b at_ a) : bef i b at_ (a + 1) := by
  rcases h with h | ⟨h, h2⟩
  · exact .inl h
  · exact .inr ⟨h, Nat.lt_succ_of_lt h2⟩
theorem Bfs.old (B : Bfs k stp s0 l tx at_ a) {s : S} (hs : l[at_]? = some s) (hm : stp s a ∈ l) : Bfs k stp s0 l tx at_ (a + 1) where
  len := B.len
  nd := B.nd
  h0 := B.h0
  t0 := B.t0
  run := B.run
  srt := B.srt
  cov := fun i b s' u h hb h1 h2 => by
    rcases bef_succ h with z | ⟨rfl, rfl⟩
    · exact B.cov i b s' u z hb h1 h2
    · rw [hs] at h1
      cases h1
      obtain ⟨j, hj⟩ := List.mem_iff_getElem?.mp hm
      have hj2 : j < tx.length := by rw [B.len]; exact (List.getElem?_eq_some_iff.mp hj).1
      exact ⟨j, tx[j], hj, List.getElem?_eq_getElem hj2, .inr (B.low h2 (List.getElem?_eq_getElem hj2))⟩
  par := fun j v h h2 => by
    obtain ⟨i, b, u, h3, h4⟩ := B.par j v h h2
    exact ⟨i, b, u, bef_up h3, h4⟩
  lst := B.lst
theorem app_at {α : Type} {l : List α} {x y : α} {j : Nat} (h : (l ++ [x])[j]? = some y) : (j < l.length ∧ l[j]? = some y) ∨ (j = l.length ∧ y = x) := by
  by_cases hj : j < l.length
  · rw [List.getElem?_append_left hj] at h
    exact .inl ⟨hj, h⟩
  · have ej : j = l.length := by
      have := (List.getElem?_eq_some_iff.mp h).1
      rw [List.length_append, List.length_singleton] at this
      omega
    subst ej
    rw [List.getElem?_append_right (Nat.le_refl _), Nat.sub_self] at h
    cases h
    exact .inr ⟨rfl, rfl⟩
theorem app_l {α : Type} {l : List α} {x y : α} {j : Nat} (h : l[j]? = some y) : (l ++ [x])[j]? = some y := by
  rw [List.getElem?_append_left (List.getElem?_eq_some_iff.mp h).1]
  exact h
theorem app_r {α : Type} {l : List α} {x : α} : (l ++ [x])[l.length]? = some x := by
  rw [List.getElem?_append_right (Nat.le_refl _), Nat.sub_self]
  rfl
theorem Bfs.new (B : Bfs k stp s0 l tx at_ a) {s : S} {t : List Nat} (ha : a < k) (hs : l[at_]? = some s) (ht : tx[at_]? = some t) (hm : stp s a ∉ l) : Bfs k stp s0 (l ++ [stp s a]) (tx ++ [t ++ [a]]) at_ (a + 1) where
  len := by rw [List.length_append, List.length_append, B.len]; rfl
  nd := nodup_snoc B.nd hm
  h0 := app_l B.h0
  t0 := app_l B.t0
  run := fun i s' u h1 h2 => by
    rcases app_at h1 with ⟨z, h1⟩ | ⟨z, rfl⟩
    · rcases app_at h2 with ⟨_, h2⟩ | ⟨y, _⟩
      · exact B.run i s' u h1 h2
      · rw [B.len] at y
        omega
    · rcases app_at h2 with ⟨y, _⟩ | ⟨_, rfl⟩
      · rw [B.len] at y
        omega
      · obtain ⟨r1, r2⟩ := B.run at_ s t hs ht
        exact ⟨r1.snoc ha, by rw [runS_snoc, r2]⟩
  srt := fun i j u v h h1 h2 => by
    rcases app_at h2 with ⟨_, h2⟩ | ⟨y, rfl⟩
    · rcases app_at h1 with ⟨_, h1⟩ | ⟨y, _⟩
      · exact B.srt i j u v h h1 h2
      · have := (List.getElem?_eq_some_iff.mp h2).1
        omega
    · rcases app_at h1 with ⟨_, h1⟩ | ⟨z, _⟩
      · exact B.low ht h1
      · omega
  cov := fun i b s' u h hb h1 h2 => by
    have hi : i ≤ at_ := by
      rcases h with h | h
      · omega
      · omega
    have hl := (List.getElem?_eq_some_iff.mp hs).1
    have h1' : l[i]? = some s' := by
      rcases app_at h1 with ⟨_, h1⟩ | ⟨z, _⟩
      · exact h1
      · omega
    have h2' : tx[i]? = some u := by
      rcases app_at h2 with ⟨_, h2⟩ | ⟨z, _⟩
      · exact h2
      · rw [B.len] at z
        omega
    rcases bef_succ h with z | ⟨rfl, rfl⟩
    · obtain ⟨j, v, e1, e2, e3⟩ := B.cov i b s' u z hb h1' h2'
      exact ⟨j, v, app_l e1, app_l e2, e3⟩
    · rw [hs] at h1'
      cases h1'
      rw [ht] at h2'
      cases h2'
      exact ⟨l.length, _, app_r, by rw [← B.len]; exact app_r, .inl rfl⟩
  par := fun j v h h2 => by
    rcases app_at h2 with ⟨_, h2⟩ | ⟨y, rfl⟩
    · obtain ⟨i, b, u, h3, h4, h5, h6⟩ := B.par j v h h2
      exact ⟨i, b, u, bef_up h3, h4, app_l h5, h6⟩
    · exact ⟨at_, a, t, .inr ⟨rfl, Nat.lt_succ_self _⟩, ha, app_l ht, rfl⟩
  lst := fun j s' v h1 h2 u ok e => by
    rcases app_at h1 with ⟨z, h1⟩ | ⟨z, rfl⟩
    · rcases app_at h2 with ⟨_, h2⟩ | ⟨y, _⟩
      · exact B.lst j s' v h1 h2 u ok e
      · rw [B.len] at y
        omega
    · rcases app_at h2 with ⟨y, _⟩ | ⟨_, rfl⟩
      · rw [B.len] at y
        omega
      · refine sle_not.mpr fun z => hm ?_
        obtain ⟨i, v', e1, _, _⟩ := B.cover ht _ u rfl ok z
        rw [e] at e1
        exact List.mem_of_getElem? e1
theorem Bfs.next (B : Bfs k stp s0 l tx at_ k) : Bfs k stp s0 l tx (at_ + 1) 0 where
  len := B.len
  nd := B.nd
  h0 := B.h0
  t0 := B.t0
  run := B.run
  srt := B.srt
  cov := fun i b s u h hb h1 h2 => B.cov i b s u (by
    rcases h with h | ⟨_, h⟩
    · rcases Nat.lt_or_ge i at_ with z | z
      · exact .inl z
      · exact .inr ⟨by omega, hb⟩
    · exact absurd h (Nat.not_lt_zero _)) hb h1 h2
  par := fun j v h h2 => by
    obtain ⟨i, b, u, h3, h4, h5⟩ := B.par j v h h2
    refine ⟨i, b, u, .inl ?_, h4, h5⟩
    rcases h3 with z | ⟨z, _⟩
    · omega
    · omega
  lst := B.lst
/-- all done: every word leads to a state found -/
theorem Bfs.all (B : Bfs k stp s0 l tx l.length 0) : ∀ u, okW k u → ∃ (j : Nat) (v : List Nat), l[j]? = some (runS stp s0 u) ∧ tx[j]? = some v ∧ sle v u := by
  have cl : ∀ s ∈ l, ∀ b, b < k → stp s b ∈ l := fun s hs b hb => by
    obtain ⟨i, hi⟩ := List.mem_iff_getElem?.mp hs
    have hi2 : i < l.length := (List.getElem?_eq_some_iff.mp hi).1
    obtain ⟨j, v, e1, _⟩ := B.cov i b s _ (.inl hi2) hb hi (List.getElem?_eq_getElem (by rw [B.len]; exact hi2))
    exact List.mem_of_getElem? e1
  have run : ∀ (u : List Nat), okW k u → ∀ s ∈ l, runS stp s u ∈ l := by
    intro u
    induction u with
    | nil => exact fun _ s h => h
    | cons b u ih => exact fun ok s h => ih (fun x hx => ok x (List.mem_cons_of_mem _ hx)) _ (cl s h b (ok b List.mem_cons_self))
  intro u ok
  obtain ⟨j, hj⟩ := List.mem_iff_getElem?.mp (run u ok s0 (List.mem_of_getElem? B.h0))
  have hj2 : j < tx.length := by rw [B.len]; exact (List.getElem?_eq_some_iff.mp hj).1
  exact ⟨j, tx[j], hj, List.getElem?_eq_getElem hj2, B.lst j _ _ hj (List.getElem?_eq_getElem hj2) u ok rfl⟩
/-- the first word with p -/
def First (k : Nat) (p : List Nat → Prop) (u : List Nat) : Prop := okW k u ∧ p u ∧ ∀ v, okW k v → p v → sle u v
theorem First.uniq {k : Nat} {p : List Nat → Prop} {u v : List Nat} (a : First k p u) (b : First k p v) : u = v := by
  rcases a.2.2 v b.1 b.2.1 with z | z
  · exact z
  · exact absurd z (sle_not.mp (b.2.2 u a.1 a.2.1))
theorem Bfs.first (B : Bfs k stp s0 l tx at_ a) {p : S → Prop} {s : S} {t : List Nat} (hs : l[at_]? = some s) (ht : tx[at_]? = some t) (no : ∀ i s', i < at_ → l[i]? = some s' → ¬ p s') (yes : p s) : First k (fun u => p (runS stp s0 u)) t := by
  obtain ⟨r1, r2⟩ := B.run at_ s t hs ht
  refine ⟨r1, by show p (runS stp s0 t); rw [r2]; exact yes, fun v ok pv => sle_not.mpr fun z => ?_⟩
  obtain ⟨j, v', e1, e2, e3⟩ := B.cover ht _ v rfl ok (slx_trans z (slx_grow t a))
  have hj : j < at_ := by
    rcases Nat.lt_trichotomy j at_ with y | y | y
    · exact y
    · subst y
      rw [ht] at e2
      cases e2
      exact absurd (sle_lt e3 z) (slx_irr _)
    · exact absurd (slx_trans (B.srt _ _ _ _ y ht e2) (sle_lt e3 z)) (slx_irr _)
  exact no j _ hj e1 pv
theorem Bfs.none (B : Bfs k stp s0 l tx l.length 0) {p : S → Prop} (no : ∀ s ∈ l, ¬ p s) : ∀ u, okW k u → ¬ p (runS stp s0 u) := fun u ok => by
  obtain ⟨j, v, e1, _⟩ := B.all u ok
  exact no _ (List.mem_of_getElem? e1)
end
end K46
set_option Elab.async false
set_option linter.all false
set_option maxRecDepth 100000
set_option maxHeartbeats 1600000
namespace K46
open PySem PySem.Spec PyProof.Rows L2
theorem txt_app (x : Str) (u v : List Nat) : txt x u ++ txt x v = txt x (u ++ v) := by
  show (⟨(txt x u).cps ++ (txt x v).cps⟩ : Str) = _
  unfold txt
  rw [List.map_append]
  simp
theorem txt_one {x : Str} {a c : Nat} (h : x.cps[a]? = some c) : (⟨#[c]⟩ : Str) = txt x [a] := by
  unfold txt
  rw [List.map_cons, List.map_nil, getD_of (by rw [Array.getElem?_toList]; exact h)]
/-- the dict of the texts -/
def txL (x : Str) (l : List Nat) (tx : List (List Nat)) : List (Key × V) := (l.zip tx).map fun p => (kI p.1, V.str (txt x p.2))
theorem txL_fst {x : Str} {l : List Nat} {tx : List (List Nat)} (h : tx.length = l.length) : (txL x l tx).map (·.1) = l.map kI := by
  unfold txL
  rw [List.map_map]
  have : l.map kI = ((l.zip tx).map (·.1)).map kI := by rw [List.map_fst_zip (by omega)]
  rw [this, List.map_map]
  rfl
theorem kI_nd {l : List Nat} (h : l.Nodup) : (l.map kI).Nodup := List.Pairwise.map _ (fun a b h e => h (kI_inj e)) h
theorem txL_some {x : Str} {l : List Nat} {tx : List (List Nat)} {i q : Nat} {u : List Nat} (h : tx.length = l.length) (nd : l.Nodup) (h1 : l[i]? = some q) (h2 : tx[i]? = some u) : valV (txL x l tx) (kI q) = some (.str (txt x u)) := by
  refine valV_mem (by rw [txL_fst h]; exact kI_nd nd) (List.mem_map.mpr ⟨(q, u), List.mem_of_getElem? (i := i) ?_, rfl⟩)
  rw [List.getElem?_zip_eq_some]
  exact ⟨h1, h2⟩
theorem txL_none {x : Str} {l : List Nat} {tx : List (List Nat)} {q : Nat} (h : tx.length = l.length) (hq : q ∉ l) : valV (txL x l tx) (kI q) = none := valV_no (by
  rw [txL_fst h]
  intro z
  obtain ⟨a, ha, e⟩ := List.mem_map.mp z
  rw [kI_inj e] at ha
  exact hq ha)
theorem txL_snoc {x : Str} {l : List Nat} {tx : List (List Nat)} {q : Nat} {u : List Nat} (h : tx.length = l.length) (hq : q ∉ l) : putK (txL x l tx) (kI q) (.str (txt x u)) = txL x (l ++ [q]) (tx ++ [u]) := by
  rw [putK_new _ (txL_none h hq)]
  unfold txL
  rw [List.zip_append h.symm, List.map_append]
  rfl
theorem txL_len {x : Str} {l : List Nat} {tx : List (List Nat)} (h : tx.length = l.length) : (txL x l tx).length = l.length := by
  unfold txL
  rw [List.length_map, List.length_zip, h, Nat.min_self]
/-- the heap while it searches -/
structure BfI (x : Str) (M : Mach) (H0 H : Hp) (D Wt : Addr) (l : List Nat) (tx : List (List Nat)) (at_ a : Nat) : Prop where
  sm : Same H0 H
  fD : H0 D = none
  fW : H0 Wt = none
  eW : H Wt = some (.lst (l.map nV))
  eD : H D = some (.dK (txL x l tx))
  B : Bfs x.cps.size (nxt M.tab) 0 l tx at_ a
  ln : ∀ (j : Nat) u, tx[j]? = some u → u.length ≤ j
  lt : ∀ q ∈ l, q < M.acc.length
theorem BfI.keep {x : Str} {M : Mach} {H0 H H' : Hp} {D Wt : Addr} {l : List Nat} {tx : List (List Nat)} {at_ a : Nat} (I : BfI x M H0 H D Wt l tx at_ a) (s : Same H H') : BfI x M H0 H' D Wt l tx at_ a := ⟨I.sm.trans s, I.fD, I.fW, s _ _ I.eW, s _ _ I.eD, I.B, I.ln, I.lt⟩
theorem BfI.old {x : Str} {M : Mach} {H0 H : Hp} {D Wt : Addr} {l : List Nat} {tx : List (List Nat)} {at_ a s : Nat} (I : BfI x M H0 H D Wt l tx at_ a) (hs : l[at_]? = some s) (hm : nxt M.tab s a ∈ l) : BfI x M H0 H D Wt l tx at_ (a + 1) := ⟨I.sm, I.fD, I.fW, I.eW, I.eD, I.B.old hs hm, I.ln, I.lt⟩
theorem BfI.nDW {x : Str} {M : Mach} {H0 H : Hp} {D Wt : Addr} {l : List Nat} {tx : List (List Nat)} {at_ a : Nat} (I : BfI x M H0 H D Wt l tx at_ a) : D ≠ Wt := ne_of I.eD I.eW fun z => by cases z
theorem BfI.new {x : Str} {M : Mach} {H0 H : Hp} {D Wt : Addr} {l : List Nat} {tx : List (List Nat)} {at_ a s : Nat} {t : List Nat} (I : BfI x M H0 H D Wt l tx at_ a) (W : Wf x.cps.size M) (ha : a < x.cps.size) (hs : l[at_]? = some s) (ht : tx[at_]? = some t) (hm : nxt M.tab s a ∉ l) :
    BfI x M H0 (upd (upd H D (.dK (txL x (l ++ [nxt M.tab s a]) (tx ++ [t ++ [a]])))) Wt (.lst ((l ++ [nxt M.tab s a]).map nV))) D Wt (l ++ [nxt M.tab s a]) (tx ++ [t ++ [a]]) at_ (a + 1) where
  sm := same_store (same_store I.sm I.fD) I.fW
  fD := I.fD
  fW := I.fW
  eW := upd_same
  eD := (upd_ne I.nDW).trans upd_same
  B := I.B.new ha hs ht hm
  ln := fun j u h => by
    rcases app_at h with ⟨_, h⟩ | ⟨rfl, rfl⟩
    · exact I.ln j u h
    · have h1 := I.ln at_ t ht
      have h2 := (List.getElem?_eq_some_iff.mp ht).1
      rw [List.length_append, List.length_singleton]
      omega
  lt := fun q hq => by
    rcases List.mem_append.mp hq with z | z
    · exact I.lt q z
    · rw [List.mem_singleton.mp z]
      exact W.tb.lt (I.lt s (List.mem_of_getElem? hs)) ha
theorem BfI.next {x : Str} {M : Mach} {H0 H : Hp} {D Wt : Addr} {l : List Nat} {tx : List (List Nat)} {at_ : Nat} (I : BfI x M H0 H D Wt l tx at_ x.cps.size) : BfI x M H0 H D Wt l tx (at_ + 1) 0 := ⟨I.sm, I.fD, I.fW, I.eW, I.eD, I.B.next, I.ln, I.lt⟩
theorem BfI.few {x : Str} {M : Mach} {H0 H : Hp} {D Wt : Addr} {l : List Nat} {tx : List (List Nat)} {at_ a : Nat} (I : BfI x M H0 H D Wt l tx at_ a) : l.length ≤ M.acc.length := nodup_lt_len I.B.nd I.lt
theorem BfI.start {x : Str} {M : Mach} {H : Hp} {D Wt : Addr} (W : Wf x.cps.size M) (hD : H D = none) (hW : upd H D (.dK [(kI 0, .str (txt x []))]) Wt = none) : BfI x M H (upd (upd H D (.dK [(kI 0, .str (txt x []))])) Wt (.lst [nV 0])) D Wt [0] [[]] 0 0 where
  sm := (same_upd hD).trans (same_upd hW)
  fD := hD
  fW := (upd_none hW).1
  eW := upd_same
  eD := (upd_ne (upd_none hW).2.symm).trans upd_same
  B := .start _ _ _
  ln := fun j u h => by
    cases j with
    | zero => cases h; exact Nat.le_refl _
    | succ j => simp at h
  lt := fun q h => by rw [List.mem_singleton.mp h]; exact W.pos
section
variable {P : Program} {w : World} {K : PySem.W.Frag} {mg : Str → Option Value} {base : Heap}
/-! ### first_text -/
abbrev nmFirst : List Str := ["machine", "texts", "waiting", "at", "state", "letter", "following"]
theorem scFirst : FnScope nmFirst ["machine"] (defScope (topS 21)) := C8.fnScope_by (by decide +kernel)
def spFirst (K : PySem.W.Frag) : Sp := fun vs H Q _ => ∃ (x : Str) (m : Addr) (M : Mach), vs = [.ref m] ∧ MachK K H m x M ∧ Wf x.cps.size M ∧ Ltr x ∧ (∃ u, okW x.cps.size u ∧ accT M 0 u = true) ∧
  ∀ H' u, Same H H' → First x.cps.size (fun u => accT M 0 u = true) u → u.length < M.acc.length → Q (.str (txt x u)) H'
theorem cal_first (T : Tx K mg) : C8.Cal P w K mg base 1 "first_text" (spFirst K) [] := by
  refine cal_of T (i := 21) 11 rfl (by decide +kernel) scFirst (fun _ _ _ _ _ _ us hl => match us, hl with | [_], _ => rfl) (fun vs H Q E h => ?_) (fun f cdv A outer s H vs Q E hr h => ?_)
  · obtain ⟨x, m, M, rfl, _⟩ := h
    rfl
  · obtain ⟨x, m, M, rfl, hM, W, L, ⟨u0, ok0, acc0⟩, q⟩ := h
    have hu := hu_of hr
    refine ⟨_, pss_cons (ps_set (i := 1) scFirst.nd rfl (.inl rfl) (pe_disp (pps_cons pe_int pe_str pps_nil) (by rfl) (by rfl) (fun z => by cases z) (by decide)))
      (pss_cons (ps_set (i := 2) scFirst.nd rfl (.inl rfl) (pe_lst (pa_cons pe_int pa_nil)))
      (pss_cons (ps_set (i := 3) scFirst.nd rfl (.inl rfl) pe_int)
      (pss_cons (ps_while PassesOwn.never (pt_cmpR op_lt (pv 3) (pe_callB (lenB K) (by rfl) (T.b "len" (by decide +kernel)) PySem.boot_len (pa_cons (pv 2) pa_nil)) (nomark _))
        (pss_cons (ps_set (i := 4) scFirst.nd rfl (.inl rfl) (pe_ix (ixB K) (pv 2) (pv 3) (fun _ _ => rfl)))
        (pss_cons (ps_if (pt_val (pe_ix (ixB K) (pe_fld (pv 0) rfl) (pv 4) (fun _ _ => rfl))) (pss_one (ps_ret (pe_dget hu (pv 1) (pv 4) (fun _ _ => rfl)))) pss_nil)
        (pss_cons (ps_for PassesOwn.never rfl (pi_zipS (by rfl) (T.b "zip" (by decide +kernel)) (pa_cons (pe_fld (pv 0) rfl) (pa_cons (pe_ix (ixB K) (pe_fld (pv 0) rfl) (pv 4) (fun _ _ => rfl)) pa_nil))) (g := gTup K 2 (gCons (gName 5) (gCons (gName 6) gNil))) (pg_tup rfl (pgs_cons (pg_name (i := 5) scFirst.nd rfl (Or.inl rfl)) (pgs_cons (pg_name (i := 6) scFirst.nd rfl (Or.inl rfl)) pgs_nil)))
          (pss_one (ps_if (pt_cmp (pc_dnotin hu (pv 6) (pv 1)))
            (pss_cons (ps_dput hu (pv 1) (pv 6) (pe_op op_add_str (pe_dget hu (pv 1) (pv 4) (fun _ _ => rfl)) (pv 5)) rfl)
              (pss_one (ps_expr (pe_bm PySem.F.plainAttrs_list PySem.F.slot_list_append PySem.F.type_list_append mt_append (pv 2) (pa_cons (pv 6) pa_nil))))) pss_nil)))
        (pss_one (ps_set (i := 3) scFirst.nd rfl (.inl rfl) (pe_op op_add (pv 3) pe_int)))))))
      (pss_one (ps_ret pe_non))))), ?_⟩
    obtain ⟨dx, a', t, hp, hA, hT⟩ := id hM
    refine fun D hD => ⟨upd_same, [(kI 0, .str "")], rfl, (by show 1 ≤ 15; decide), ?_⟩
    rw [upd_upd]
    refine ⟨by show 1 ≤ sizeLine; decide, fun Wt hW => ?_⟩
    have I0 : BfI x M H _ D Wt [0] [[]] 0 0 := BfI.start W hD hW
    have hyp : upd (upd H D (.dK [(kI 0, .str (txt x []))])) Wt (.lst [nV 0]) = upd (upd H D (.dK (mergeK [] [(kI 0, .str "")]))) Wt (.lst [.int 0]) := rfl
    rw [hyp] at I0
    generalize upd (upd H D (.dK (mergeK [] [(kI 0, .str "")]))) Wt (.lst [.int 0]) = H1 at I0 ⊢
    clear hyp hW
    refine while_by (fun σ H1 => ∃ (l : List Nat) (tx : List (List Nat)) (at_ : Nat) (y4 y5 y6 : Option V), σ = [some (.ref m), some (.ref D), some (.ref Wt), some (nV at_), y4, y5, y6] ∧ BfI x M H H1 D Wt l tx at_ 0 ∧ at_ ≤ l.length ∧ ∀ i s, i < at_ → l[i]? = some s → ¬ M.acc.getD s false = true)
      (fun σ _ => M.acc.length + 1 - (sI 3 σ).toNat) ⟨_, _, 0, none, none, none, rfl, I0, Nat.zero_le _, fun i s h => absurd h (Nat.not_lt_zero _)⟩ (fun σ H1 hP => ?_) (fun σ H Q Q' m q => ?_)
    · obtain ⟨l, tx, at_, y4, y5, y6, rfl, I, hat, hno⟩ := hP
      have hln := I.few
      refine ⟨_, rfl, _, rfl, true, _, _, rfl, .lst I.eW, _, _, rfl, rfl, _, rfl, ?_⟩
      rw [List.length_map]
      refine ite2 (fun c => ?_) (fun c => ?_)
      · have c1 : at_ < l.length := by
          have : (at_ : Int) < (l.length : Int) := of_decide_eq_true c
          omega
        have hs := List.getElem?_eq_getElem c1
        have hq := I.lt _ (List.getElem_mem c1)
        generalize l[at_] = st at hs hq
        have c2 : at_ < tx.length := by rw [I.B.len]; exact c1
        have ht := List.getElem?_eq_getElem c2
        generalize tx[at_] = tt at ht
        have hg : DGet H1 D (nV st) (some (.str (txt x tt))) := by
          have z := DGet.k (k := kI st) I.eD
          rw [txL_some I.B.len I.B.nd hs ht] at z
          exact z
        refine ⟨_, rfl, _, rfl, true, _, _, _, _, rfl, rfl, .lst I.eW, atI_nat (by rw [List.getElem?_map, hs]; rfl), ?_⟩
        refine ⟨_, rfl, _, _, _, _, _, rfl, I.sm _ _ hp, T.cl, T.nA, rfl, _, rfl, false, _, _, _, _, rfl, rfl, hA.same I.sm, atI_nat (acc_at hq), _, rfl, ite2 (fun ca => ?_) (fun ca => ?_)⟩
        · exact ⟨_, rfl, _, rfl, D, _, rfl, hg, q _ _ I.sm (I.B.first (p := fun s => M.acc.getD s false = true) hs ht hno ca) (by have := I.ln at_ tt ht; omega)⟩
        · obtain ⟨rs, r, row, h1, h2, h3, h4, h5, h6⟩ := hT.row W.tb hq
          refine ⟨_, rfl, _, _, _, _, _, rfl, I.sm _ _ hp, T.cl, T.nL, rfl, _, rfl, _, _, _, _, _, rfl, I.sm _ _ hp, T.cl, T.nT, rfl, _, rfl, false, _, _, _, _, rfl, rfl, h1.same I.sm, atI_nat h2, x, r, row.map nV, rfl, h3.same I.sm, for_zipS (ys := row.map nV) (by rw [List.length_map, h4]) (fun j σ H2 => ∃ (l2 : List Nat) (tx2 : List (List Nat)) (y5 y6 : Option V), σ = [some (.ref m), some (.ref D), some (.ref Wt), some (nV at_), some (nV st), y5, y6] ∧ BfI x M H H2 D Wt l2 tx2 at_ j ∧ l2[at_]? = some st ∧ tx2[at_]? = some tt ∧ ∃ z, l2 = l ++ z)
            ⟨l, tx, y5, y6, rfl, I, hs, ht, [], by simp⟩ (fun i σ H2 hP => ?_) (fun i c0 y Tp σ H2 hc0 hy hP hTp => ?_) (fun σ H2 hP => ?_)⟩
          · obtain ⟨_, _, _, _, _, I2, _⟩ := hP
            exact h3.same I2.sm
          · obtain ⟨l2, tx2, y5, y6, rfl, I2, hs2, ht2, z, hz⟩ := hP
            have hi : i < x.cps.size := (Array.getElem?_eq_some_iff.mp hc0).1
            have hy2 : y = nV (nxt M.tab st i) := by
              rw [List.getElem?_map, h6 i hi] at hy
              exact (Option.some.inj hy).symm
            subst hy2
            have I3 := I2.keep (same_upd (o := .tup [.str ⟨#[c0]⟩, nV (nxt M.tab st i)]) hTp)
            have eT : upd H2 Tp (.tup [.str ⟨#[c0]⟩, nV (nxt M.tab st i)]) Tp = some (.tup [.str ⟨#[c0]⟩, nV (nxt M.tab st i)]) := upd_same
            generalize upd H2 Tp (.tup [.str ⟨#[c0]⟩, nV (nxt M.tab st i)]) = H3 at I3 eT ⊢
            refine ⟨Tp, _, rfl, SqT.of eT, rfl, _, _, rfl, _, _, rfl, rfl, ?_⟩
            refine ⟨_, rfl, _, rfl, D, _, rfl, DGet.k (k := kI (nxt M.tab st i)) I3.eD, _, rfl, ?_⟩
            have few2 := I3.few
            have wf := W.few
            by_cases hm : nxt M.tab st i ∈ l2
            · obtain ⟨j, hj⟩ := List.mem_iff_getElem?.mp hm
              have hj2 : j < tx2.length := by rw [I3.B.len]; exact (List.getElem?_eq_some_iff.mp hj).1
              rw [txL_some I3.B.len I3.B.nd hj (List.getElem?_eq_getElem hj2)]
              exact iteF ⟨l2, tx2, _, _, rfl, I3.old hs2 hm, hs2, ht2, z, hz⟩
            · rw [txL_none I3.B.len hm]
              have hg2 : DGet H3 D (nV st) (some (.str (txt x tt))) := by
                have z := DGet.k (k := kI st) I3.eD
                rw [txL_some I3.B.len I3.B.nd hs2 ht2] at z
                exact z
              have tl : tt.length ≤ at_ := I3.ln at_ tt ht2
              have hatl := (List.getElem?_eq_some_iff.mp hs2).1
              refine iteT ⟨_, rfl, _, rfl, D, _, rfl, hg2, _, rfl, _, _, rfl, rfl, ?_, ?_⟩
              · show (txt x tt).length + 1 ≤ sizeLine
                rw [txt_len, sizeLine_eq]
                omega
              · rw [txt_one hc0, txt_app]
                have dp := DPut.k (k := kI (nxt M.tab st i)) (v := .str (txt x (tt ++ [i]))) I3.eD (by rw [txL_len I3.B.len, sizeLine_eq]; omega)
                rw [txL_snoc I3.B.len hm] at dp
                have eW3 : upd H3 D (.dK (txL x (l2 ++ [nxt M.tab st i]) (tx2 ++ [tt ++ [i]]))) Wt = some (.lst (l2.map nV)) := (upd_ne I3.nDW.symm).trans I3.eW
                have I4 := I3.new W hi hs2 ht2 hm
                rw [List.map_append] at I4
                exact ⟨_, rfl, _, rfl, D, _, rfl, dp, _, rfl, .inl ⟨rfl, _, SqL.of eW3⟩, _, rfl, Wt, _, _, rfl, rfl, eW3, by rw [List.length_map, sizeLine_eq]; omega, _, _, _, _, rfl, I4, app_l hs2, app_l ht2, z ++ [nxt M.tab st i], by rw [hz, List.append_assoc]⟩
          · obtain ⟨l2, tx2, y5, y6, rfl, I2, hs2, ht2, z, hz⟩ := hP
            rw [List.length_map, h4] at I2
            have len2 : l.length ≤ l2.length := by rw [hz, List.length_append]; omega
            refine ⟨_, rfl, _, _, rfl, rfl, ⟨l2, tx2, at_ + 1, _, _, _, rfl, I2.next, by omega, fun i s hi his => ?_⟩, ?_⟩
            · rcases Nat.lt_or_ge i at_ with y | y
              · rw [hz, List.getElem?_append_left (by omega)] at his
                exact hno i s y his
              · have ei : i = at_ := by omega
                subst ei
                rw [hs2] at his
                cases his
                exact fun z => ca z
            · show M.acc.length + 1 - ((at_ : Int) + 1).toNat < M.acc.length + 1 - ((at_ : Int)).toNat
              omega
      · exfalso
        have c1 : ¬ (at_ : Int) < (l.length : Int) := fun z => c (decide_eq_true z)
        have ea : at_ = l.length := by omega
        subst ea
        refine I.B.none (p := fun s => M.acc.getD s false = true) (fun s hs => ?_) u0 ok0 acc0
        obtain ⟨i, hi⟩ := List.mem_iff_getElem?.mp hs
        exact hno i s (List.getElem?_eq_some_iff.mp hi).1 hi
    · obtain ⟨v1, e1, v2, e2, b, p, ys, e3, e4, i, j, e5, e6, c, e7, h⟩ := q
      exact ⟨v1, e1, v2, e2, b, p, ys, e3, e4, i, j, e5, e6, c, e7, m _ _ h⟩
end
end K46
set_option Elab.async false
set_option linter.all false
set_option maxRecDepth 100000
set_option maxHeartbeats 1600000
namespace K46
open PySem PySem.Spec PyProof.Rows L2 NdefX LamX
/-! ### parting -/
abbrev nmPart : List Str := ["first", "second"]
theorem scPart : FnScope nmPart ["first", "second"] (defScope (topS 22)) := C8.fnScope_by (by decide +kernel)
abbrev lamPart : Expr := argE 2 (argE 0 (retE ((defBody (topS 22)).getD 0 (.Pass ⟨0, 0, 0, 0⟩))))
abbrev nmPLam : List Str := ["one", "other"]
theorem scPLam : NScope nmPLam ["one", "other"] [] (lamS lamPart) := nscope_by (by decide +kernel)
def spPLam : List (Option V) → Sp := fun ws vs H Q _ => RJudge vs H Q
section
variable {P : Program} {w : World} {K : PySem.W.Frag} {mg : Str → Option Value} {base : Heap}
theorem ok_plam (T : Tx K mg) {f : Addr} {F : Clo} (hF : LamC lamPart F) : COk P w K mg base 1 f F ["one", "other"] [] spPLam := by
  obtain ⟨qual, cl, c, rfl⟩ := hF
  refine cok_lam (N := nmPLam) rfl scPLam (fun _ _ _ us hl => match us, hl with | [_, _], _ => rfl) (fun ws vs H Q E h => ?_) (fun A outer s H vs ws Q E hr hw h => ?_)
  · obtain ⟨a, b, rfl, _⟩ := h
    rfl
  · obtain ⟨a, b, rfl, h⟩ := h
    refine ⟨_, pe_cmpR op_ne (pv 0) (pv 1) (by rfl), ?_⟩
    refine ⟨_, rfl, _, rfl, rfl, ?_⟩
    have e : (!decide (V.bl a = V.bl b)) = (a != b) := by cases a <;> cases b <;> rfl
    rw [e]
    exact h
def spPart (K : PySem.W.Frag) : Sp := fun vs H Q _ => ∃ (x : Str) (m1 m2 : Addr) (M1 M2 : Mach), vs = [.ref m1, .ref m2] ∧ MachK K H m1 x M1 ∧ MachK K H m2 x M2 ∧ Wf x.cps.size M1 ∧ Wf x.cps.size M2 ∧ Ltr x ∧ M1.acc.length * M2.acc.length < 64 ∧ TabsN (TT K) H ∧ (∃ u, okW x.cps.size u ∧ accT M1 0 u ≠ accT M2 0 u) ∧
  ∀ H' u, Ex K H H' → First x.cps.size (fun u => accT M1 0 u ≠ accT M2 0 u) u → u.length < 64 → Q (.str (txt x u)) H'
theorem cal_parting (T : Tx K mg) (TB : TBs K mg base) : C8.Cal P w K mg base 7 "parting" (spPart K) [] := by
  refine cal_ofT T TB (i := 22) 12 rfl (by decide +kernel) (by decide +kernel) scPart (fun _ _ _ _ _ _ us hl => match us, hl with | [_, _], _ => rfl) (fun vs H Q E h => ?_) (fun c Pt tb hPt f A outer s H vs Q E hr h => ?_)
  · obtain ⟨x, m1, m2, M1, M2, rfl, _⟩ := h
    rfl
  · obtain ⟨x, m1, m2, M1, M2, rfl, hM1, hM2, W1, W2, L, few, hTT, ⟨u0, ok0, ne0⟩, q⟩ := h
    refine ⟨_, pss_one (ps_ret (C8.pe_c (cal_first T) hr (by decide) (by rfl) (pa_cons (C8.pe_c (cal_paired T TB) hr (by decide) (by rfl) (pa_cons (pv 0) (pa_cons (pv 1) (pa_cons (pe_lambda tb rfl hPt (by rfl) TT_nm rfl (free_by (sc := lamS lamPart) (outer := defScope (topS 22)) (by decide +kernel))) pa_nil)))) pa_nil))), ?_⟩
    refine ⟨_, rfl, _, rfl, hTT, fun fJ c1 H1 e1 n1 t1 nf1 ef1 ec1 => ?_⟩
    have x1 : Ex K H H1 := ⟨e1, n1, fun _ => t1⟩
    refine ⟨x, m1, m2, fJ, M1, M2, rfl, hM1.vw x1.vw, hM2.vw x1.vw, W1, W2, L, few, t1, ⟨_, _, _, ok_plam T ⟨_, _, _, rfl⟩, rfl, ef1, ec1, fun H vs Q r => r⟩, fun H2 p M' x2 hM' LM' hle => ?_⟩
    refine ⟨x, p, M', rfl, hM', LM'.wf, L, ⟨u0, ok0, ?_⟩, fun H3 u s3 hu hul => q _ _ ((x1.trans x2).trans (.of s3)) ⟨hu.1, ?_, fun v ok hv => hu.2.2 v ok ?_⟩ (by omega)⟩
    · rw [LM'.lang u0 ok0]
      exact bne_iff_ne.mpr ne0
    · have z : accT M' 0 u = true := hu.2.1
      rw [LM'.lang u hu.1] at z
      exact bne_iff_ne.mp z
    · show accT M' 0 v = true
      rw [LM'.lang v ok]
      exact bne_iff_ne.mpr hv
end
end K46
set_option Elab.async false
set_option linter.all false
set_option maxRecDepth 100000
set_option maxHeartbeats 1600000
namespace K46
open PySem PySem.Spec PyProof.Rows L2
section
variable {P : Program} {w : World} {K : PySem.W.Frag} {mg : Str → Option Value} {base : Heap}
/-! ### heads -/
abbrev nmHeads : List Str := ["machine", "found", "waiting", "at", "letter", "following", "state"]
theorem scHeads : FnScope nmHeads ["machine"] (defScope (topS 24)) := C8.fnScope_by (by decide +kernel)
def spHeads (K : PySem.W.Frag) : Sp := fun vs H Q _ => ∃ (x : Str) (m : Addr) (M : Mach), vs = [.ref m] ∧ MachK K H m x M ∧ Wf x.cps.size M ∧ Ltr x ∧ (∀ i, i < M.acc.length → ∃ v, okW x.cps.size v ∧ runT M.tab 0 v = i) ∧
  ∀ H' p (hw : Nat → List Nat), Same H H' → H' p = some (.lst ((List.range M.acc.length).map fun s => V.str (txt x (hw s)))) → (∀ s, s < M.acc.length → First x.cps.size (fun u => runT M.tab 0 u = s) (hw s) ∧ (hw s).length < M.acc.length) → Q (.ref p) H'
theorem cal_heads (T : Tx K mg) : C8.Cal P w K mg base 1 "heads" (spHeads K) [] := by
  refine cal_of T (i := 24) 13 rfl (by decide +kernel) scHeads (fun _ _ _ _ _ _ us hl => match us, hl with | [_], _ => rfl) (fun vs H Q E h => ?_) (fun f cdv A outer s H vs Q E hr h => ?_)
  · obtain ⟨x, m, M, rfl, _⟩ := h
    rfl
  · obtain ⟨x, m, M, rfl, hM, W, L, hrea, q⟩ := h
    have hu := hu_of hr
    refine ⟨_, pss_cons (ps_set (i := 1) scHeads.nd rfl (.inr rfl) (pe_disp (pps_cons pe_int pe_str pps_nil) (by rfl) (by rfl) (fun z => by cases z) (by decide)))
      (pss_cons (ps_set (i := 2) scHeads.nd rfl (.inl rfl) (pe_lst (pa_cons pe_int pa_nil)))
      (pss_cons (ps_set (i := 3) scHeads.nd rfl (.inl rfl) pe_int)
      (pss_cons (ps_while PassesOwn.never (pt_cmpR op_lt (pv 3) (pe_callB (lenB K) (by rfl) (T.b "len" (by decide +kernel)) PySem.boot_len (pa_cons (pv 2) pa_nil)) (nomark _))
        (pss_cons (ps_for PassesOwn.never rfl (pi_zipS (by rfl) (T.b "zip" (by decide +kernel)) (pa_cons (pe_fld (pv 0) rfl) (pa_cons (pe_ix (ixB K) (pe_fld (pv 0) rfl) (pe_ix (ixB K) (pv 2) (pv 3) (fun _ _ => rfl)) (fun _ _ => rfl)) pa_nil))) (g := gTup K 2 (gCons (gName 4) (gCons (gName 5) gNil))) (pg_tup rfl (pgs_cons (pg_name (i := 4) scHeads.nd rfl (Or.inl rfl)) (pgs_cons (pg_name (i := 5) scHeads.nd rfl (Or.inl rfl)) pgs_nil)))
          (pss_one (ps_if (pt_cmp (pc_dnotin hu (pv 5) (pv 1)))
            (pss_cons (ps_dput hu (pv 1) (pv 5) (pe_op op_add_str (pe_dget hu (pv 1) (pe_ix (ixB K) (pv 2) (pv 3) (fun _ _ => rfl)) (fun _ _ => rfl)) (pv 4)) rfl)
              (pss_one (ps_expr (pe_bm PySem.F.plainAttrs_list PySem.F.slot_list_append PySem.F.type_list_append mt_append (pv 2) (pa_cons (pv 5) pa_nil))))) pss_nil)))
        (pss_one (ps_set (i := 3) scHeads.nd rfl (.inl rfl) (pe_op op_add (pv 3) pe_int)))))
      (pss_one (ps_ret (pe_lc (own := [("state", 6)]) (g := gName 6) (tt := tYes) rfl scHeads.nd (pi_range1 (by rfl) (T.b "range" (by decide +kernel)) (pa_cons (pe_callB (lenB K) (by rfl) (T.b "len" (by decide +kernel)) PySem.boot_len (pa_cons (pe_fld (pv 0) rfl) pa_nil)) pa_nil)) (blkOk_by (N := nmHeads) (sc := defScope (topS 24)) (by decide +kernel))
            (fun _ _ _ _ _ => pg_name (i := 6) scHeads.nd rfl (Or.inl rfl)) (fun _ _ _ _ _ => pts_nil) (fun _ _ _ _ _ => pe_dget hu (pv 1) (pv 6) (fun _ _ => rfl)))))))), ?_⟩
    obtain ⟨dx, a', t, hp, hA, hT⟩ := id hM
    refine fun D hD => ⟨upd_same, [(kI 0, .str "")], rfl, (by show 1 ≤ 15; decide), ?_⟩
    rw [upd_upd]
    refine ⟨by show 1 ≤ sizeLine; decide, fun Wt hW => ?_⟩
    have I0 : BfI x M H _ D Wt [0] [[]] 0 0 := BfI.start W hD hW
    have hyp : upd (upd H D (.dK [(kI 0, .str (txt x []))])) Wt (.lst [nV 0]) = upd (upd H D (.dK (mergeK [] [(kI 0, .str "")]))) Wt (.lst [.int 0]) := rfl
    rw [hyp] at I0
    generalize upd (upd H D (.dK (mergeK [] [(kI 0, .str "")]))) Wt (.lst [.int 0]) = H1 at I0 ⊢
    clear hyp hW
    refine while_by (fun σ H1 => ∃ (l : List Nat) (tx : List (List Nat)) (at_ : Nat) (y4 y5 : Option V), σ = [some (.ref m), some (.ref D), some (.ref Wt), some (nV at_), y4, y5, none] ∧ BfI x M H H1 D Wt l tx at_ 0 ∧ at_ ≤ l.length)
      (fun σ _ => M.acc.length + 1 - (sI 3 σ).toNat) ⟨_, _, 0, none, none, rfl, I0, Nat.zero_le _⟩ (fun σ H1 hP => ?_) (fun σ H Q Q' m q => ?_)
    · obtain ⟨l, tx, at_, y4, y5, rfl, I, hat⟩ := hP
      have hln := I.few
      refine ⟨_, rfl, _, rfl, true, _, _, rfl, .lst I.eW, _, _, rfl, rfl, _, rfl, ?_⟩
      rw [List.length_map]
      refine ite2 (fun c => ?_) (fun c => ?_)
      · have c1 : at_ < l.length := by
          have : (at_ : Int) < (l.length : Int) := of_decide_eq_true c
          omega
        have hs := List.getElem?_eq_getElem c1
        have hq := I.lt _ (List.getElem_mem c1)
        generalize l[at_] = st at hs hq
        have c2 : at_ < tx.length := by rw [I.B.len]; exact c1
        have ht := List.getElem?_eq_getElem c2
        generalize tx[at_] = tt at ht
        obtain ⟨rs, r, row, h1, h2, h3, h4, h5, h6⟩ := hT.row W.tb hq
        refine ⟨_, rfl, _, _, _, _, _, rfl, I.sm _ _ hp, T.cl, T.nL, rfl, _, rfl, _, _, _, _, _, rfl, I.sm _ _ hp, T.cl, T.nT, rfl, _, rfl, _, rfl, true, _, _, _, _, rfl, rfl, .lst I.eW, atI_nat (by rw [List.getElem?_map, hs]; rfl), false, _, _, _, _, rfl, rfl, h1.same I.sm, atI_nat h2, x, r, row.map nV, rfl, h3.same I.sm, for_zipS (ys := row.map nV) (by rw [List.length_map, h4]) (fun j σ H2 => ∃ (l2 : List Nat) (tx2 : List (List Nat)) (y4 y5 : Option V), σ = [some (.ref m), some (.ref D), some (.ref Wt), some (nV at_), y4, y5, none] ∧ BfI x M H H2 D Wt l2 tx2 at_ j ∧ l2[at_]? = some st ∧ tx2[at_]? = some tt ∧ ∃ z, l2 = l ++ z)
          ⟨l, tx, y4, y5, rfl, I, hs, ht, [], by simp⟩ (fun i σ H2 hP => ?_) (fun i c0 y Tp σ H2 hc0 hy hP hTp => ?_) (fun σ H2 hP => ?_)⟩
        · obtain ⟨_, _, _, _, _, I2, _⟩ := hP
          exact h3.same I2.sm
        · obtain ⟨l2, tx2, y4, y5, rfl, I2, hs2, ht2, z, hz⟩ := hP
          have hi : i < x.cps.size := (Array.getElem?_eq_some_iff.mp hc0).1
          have hy2 : y = nV (nxt M.tab st i) := by
            rw [List.getElem?_map, h6 i hi] at hy
            exact (Option.some.inj hy).symm
          subst hy2
          have I3 := I2.keep (same_upd (o := .tup [.str ⟨#[c0]⟩, nV (nxt M.tab st i)]) hTp)
          have eT : upd H2 Tp (.tup [.str ⟨#[c0]⟩, nV (nxt M.tab st i)]) Tp = some (.tup [.str ⟨#[c0]⟩, nV (nxt M.tab st i)]) := upd_same
          generalize upd H2 Tp (.tup [.str ⟨#[c0]⟩, nV (nxt M.tab st i)]) = H3 at I3 eT ⊢
          refine ⟨Tp, _, rfl, SqT.of eT, rfl, _, _, rfl, _, _, rfl, rfl, ?_⟩
          refine ⟨_, rfl, _, rfl, D, _, rfl, DGet.k (k := kI (nxt M.tab st i)) I3.eD, _, rfl, ?_⟩
          have few2 := I3.few
          have wf := W.few
          by_cases hm : nxt M.tab st i ∈ l2
          · obtain ⟨j, hj⟩ := List.mem_iff_getElem?.mp hm
            have hj2 : j < tx2.length := by rw [I3.B.len]; exact (List.getElem?_eq_some_iff.mp hj).1
            rw [txL_some I3.B.len I3.B.nd hj (List.getElem?_eq_getElem hj2)]
            exact iteF ⟨l2, tx2, _, _, rfl, I3.old hs2 hm, hs2, ht2, z, hz⟩
          · rw [txL_none I3.B.len hm]
            have hg2 : DGet H3 D (nV st) (some (.str (txt x tt))) := by
              have z := DGet.k (k := kI st) I3.eD
              rw [txL_some I3.B.len I3.B.nd hs2 ht2] at z
              exact z
            have tl : tt.length ≤ at_ := I3.ln at_ tt ht2
            have hatl := (List.getElem?_eq_some_iff.mp hs2).1
            refine iteT ⟨_, rfl, _, rfl, _, rfl, true, _, _, _, _, rfl, rfl, .lst I3.eW, atI_nat (by rw [List.getElem?_map, hs2]; rfl), D, _, rfl, hg2, _, rfl, _, _, rfl, rfl, ?_, ?_⟩
            · show (txt x tt).length + 1 ≤ sizeLine
              rw [txt_len, sizeLine_eq]
              omega
            · rw [txt_one hc0, txt_app]
              have dp := DPut.k (k := kI (nxt M.tab st i)) (v := .str (txt x (tt ++ [i]))) I3.eD (by rw [txL_len I3.B.len, sizeLine_eq]; omega)
              rw [txL_snoc I3.B.len hm] at dp
              have eW3 : upd H3 D (.dK (txL x (l2 ++ [nxt M.tab st i]) (tx2 ++ [tt ++ [i]]))) Wt = some (.lst (l2.map nV)) := (upd_ne I3.nDW.symm).trans I3.eW
              have I4 := I3.new W hi hs2 ht2 hm
              rw [List.map_append] at I4
              exact ⟨_, rfl, _, rfl, D, _, rfl, dp, _, rfl, .inl ⟨rfl, _, SqL.of eW3⟩, _, rfl, Wt, _, _, rfl, rfl, eW3, by rw [List.length_map, sizeLine_eq]; omega, _, _, _, _, rfl, I4, app_l hs2, app_l ht2, z ++ [nxt M.tab st i], by rw [hz, List.append_assoc]⟩
        · obtain ⟨l2, tx2, y4, y5, rfl, I2, hs2, ht2, z, hz⟩ := hP
          rw [List.length_map, h4] at I2
          have len2 : l.length ≤ l2.length := by rw [hz, List.length_append]; omega
          refine ⟨_, rfl, _, _, rfl, rfl, ⟨l2, tx2, at_ + 1, _, _, rfl, I2.next, by omega⟩, ?_⟩
          show M.acc.length + 1 - ((at_ : Int) + 1).toNat < M.acc.length + 1 - ((at_ : Int)).toNat
          omega
      · have c1 : ¬ (at_ : Int) < (l.length : Int) := fun z => c (decide_eq_true z)
        have ea : at_ = l.length := by omega
        subst ea
        obtain ⟨rs, g1, g2, g3⟩ := hT
        -- every state has a text
        have ex : ∀ s, s < M.acc.length → ∃ (j : Nat) (v : List Nat), l[j]? = some s ∧ tx[j]? = some v := fun s hs => by
          obtain ⟨u, ok, hu⟩ := hrea s hs
          obtain ⟨j, v, e1, e2, _⟩ := I.B.all u ok
          have e3 : runS (nxt M.tab) 0 u = s := hu
          rw [e3] at e1
          exact ⟨j, v, e1, e2⟩
        have ex2 : ∃ hw : Nat → List Nat, ∀ s, s < M.acc.length → ∃ j : Nat, l[j]? = some s ∧ tx[j]? = some (hw s) := by
          refine ⟨fun s => if h : s < M.acc.length then (ex s h).choose_spec.choose else [], fun s hs => ?_⟩
          refine ⟨(ex s hs).choose, ?_⟩
          show _ ∧ tx[(ex s hs).choose]? = some (if h : s < M.acc.length then (ex s h).choose_spec.choose else [])
          rw [dif_pos hs]
          exact (ex s hs).choose_spec.choose_spec
        obtain ⟨hw, hhw⟩ := ex2
        have wf := W.few
        refine ⟨_, rfl, _, _, _, _, _, rfl, I.sm _ _ hp, T.cl, T.nT, rfl, false, _, _, rfl, g1.same I.sm, _, rfl, ?_⟩
        have elen : (rs.map V.ref).length = M.acc.length := by rw [List.length_map, g2, W.len]
        rw [elen]
        refine ⟨by omega, by omega, fun E hE => lc_pure (wk_range 0 _) (fun s => .str (txt x (hw s))) (by omega) (fun _ _ _ => trivial) (fun i v acc hi hv H2 e2 => ?_) ?_ (fun σ H Q Q' m q => ?_) (fun _ _ _ _ _ m q => m _ _ q)⟩
        · have hi2 : i < M.acc.length := by omega
          have hv2 : v = nV i := by
            rw [hv]
            show V.int (0 + (i : Int)) = V.int (i : Int)
            rw [Int.zero_add]
          subst hv2
          obtain ⟨j, e1, e3⟩ := hhw i hi2
          have s2 : Same H1 H2 := by rw [e2]; exact same_upd hE
          refine ⟨rfl, _, rfl, _, rfl, D, _, rfl, ?_, e2, rfl⟩
          have z := DGet.k (k := kI i) (s2 _ _ I.eD)
          rw [txL_some I.B.len I.B.nd e1 e3] at z
          exact z
        · refine q _ E hw (I.sm.trans (same_upd hE)) ?_ fun s hs => ?_
          · rw [upd_same]
            simp
          · obtain ⟨j, e1, e3⟩ := hhw s hs
            obtain ⟨r1, r2⟩ := I.B.run j s _ e1 e3
            have := I.ln j _ e3
            have := (List.getElem?_eq_some_iff.mp e1).1
            exact ⟨⟨r1, r2, fun v ok hv => I.B.lst j s _ e1 e3 v ok hv⟩, by omega⟩
        · obtain ⟨v1, e1, v2, e2, a, v, e3, e4, e5⟩ := q
          exact ⟨v1, e1, v2, e2, a, v, e3, e4, m _ _ e5⟩
    · obtain ⟨v1, e1, v2, e2, b, p, ys, e3, e4, i, j, e5, e6, c, e7, h⟩ := q
      exact ⟨v1, e1, v2, e2, b, p, ys, e3, e4, i, j, e5, e6, c, e7, m _ _ h⟩
end
end K46
set_option Elab.async false
set_option linter.all false
set_option maxRecDepth 100000
set_option maxHeartbeats 1600000
namespace K46
open PySem PySem.Spec PyProof.Rows L2 NdefX LamX
/-! ### words as texts -/
theorem txt_inj {x : Str} (L : Ltr x) : ∀ {u v : List Nat}, okW x.cps.size u → okW x.cps.size v → txt x u = txt x v → u = v := by
  have core : ∀ (u v : List Nat), okW x.cps.size u → okW x.cps.size v → u.map (fun i => x.cps.toList.getD i 0) = v.map (fun i => x.cps.toList.getD i 0) → u = v := by
    intro u
    induction u with
    | nil =>
      intro v _ _ e
      cases v with
      | nil => rfl
      | cons b v => simp at e
    | cons a u ih =>
      intro v hu hv e
      cases v with
      | nil => simp at e
      | cons b v =>
        rw [List.map_cons, List.map_cons] at e
        injection e with e1 e2
        have h1 := ltr_get (hu a List.mem_cons_self)
        have h2 := ltr_get (hv b List.mem_cons_self)
        rw [e1] at h1
        have := nd_ix L.nd h1 h2
        rw [this, ih v (fun c h => hu c (List.mem_cons_of_mem _ h)) (fun c h => hv c (List.mem_cons_of_mem _ h)) e2]
  intro u v hu hv e
  refine core u v hu hv ?_
  unfold txt at e
  injection e with e
  exact congrArg Array.toList e |> fun z => by simpa using z
/-- a dict of texts -/
def strD (x : Str) (L : List (List Nat)) : List (Key × V) := L.map fun u => ((Sum.inr (txt x u) : Key), V.bl true)
def insW (L : List (List Nat)) (u : List Nat) : List (List Nat) := if u ∈ L then L else L ++ [u]
theorem insW_mem {L : List (List Nat)} {u v : List Nat} : v ∈ insW L u ↔ v ∈ L ∨ v = u := by
  unfold insW
  by_cases h : u ∈ L
  · rw [if_pos h]
    exact ⟨.inl, fun z => z.elim id fun z => by rw [z]; exact h⟩
  · rw [if_neg h, List.mem_append, List.mem_singleton]
theorem insW_nd {L : List (List Nat)} {u : List Nat} (h : L.Nodup) : (insW L u).Nodup := by
  unfold insW
  by_cases c : u ∈ L
  · rw [if_pos c]
    exact h
  · rw [if_neg c]
    exact nodup_snoc h c
theorem insW_len (L : List (List Nat)) (u : List Nat) : (insW L u).length ≤ L.length + 1 := by
  unfold insW
  by_cases c : u ∈ L
  · rw [if_pos c]
    omega
  · rw [if_neg c, List.length_append]
    exact Nat.le_refl _
theorem strD_put {x : Str} (Lt : Ltr x) {L : List (List Nat)} {u : List Nat} (hL : ∀ v ∈ L, okW x.cps.size v) (hu : okW x.cps.size u) : putK (strD x L) (Sum.inr (txt x u)) (.bl true) = strD x (insW L u) := by
  have hm : (Sum.inr (txt x u) : Key) ∈ (strD x L).map (·.1) ↔ u ∈ L := by
    unfold strD
    rw [List.map_map, List.mem_map]
    constructor
    · rintro ⟨v, hv, e⟩
      rw [← txt_inj Lt (hL v hv) hu (Sum.inr.inj e)]
      exact hv
    · exact fun h => ⟨u, h, rfl⟩
  unfold insW
  by_cases c : u ∈ L
  · rw [if_pos c]
    unfold putK
    rw [valV_any]
    have hs : (valV (strD x L) (Sum.inr (txt x u))).isSome = true := by
      rw [← valV_any, List.any_eq_true]
      exact ⟨((Sum.inr (txt x u) : Key), V.bl true), List.mem_map.mpr ⟨u, c, rfl⟩, decide_eq_true rfl⟩
    rw [if_pos hs]
    have : ∀ p ∈ strD x L, (if p.1 = Sum.inr (txt x u) then (p.1, V.bl true) else p) = p := fun p hp => by
      obtain ⟨v, _, rfl⟩ := List.mem_map.mp hp
      by_cases z : (Sum.inr (txt x v) : Key) = Sum.inr (txt x u)
      · exact if_pos z
      · exact if_neg z
    rw [List.map_congr_left this, List.map_id']
  · rw [if_neg c, putK_new _ (valV_no fun z => c (hm.mp z))]
    unfold strD
    rw [List.map_append]
    rfl
theorem strD_keys (x : Str) (L : List (List Nat)) : (strD x L).map (fun kv => kV kv.1) = L.map fun u => V.str (txt x u) := by
  unfold strD
  rw [List.map_map]
  rfl
theorem ex_store {K : PySem.W.Frag} {H0 H : Hp} {D : Addr} {kvs kvs' : List (Key × V)} (s : Ex K H0 H) (h0 : H0 D = none) (e : H D = some (.dK kvs)) : Ex K H0 (upd H D (.dK kvs')) where
  ext := fun b o h n => by
    rw [upd_ne (ne_of_none h h0)]
    exact s.ext b o h n
  new := fun b h => by
    obtain ⟨h1, _⟩ := upd_none h
    exact s.new b h1
  tab := fun t p hp => by
    obtain ⟨ps, h1, h2, h3⟩ := s.tab t p hp
    refine ⟨ps, (upd_ne (ne_of h1 e fun z => by cases z)).trans h1, h2, fun pos cv hc => ?_⟩
    obtain ⟨c, e1, e2⟩ := h3 pos cv hc
    exact ⟨c, e1, (upd_ne (ne_of e2 e fun z => by unfold CodeO at z; cases z)).trans e2⟩
/-! ### tails -/
def TailW (k : Nat) (M : Mach) (u : List Nat) : Prop := (M.acc.length ≤ 1 ∧ u = []) ∨ ∃ i j, i < j ∧ j < M.acc.length ∧ First k (fun u => accT M i u ≠ accT M j u) u
abbrev nmTails : List Str := ["machine", "found", "second", "first"]
theorem scTails : FnScope nmTails ["machine"] (defScope (topS 25)) := C8.fnScope_by (by decide +kernel)
def spTails (K : PySem.W.Frag) : Sp := fun vs H Q _ => ∃ (x : Str) (m : Addr) (M : Mach), vs = [.ref m] ∧ MachK K H m x M ∧ Wf x.cps.size M ∧ Ltr x ∧ M.acc.length ≤ 7 ∧ TabsN (TT K) H ∧ (∀ i j, i < M.acc.length → j < M.acc.length → Eqv x.cps.size M i j → i = j) ∧
  ∀ H' p (L : List (List Nat)), Ex K H H' → H' p = some (.lst (L.map fun u => V.str (txt x u))) → L.Nodup → L.length ≤ 50 → (∀ u ∈ L, okW x.cps.size u ∧ u.length < 64) → (∀ u, u ∈ L ↔ TailW x.cps.size M u) → Q (.ref p) H'
section
variable {P : Program} {w : World} {K : PySem.W.Frag} {mg : Str → Option Value} {base : Heap}
theorem cal_tails (T : Tx K mg) (TB : TBs K mg base) : C8.Cal P w K mg base 8 "tails" (spTails K) [] := by
  refine cal_of T (i := 25) 14 rfl (by decide +kernel) scTails (fun _ _ _ _ _ _ us hl => match us, hl with | [_], _ => rfl) (fun vs H Q E h => ?_) (fun f cdv A outer s H vs Q E hr h => ?_)
  · obtain ⟨x, m, M, rfl, _⟩ := h
    rfl
  · obtain ⟨x, m, M, rfl, hM, W, L, hn, hTT, red, q⟩ := h
    have hu := hu_of hr
    refine ⟨_, pss_cons (ps_set (i := 1) scTails.nd rfl (.inl rfl) pe_dnewK)
      (pss_cons (ps_for PassesOwn.never rfl (pi_range1 (by rfl) (T.b "range" (by decide +kernel)) (pa_cons (pe_callB (lenB K) (by rfl) (T.b "len" (by decide +kernel)) PySem.boot_len (pa_cons (pe_fld (pv 0) rfl) pa_nil)) pa_nil)) (pg_name (i := 2) scTails.nd rfl (.inl rfl))
        (pss_one (ps_for PassesOwn.never rfl (pi_range1 (by rfl) (T.b "range" (by decide +kernel)) (pa_cons (pv 2) pa_nil)) (pg_name (i := 3) scTails.nd rfl (.inl rfl))
          (pss_one (ps_dput hu (pv 1) (C8.pe_c (cal_parting T TB) hr (by decide) (by rfl) (pa_cons (C8.pe_c (cal_since T TB) hr (by decide) (by rfl) (pa_cons (pv 0) (pa_cons (pv 3) pa_nil))) (pa_cons (C8.pe_c (cal_since T TB) hr (by decide) (by rfl) (pa_cons (pv 0) (pa_cons (pv 2) pa_nil))) pa_nil))) pe_bl rfl)))))
      (pss_one (ps_ret (pe_ifExp (pt_truth (pv 1) (fun _ => rfl)) (pe_callTy (T := "list") (call_listD rfl) (by rfl) (T.b "list" (by decide +kernel)) (by decide +kernel) (pa_cons (pv 1) pa_nil)) (pe_lst (pa_cons pe_str pa_nil)))))), ?_⟩
    obtain ⟨dx, a', t, hp, hA, hT⟩ := id hM
    obtain ⟨rs, g1, g2, g3⟩ := hT
    refine fun D hD => ?_
    have x0 : Ex K H (upd H D (.dK [])) := .of (same_upd hD)
    refine ⟨_, rfl, _, _, _, _, _, rfl, (same_upd hD) _ _ hp, T.cl, T.nT, rfl, false, _, _, rfl, g1.same (same_upd hD), _, rfl, ?_⟩
    have elen : (rs.map V.ref).length = M.acc.length := by rw [List.length_map, g2, W.len]
    rw [elen]
    have hpos := W.pos
    refine ⟨by omega, by omega, for_by (wk_range 0 _) (fun j σ H1 => ∃ (L' : List (List Nat)) (y2 y3 : Option V), σ = [some (.ref m), some (.ref D), y2, y3] ∧ Ex K H H1 ∧ H1 D = some (.dK (strD x L')) ∧ L'.Nodup ∧ (2 ≤ j → L' ≠ []) ∧ L'.length ≤ j * 7 ∧ (∀ u ∈ L', okW x.cps.size u ∧ u.length < 64) ∧ ∀ u, u ∈ L' ↔ ∃ i1 i2, i1 < i2 ∧ i2 < j ∧ First x.cps.size (fun u => accT M i1 u ≠ accT M i2 u) u)
      ⟨[], none, none, rfl, x0, upd_same, List.nodup_nil, fun h => by omega, Nat.zero_le _, fun u h => (by cases h), fun u => ⟨fun h => (by cases h), fun ⟨_, _, _, h, _⟩ => absurd h (Nat.not_lt_zero _)⟩⟩ (fun _ _ _ _ _ => trivial) (fun j v σ H1 hj hv hP => ?_) (fun σ H1 hP => ?_)⟩
    · obtain ⟨L', y2, y3, rfl, x1, eD, nd, nn, len, okL, mem⟩ := hP
      have hv2 : v = nV j := by
        rw [hv]
        show V.int (0 + (j : Int)) = V.int (j : Int)
        rw [Int.zero_add]
      subst hv2
      refine ⟨_, rfl, _, rfl, by omega, by omega, ?_⟩
      have hj2 : j < M.acc.length := by omega
      refine for_by (wk_range 0 _) (fun i σ H1 => ∃ (L' : List (List Nat)) (y3 : Option V), σ = [some (.ref m), some (.ref D), some (nV j), y3] ∧ Ex K H H1 ∧ H1 D = some (.dK (strD x L')) ∧ L'.Nodup ∧ (1 ≤ i ∨ 2 ≤ j → L' ≠ []) ∧ L'.length ≤ j * 7 + i ∧ (∀ u ∈ L', okW x.cps.size u ∧ u.length < 64) ∧ ∀ u, u ∈ L' ↔ (∃ i1 i2, i1 < i2 ∧ i2 < j ∧ First x.cps.size (fun u => accT M i1 u ≠ accT M i2 u) u) ∨ ∃ i1, i1 < i ∧ First x.cps.size (fun u => accT M i1 u ≠ accT M j u) u)
        ⟨L', y3, rfl, x1, eD, nd, fun h => nn (by omega), by omega, okL, fun u => (mem u).trans ⟨.inl, fun h => h.elim id fun ⟨_, h, _⟩ => absurd h (Nat.not_lt_zero _)⟩⟩ (fun _ _ _ _ _ => trivial) (fun i v σ H1 hi hv hP => ?_) (fun σ H1 hP => ?_)
      · obtain ⟨L', y3, rfl, x1, eD, nd, nn, len, okL, mem⟩ := hP
        have hv2 : v = nV i := by
          rw [hv]
          show V.int (0 + (i : Int)) = V.int (i : Int)
          rw [Int.zero_add]
        subst hv2
        have hij : i < j := by omega
        have hi2 : i < M.acc.length := by omega
        have nR : ¬ ∀ v, okW x.cps.size v → accT M i v = accT M j v := fun z => by
          have := red i j hi2 hj2 z
          omega
        obtain ⟨u0, hu0⟩ := Classical.not_forall.mp nR
        obtain ⟨ok0, ne0⟩ := Classical.not_imp.mp hu0
        refine ⟨_, rfl, _, rfl, _, rfl, ⟨x, m, M, i, rfl, hM.vw x1.vw, W, L, hi2, by omega, x1.tab hTT, fun H2 p1 M1 x2 hM1 L1 len1 => ?_⟩⟩
        have x12 := x1.trans x2
        refine ⟨_, rfl, _, rfl, ⟨x, m, M, j, rfl, hM.vw x12.vw, W, L, hj2, by omega, x12.tab hTT, fun H3 p2 M2 x3 hM2 L2 len2 => ?_⟩⟩
        have x13 := x12.trans x3
        have hprod : M1.acc.length * M2.acc.length < 64 := by
          have h1 : M1.acc.length * M2.acc.length ≤ 7 * 7 := Nat.mul_le_mul (by omega) (by omega)
          omega
        refine ⟨x, p1, p2, M1, M2, rfl, hM1.vw x3.vw, hM2, L1.wf, L2.wf, L, hprod, x13.tab hTT, ⟨u0, ok0, by rw [L1.lang u0 ok0, L2.lang u0 ok0]; exact ne0⟩, fun H4 u x4 hu4 hul => ?_⟩
        have x14 := x13.trans x4
        have hF : First x.cps.size (fun u => accT M i u ≠ accT M j u) u := ⟨hu4.1, by
          have z : accT M1 0 u ≠ accT M2 0 u := hu4.2.1
          rw [L1.lang u hu4.1, L2.lang u hu4.1] at z
          exact z, fun v ok hv => hu4.2.2 v ok (by show accT M1 0 v ≠ accT M2 0 v; rw [L1.lang v ok, L2.lang v ok]; exact hv)⟩
        have eD4 : H4 D = some (.dK (strD x L')) := ((x2.trans x3).trans x4).ext D _ eD fun _ z => by cases z
        have slen : (strD x L').length < sizeLine := by
          unfold strD
          rw [List.length_map, sizeLine_eq]
          have : j * 7 ≤ 7 * 7 := Nat.mul_le_mul_right 7 (by omega)
          omega
        have dp := DPut.k (k := Sum.inr (txt x u)) (v := .bl true) eD4 slen
        rw [strD_put L (fun v hv => (okL v hv).1) hF.1] at dp
        refine ⟨D, _, rfl, dp, insW L' u, _, rfl, ex_store x14 hD eD4, upd_same, insW_nd nd, (fun _ z => by have h := insW_mem (L := L') (u := u) (v := u) |>.mpr (.inr rfl); rw [z] at h; cases h), Nat.le_trans (insW_len L' u) (by omega), fun v hv => ?_, fun v => ?_⟩
        · rcases insW_mem.mp hv with z | z
          · exact okL v z
          · rw [z]
            exact ⟨hF.1, hul⟩
        · rw [insW_mem, mem]
          constructor
          · rintro ((h | ⟨i1, h1, h2⟩) | h)
            · exact .inl h
            · exact .inr ⟨i1, by omega, h2⟩
            · rw [h]
              exact .inr ⟨i, by omega, hF⟩
          · rintro (h | ⟨i1, h1, h2⟩)
            · exact .inl (.inl h)
            · rcases Nat.lt_or_ge i1 i with z | z
              · exact .inl (.inr ⟨i1, z, h2⟩)
              · have e : i1 = i := by omega
                subst e
                exact .inr (h2.uniq hF)
      · obtain ⟨L', y3, rfl, x1, eD, nd, nn, len, okL, mem⟩ := hP
        refine ⟨L', _, _, rfl, x1, eD, nd, fun h => nn (by omega), by omega, okL, fun u => (mem u).trans ?_⟩
        constructor
        · rintro (⟨i1, i2, h1, h2, h3⟩ | ⟨i1, h1, h2⟩)
          · exact ⟨i1, i2, h1, by omega, h3⟩
          · exact ⟨i1, j, by omega, by omega, h2⟩
        · rintro ⟨i1, i2, h1, h2, h3⟩
          rcases Nat.lt_or_ge i2 j with z | z
          · exact .inl ⟨i1, i2, h1, z, h3⟩
          · have e : i2 = j := by omega
            subst e
            exact .inr ⟨i1, by omega, h3⟩
    · obtain ⟨L', y2, y3, rfl, x1, eD, nd, nn, len, okL, mem⟩ := hP
      have en : ((M.acc.length : Nat) : Int).toNat = M.acc.length := Int.toNat_natCast _
      rw [en] at len mem
      refine ⟨_, rfl, !(strD x L').isEmpty, .inr (.inr ⟨_, eD, rfl⟩), ?_⟩
      cases L' with
      | nil =>
        refine iteF ⟨by show 1 ≤ sizeLine; decide, fun p hp => q _ p [[]] (x1.trans (.of (same_upd hp))) (by rw [upd_same]; rfl) (by simp) (by show 1 ≤ 50; decide) (fun u h => by rw [List.mem_singleton.mp h]; exact ⟨fun _ h => (by cases h), (by show 0 < 64; decide)⟩) fun u => ?_⟩
        have no : M.acc.length ≤ 1 := Nat.le_of_not_lt fun h => nn (by omega) rfl
        rw [List.mem_singleton]
        constructor
        · exact fun h => .inl ⟨no, h⟩
        · rintro (⟨_, h⟩ | ⟨i1, i2, h1, h2, _⟩)
          · exact h
          · omega
      | cons u0 L' =>
        have ne : (!(strD x (u0 :: L')).isEmpty) = true := rfl
        rw [ne]
        refine iteT ⟨_, rfl, D, _, rfl, .inl eD, fun p hp => q _ p (u0 :: L') (x1.trans (.of (same_upd hp))) (by rw [upd_same, strD_keys]) nd (by omega) okL fun u => ?_⟩
        obtain ⟨i1, i2, h1, h2, _⟩ := (mem u0).mp List.mem_cons_self
        rw [mem]
        constructor
        · exact .inr
        · rintro (⟨h, _⟩ | h)
          · omega
          · exact h
end
end K46
set_option Elab.async false
set_option linter.all false
set_option maxRecDepth 100000
set_option maxHeartbeats 1600000
namespace K46
open PySem PySem.Spec PyProof.Rows L2
/-! ### the order of the keys -/
def keyM (u : List Nat) : Mark := ((u.length : Int), u.map fun i => ((i : Nat) : Int))
theorem lt_lx : ∀ {u v : List Nat}, u.length = v.length → ((u.map fun i => ((i : Nat) : Int)) < (v.map fun i => ((i : Nat) : Int)) ↔ lx u v)
  | [], [], _ => by simp [lx]
  | a :: u, b :: v, h => by
    have h' : u.length = v.length := by simpa using h
    rw [List.map_cons, List.map_cons, List.cons_lt_cons_iff, lt_lx h']
    show _ ↔ a < b ∨ (a = b ∧ lx u v)
    constructor
    · rintro (z | ⟨z, y⟩)
      · exact .inl (by omega)
      · exact .inr ⟨by omega, y⟩
    · rintro (z | ⟨z, y⟩)
      · exact .inl (by omega)
      · exact .inr ⟨by omega, y⟩
theorem key_lt (u v : List Nat) : PySem.W.dataLt (encM (keyM u)) (encM (keyM v)) = true ↔ slx u v := by
  have e1 : encM (keyM u) = .tuple [.int (u.length : Int), .tuple ((keyM u).2.map .int)] := rfl
  have e2 : encM (keyM v) = .tuple [.int (v.length : Int), .tuple ((keyM v).2.map .int)] := rfl
  have al : PySem.W.alike (.tuple ((keyM u).2.map .int)) (.tuple ((keyM v).2.map .int)) = true := by simp [PySem.W.alike, PySem.W.alike_ints]
  rw [e1, e2, PySem.W.dataLt_pair (by simp [PySem.W.alike]) al, PySem.W.dataLt_int]
  have eT : PySem.W.dataLt (.tuple ((keyM u).2.map .int)) (.tuple ((keyM v).2.map .int)) = decide ((keyM u).2 < (keyM v).2) := by
    rw [PySem.W.dataLt_tuple]
    exact PySem.W.dataLt_ints _ _
  by_cases h : (u.length : Int) = (v.length : Int)
  · have h' : u.length = v.length := by omega
    have q : PyData.eqv (.int (u.length : Int)) (.int (v.length : Int)) = true := by simp [PyData.eqv, h]
    rw [if_pos q]
    by_cases c : PyData.eqv (.tuple ((keyM u).2.map .int)) (.tuple ((keyM v).2.map .int)) = true
    · rw [if_pos c]
      have e3 := (PySem.W.toks_eqv _ _ al).1 c
      have e4 : PySem.W.dataLt (.tuple ((keyM u).2.map .int)) (.tuple ((keyM v).2.map .int)) = false := by
        unfold PySem.W.dataLt
        rw [e3]
        exact lex_irrefl _
      rw [eT] at e4
      constructor
      · intro z
        cases z
      · rintro (z | ⟨_, z⟩)
        · omega
        · exact absurd ((lt_lx h').mpr z) (of_decide_eq_false e4)
    · rw [if_neg c, eT, decide_eq_true_eq]
      exact (lt_lx h').trans ⟨fun z => .inr ⟨h', z⟩, fun z => z.elim (fun z => by omega) fun z => z.2⟩
  · have q : ¬ PyData.eqv (.int (u.length : Int)) (.int (v.length : Int)) = true := by simp [PyData.eqv, h]
    rw [if_neg q, decide_eq_true_eq]
    exact ⟨fun z => .inl (by omega), fun z => z.elim (fun z => by omega) fun z => by omega⟩
/-- what sorted leaves of L -/
theorem sort_words (L : List (List Nat)) (nd : L.Nodup) : (L.mergeSort (PySem.W.dataLe false fun u => encM (keyM u))).Pairwise slx ∧ (L.mergeSort (PySem.W.dataLe false fun u => encM (keyM u))).Perm L := by
  have le : ∀ a b, PySem.W.dataLe false (fun u => encM (keyM u)) a b = true ↔ sle a b := fun a b => by
    rw [PySem.W.dataLe_eq]
    show (!PySem.W.dataLt (encM (keyM b)) (encM (keyM a))) = true ↔ _
    rw [sle_not, Bool.not_eq_true', ← Bool.not_eq_true, key_lt]
  have pm := List.mergeSort_perm L (PySem.W.dataLe false fun u => encM (keyM u))
  refine ⟨?_, pm⟩
  have ps := List.pairwise_mergeSort (le := PySem.W.dataLe false fun u => encM (keyM u)) (fun a b c h1 h2 => (le _ _).mpr (sle_trans ((le _ _).mp h1) ((le _ _).mp h2))) (fun a b => by
    rcases slx_tot a b with z | z | z
    · rw [(le a b).mpr (.inr z), Bool.true_or]
    · rw [(le a b).mpr (.inl z), Bool.true_or]
    · rw [(le b a).mpr (.inr z), Bool.or_true]) L
  have nd2 : (L.mergeSort (PySem.W.dataLe false fun u => encM (keyM u))).Nodup := pm.nodup_iff.mpr nd
  have := List.pairwise_and_iff.mpr ⟨ps, nd2⟩
  exact this.imp fun h => by
    rcases (le _ _).mp h.1 with z | z
    · exact absurd z h.2
    · exact z
end K46
set_option Elab.async false
set_option linter.all false
set_option maxRecDepth 100000
set_option maxHeartbeats 1600000
namespace K46
open PySem PySem.Spec PyProof.Rows L2 NdefX LamX PySem.W
/-! ### list.sort(key=f), f a closure of ours -/
/-- one call of the key -/
def KeyCb (X : Cx) (pins : List (Addr × Obj)) (σ : L2.St) (x : Str) (f : Addr) (A : Around) (L : List (List Nat)) (H : Hp) : Prop := ∀ (H1 : Hp) (s1 : Shared) (u : List Nat) (v : Value), Same H H1 → Inv X pins σ H1 s1 → u ∈ L → RelV (.str (txt x u)) v →
  wpAny (model X.prog X.w) A (call (.ref f) [v]) (fun r s2 => ∃ H2 p, Inv X pins σ H2 s2 ∧ Same H1 H2 ∧ r = .ref p ∧ MarkH X.K H2 p (keyM u) ∧ ∀ b o, FpOk X pins H1 b → s1.heap.get? b = some o → s2.heap.get? b = some o ∧ H2 b = none) (fun _ _ => False) s1
section
variable {X : Cx} {pins : List (Addr × Obj)} {σ : L2.St} {H : Hp} {x : Str} {f : Addr} {A : Around} {L : List (List Nat)} {s : Shared} {E : Value → Shared → Prop}
theorem fpOk_next {H1 H2 : Hp} {b : Addr} (h : FpOk X pins H1 b) (h2 : H2 b = none) : FpOk X pins H2 b := ⟨h2, h.2⟩
/-- an object of ours is tracked from now on -/
theorem inv_adopt {a : Addr} {ob : HO} (I : Inv X pins σ H s) (fa : FpOk X pins H a) (new : ObjOk X.prog X.w (upd H a ob) s.heap a ob) : Inv X pins σ (upd H a ob) s := by
  have hn := fa.1
  refine I.step (h' := s.heap) (g' := s.gens) (t' := s.toks) (d' := s.drawn) (ch := [a]) (fun b hb => by rw [List.mem_singleton.mp hb]; exact ⟨fa.2.2.2.1, fa.2.1, fa.2.2.2.2.1, fa.2.2.2.2.2⟩) (fun b o _ _ _ e _ => e) (fun b o _ _ _ e _ => ⟨o.slots, e⟩)
    (fun b o hc e n => by rw [upd_ne (fun z => hc (by rw [z]; exact List.mem_singleton.mpr rfl))]; exact n) (fun b o _ e => ⟨o, e⟩) (fun b xs e => ?_) (fun b o u e => ?_) (fun b ps e => ⟨#[], ?_⟩) (fun m hm => hm) (fun b u e => ?_) I.bare
  · rw [upd_ne (ne_of_none e hn)]; exact e
  · rw [upd_ne (ne_of_none e hn)]; exact e
  · rw [upd_ne (ne_of_none e hn), e]; simp
  · by_cases hb : b = a
    · subst hb
      rw [upd_same] at e
      cases e
      exact new
    · rw [upd_ne hb] at e
      exact (I.hok b u e).stay (fun c v hc q => q) (fun c q => by rw [upd_ne (ne_of_none q hn)]; exact q) fun c xs q => by rw [upd_ne (ne_of_none q hn)]; exact q
/-- the heap without the object at k -/
def cut (h : Heap) (k : Addr) : Heap := h.update k fun _ => { cls := .none, data := .freed }
theorem cut_at {h : Heap} {k : Addr} : (cut h k).get? k = none := by
  cases h with
  | mk objs l =>
    show (match (objs.modify k fun _ => ({ cls := .none, data := .freed } : Obj))[k]? with
      | some ⟨_, _, .freed, _⟩ => none
      | o => o) = none
    rw [Array.getElem?_modify, if_pos rfl]
    cases objs[k]? <;> rfl
theorem cut_ne {h : Heap} {k b : Addr} (n : b ≠ k) : (cut h k).get? b = h.get? b := Heap.get?_update_ne _ _ _ _ n
theorem keyI_rest {kS a : Addr} {e1 : Nat} {vs : List Value} {us : List (List Nat)} {P : PySem.Fin → Shared → Prop} (nk : s.heap.get? kS = some (seqObj "list" #[] 0)) (na : s.heap.get? a = some (seqObj "list" #[] e1)) (hka : kS ≠ a)
    (I : Inv X pins σ H s) (fa : FpOk X pins H a) (fk : FpOk X pins H kS) (hv : EachIs (fun v u => RelV (.str (txt x u)) v) vs us) (hL : ∀ u ∈ us, u ∈ L) (hZ : vs.length ≤ sizeLine) (hu : A.units + 2 < cLine) (cb : KeyCb X pins σ x f A L H)
    (h : ∀ H' s' out c, Inv X pins σ H' s' → Same H H' → FpOk X pins H' a → s'.heap.get? a = some (seqObj "list" (List.toArray out) c) → KeyedOut false (us.map fun u => encM (keyM u)) vs out → P (.done (.ret .none)) s') :
    wpAny (model X.prog X.w) A (ksk_rest a (.ref f) false vs.toArray e1 (.ref kS)) P E s := by
  unfold ksk_rest
  refine wpAny_bind (wpAny_rule ?_)
  first
    | rw [List.forIn_toArray]
    | (rw [← Array.forIn_toList]; simp only [List.toList_toArray])
    | rw [← Array.forIn_toList]
  refine wpAny_bind (ksk_fold (fun i s' => ∃ H1 kA e, Inv X pins σ H1 s' ∧ Same H H1 ∧ FpOk X pins H1 a ∧ FpOk X pins H1 kS ∧ s'.heap.get? kS = some (seqObj "list" kA e) ∧ s'.heap.get? a = some (seqObj "list" #[] e1) ∧
      EachIs (fun (v : Value) (u : List Nat) => ∃ p, v = .ref p ∧ MarkH X.K H1 p (keyM u)) kA.toList (us.take i)) vs 0 s
    ⟨H, #[], 0, I, Same.refl H, fa, fk, nk, na, by rw [List.take_zero]; exact EachIs.nil⟩ ?step ?done)
  case step =>
    rintro j v s' hx ⟨H1, kA, e, I1, sm1, fa1, fk1, nk1, na1, hk⟩
    simp only [Nat.zero_add] at hk ⊢
    have hj : j < vs.length := (List.getElem?_eq_some_iff.mp hx).1
    have hl := hv.length
    have hj2 : j < us.length := by omega
    have hu1 := List.getElem?_eq_getElem hj2
    have hum : us[j] ∈ L := hL _ (List.getElem_mem hj2)
    have hrv : RelV (.str (txt x us[j])) v := hv.zip (v, us[j]) (List.mem_of_getElem? (i := j) (by rw [List.getElem?_zip_eq_some]; exact ⟨hx, hu1⟩))
    generalize us[j] = u at hu1 hum hrv
    have hz : kA.size ≤ vs.length := by
      have h1 := hk.length
      rw [Array.length_toList, List.length_take] at h1
      omega
    refine wpAny_bind (wpAny_attempt (wpAny_mono (cb H1 s' u v sm1 I1 hum hrv) (fun r s2 he => ?_) fun _ _ hF => hF.elim))
    obtain ⟨H2, p, I2, sm2, rfl, mk2, kp⟩ := he
    try dsimp only
    obtain ⟨nk2, kn⟩ := kp kS _ fk1 nk1
    obtain ⟨na2, an⟩ := kp a _ fa1 na1
    have s1 := Heap.SameBut.update s2.heap kS (Obj.mapSeq (·.push (.ref p)))
    obtain ⟨c2, hc2⟩ : ∃ c2, (s2.heap.update kS (Obj.mapSeq (·.push (.ref p)))).get? kS = some (seqObj "list" (kA.push (.ref p)) c2) := ⟨_, get?_update_seq nk2 (·.push (.ref p))⟩
    have ek : us.take (j + 1) = us.take j ++ [u] := by rw [List.take_add_one, hu1]; simp
    have ea : (kA.push (.ref p)).toList = kA.toList ++ [.ref p] := by simp
    have fk2 := fpOk_next fk1 kn
    have fa2 := fpOk_next fa1 an
    refine wpAny_bind (listUpdate_at nk2 rfl ?_ (Nat.le_trans hz hZ) (Nat.le_trans (Nat.le_of_eq (Array.size_push ..)) (Nat.succ_le_succ (Nat.le_trans hz hZ))))
    have I3 := I2.turnedL (h' := s2.heap.update kS (Obj.mapSeq (·.push (.ref p)))) (t' := s2.toks) (ch := [kS]) (fun b o hb e => (s1.2 b (fun z => hb (by rw [z]; exact List.mem_singleton.mpr rfl))).trans e) (fun b hb => by rw [List.mem_singleton.mp hb]; exact fk2)
    refine wpAny_pure ⟨rfl, H2, kA.push (.ref p), c2, I3, sm1.trans sm2, fa2, fk2, hc2, (s1.2 a hka.symm).trans na2, ?_⟩
    rw [ea, ek]
    exact each_snoc (R := fun (v : Value) (u : List Nat) => ∃ p, v = .ref p ∧ MarkH X.K H2 p (keyM u)) ⟨p, rfl, mk2⟩ (hk.mono fun v u ⟨q, e, m⟩ => ⟨q, e, m.same sm2⟩)
  case done =>
    rintro s' ⟨H1, kA, e, I1, sm1, fa1, fk1, nk1, na1, hk⟩
    have e3 : us.take (0 + vs.length) = us := List.take_of_length_le (by have := hv.length; omega)
    rw [e3] at hk
    have hk' : EachIs (fun v k => ∃ as, Reads s'.heap v k as) kA.toList (us.map fun u => encM (keyM u)) := each_map (fun u => encM (keyM u)) (hk.mono fun v u ⟨q, e, m⟩ => ⟨[], by rw [e]; exact (mark_raw I1 m).2⟩)
    have hsz : kA.size = vs.length := by
      have h1 := hk.length
      rw [Array.length_toList] at h1
      rw [h1]
      exact hv.length.symm
    try dsimp only
    refine wpAny_bind (listItems_at nk1 rfl ?_)
    have hal : AllAlike (us.map fun u => encM (keyM u)) := AllAlike.of fun _ _ => alike_encM _ _
    refine keyH_end (κ := dataKind s'.heap (us.map fun u => encM (keyM u))) (h₁ := cut s'.heap kS) (fun b o hb e => ?_) cut_at nk1 na1 hka (SortsAt.data (s := s') hk' hal (Sortable.tuples fun b => ⟨_, _, rfl⟩) fun d hd => ?_) hsz hZ fun h3 tk3 c k3 n3 => ?_
    · by_cases z : b = kS
      · rw [z, cut_at] at e
        cases e
      · rwa [cut_ne z] at e
    · obtain ⟨u, _, rfl⟩ := List.mem_map.mp hd
      rw [depth_encM]
      exact hu
    · have I4 := I1.turnedL (h' := h3) (t' := tk3) (ch := [a, kS]) (fun b o hb e => k3 b o (fun z => hb (by rw [z]; exact List.mem_cons_self)) (by rw [cut_ne (fun z => hb (by rw [z]; exact List.mem_cons_of_mem _ (List.mem_singleton.mpr rfl)))]; exact e)) (fun b hb => by
        rcases List.mem_cons.mp hb with z | z
        · rw [z]; exact fa1
        · rw [List.mem_singleton.mp z]; exact fk1)
      exact h H1 _ _ c I4 sm1 fa1 n3 ⟨s'.heap, kA.toList, hal, rfl, hk'⟩
theorem keyI_tree {a : Addr} {n : Nat} {vs : List Value} {us : List (List Nat)} {P : PySem.Fin → Shared → Prop} (ho : s.heap.get? a = some (seqObj "list" vs.toArray n))
    (I : Inv X pins σ H s) (fa : FpOk X pins H a) (hv : EachIs (fun v u => RelV (.str (txt x u)) v) vs us) (hL : ∀ u ∈ us, u ∈ L) (hZ : vs.length ≤ sizeLine) (hu : A.units + 2 < cLine) (cb : KeyCb X pins σ x f A L H)
    (h : ∀ H' s' out c, Inv X pins σ H' s' → Same H H' → FpOk X pins H' a → s'.heap.get? a = some (seqObj "list" (List.toArray out) c) → KeyedOut false (us.map fun u => encM (keyM u)) vs out → P (.done (.ret .none)) s') :
    wpAny (model X.prog X.w) A (ksk_tree a (.ref f) false) P E s := by
  have ha : a < s.heap.objs.size := Heap.lt_size ho
  obtain ⟨e1, ho1⟩ : ∃ e1, (s.heap.update a (Obj.mapSeq fun _ => (#[] : Array Value))).get? a = some (seqObj "list" #[] e1) := ⟨_, get?_update_seq ho fun _ => #[]⟩
  have s1 := Heap.SameBut.update s.heap a (Obj.mapSeq fun _ => (#[] : Array Value))
  have hkS : ((s.heap.update a (Obj.mapSeq fun _ => (#[] : Array Value))).push (seqObj "tuple" vs.toArray 0)).objs.size = s.heap.objs.size + 1 := by rw [size_push', Heap.size_update]
  unfold ksk_tree
  refine wpAny_bind (listItems_at ho rfl ?_)
  refine wpAny_bind (listUpdate_at ho rfl ?_ (by rw [List.size_toArray]; exact hZ) (Nat.zero_le _))
  refine wpAny_bind (seqEpoch_at ho1 rfl ?_)
  refine wpAny_bind (wpAny_newTuple ?_ (by show vs.length ≤ _; exact hZ))
  refine wpAny_bind (wpAny_newList ?_ (Nat.zero_le _))
  refine wpAny_holding ?_
  have I1 := I.turnedL (h' := ((s.heap.update a (Obj.mapSeq fun _ => (#[] : Array Value))).push (seqObj "tuple" vs.toArray 0)).push (seqObj "list" #[] 0)) (t' := s.toks) (ch := [a]) (fun b o hb e => Heap.get?_push_of_some _ (Heap.get?_push_of_some _ ((s1.2 b (fun z => hb (by rw [z]; exact List.mem_singleton.mpr rfl))).trans e))) (fun b hb => by rw [List.mem_singleton.mp hb]; exact fa)
  have hk2 : s.heap.objs.size ≤ ((s.heap.update a (Obj.mapSeq fun _ => (#[] : Array Value))).push (seqObj "tuple" vs.toArray 0)).objs.size := by rw [hkS]; exact Nat.le_succ _
  exact keyI_rest (s := { s with heap := ((s.heap.update a (Obj.mapSeq fun _ => (#[] : Array Value))).push (seqObj "tuple" vs.toArray 0)).push (seqObj "list" #[] 0) }) (kS := ((s.heap.update a (Obj.mapSeq fun _ => (#[] : Array Value))).push (seqObj "tuple" vs.toArray 0)).objs.size)
    (Heap.get?_push_size _ rfl) (Heap.get?_push_of_some _ (Heap.get?_push_of_some _ ho1)) (by rw [hkS]; exact Nat.ne_of_gt (Nat.lt_succ_of_lt ha)) I1 fa (I.fpOk hk2 (I.hok.fresh hk2)) hv hL hZ hu cb h
theorem sortedI {d : Addr} {Q : Value → Shared → Prop} (hc : X.calm = true) (I : Inv X pins σ H s) (hd : H d = some (.dK (strD x L))) (nd : L.Nodup) (hu : X.A.units + 64 < cLine) (cb : ∀ s' : Shared, KeyCb X pins σ x f X.A.in1.in1 L H)
    (h : ∀ H' s' p (L' : List (List Nat)), Inv X pins σ H' s' → Same H H' → H' p = some (.lst (L'.map fun u => V.str (txt x u))) → L'.Pairwise slx → L'.Perm L → Q (.ref p) s') :
    wpAny (model X.prog X.w) X.A (call (.builtin "sorted") [.ref d] [(Str.ofString "key", .ref f)]) Q E s := by
  obtain ⟨z, lo, vs, rel, dd⟩ := dk_rd I.hok (.inl hd)
  obtain ⟨ep, hat⟩ := dd.dictAt
  have hkeys : vs.map (·.1) = L.map fun u => (Sum.inr (txt x u) : Key) := by
    refine rel.keys.symm.trans ?_
    unfold strD
    rw [List.map_map]
    rfl
  have hl : vs.length = L.length := by
    have e := congrArg List.length hkeys
    rw [List.length_map, List.length_map] at e
    exact e
  have h16 : vs.length ≤ sizeLine := by
    rw [← rel.length]
    exact z
  refine call_function_entry_kw PyProof.Rows.kind_sorted PyProof.Rows.plain_sorted PyProof.Rows.entry_sorted (ksk_s1 _ _) ?_
  unfold Builtin.«sorted»
  refine wpAny_bind (m := checkCount "sorted" 1 1 _) (wpAny_pure ?_)
  refine wpAny_bind (PySem.W.kdu_collect (A := X.A.in1) (PySem.W.kdl_dict (knd := mixKind X.prog X.w) (kvs := vs) (ep := ep) lo) (I.ok.hd hc) hat h16 fun h' tk acc hk hacc => ?_)
  have hal : acc.toList.length = L.length := by rw [Array.length_toList, hacc.1, hl]
  have hS : EachIs (fun v u => RelV (.str (txt x u)) v) acc.toList L := by
    refine EachIs.of_zip hal fun p hp => ?_
    obtain ⟨j, hj⟩ := List.mem_iff_getElem?.mp hp
    obtain ⟨e4, e5⟩ := List.getElem?_zip_eq_some.mp hj
    obtain ⟨k, y, e1, e2⟩ := hacc.2 j p.1 (by rw [← Array.getElem?_toList]; exact e4)
    have e3 : (vs.map (·.1))[j]? = some k := by rw [List.getElem?_map, e1]; rfl
    rw [hkeys, List.getElem?_map, e5] at e3
    have e6 : (Sum.inr (txt x p.2) : Key) = k := Option.some.inj e3
    subst e6
    obtain ⟨t, ev⟩ := Value.isStrOf_shape (x := txt x p.2) (v := p.1) e2
    exact ⟨t, ev⟩
  have I1 : Inv X pins σ H { s with heap := h', toks := tk } := I.kept hk
  refine wpAny_bind (wpAny_newList ?_ (by rw [hal, ← hl]; exact h16))
  have hoL : (h'.push (seqObj "list" acc.toList.toArray 0)).get? h'.objs.size = some (seqObj "list" acc.toList.toArray 0) := Heap.get?_push_size _ rfl
  show wpAny _ _ _ _ _ { s with heap := h'.push (seqObj "list" acc.toList.toArray 0), toks := tk }
  have I2 : Inv X pins σ H { s with heap := h'.push (seqObj "list" acc.toList.toArray 0), toks := tk } := I1.kept (t' := tk) fun b o e => Heap.get?_push_of_some _ e
  have fa : FpOk X pins H h'.objs.size := I1.fpOk (Nat.le_refl _) (I1.hok.fresh (Nat.le_refl _))
  refine wpAny_bind (wpAny_holding (wpAny_call_entry_kw PyProof.Rows.slot_list_sort ⟨_, hoL, rfl⟩ PyProof.Rows.entry_list_sort ?body (ksk_l1 _ _)))
  rw [ksk_t1]
  refine keyI_tree hoL I2 fa hS (fun u hu => hu) (by rw [hal, ← hl]; exact h16) (by rw [Around.in1_units, Around.in1_units]; omega) (cb s) fun H' s' out c I3 sm f3 h3 ko => ⟨_, rfl, ?_⟩
  have eo := keyedOut_each (fun u => encM (keyM u)) ko hS
  obtain ⟨w1, w2⟩ := sort_words L nd
  generalize L.mergeSort (dataLe false fun u => encM (keyM u)) = L' at eo w1 w2
  have hvals : Vals (L'.map fun u => V.str (txt x u)) out := by
    clear ko w1 w2 h3
    induction eo with
    | nil => exact .nil
    | cons e _ ih => exact .cons e ih
  have hz : (L'.map fun u => V.str (txt x u)).length ≤ sizeLine := by rw [List.length_map, w2.length_eq, ← hl]; exact h16
  have I4 := inv_adopt (ob := .lst (L'.map fun u => V.str (txt x u))) I3 f3 ⟨hz, out, c, hvals, h3⟩
  exact wpAny_pure ⟨_, rfl, h _ s' _ L' I4 (sm.trans (same_upd f3.1)) upd_same w1 w2⟩
end
end K46
set_option Elab.async false
set_option linter.all false
set_option maxRecDepth 100000
set_option maxHeartbeats 1600000
namespace K46
open PySem PySem.Spec PyProof.Rows L2 NdefX LamX
section
variable {X : Cx} {pins : List (Addr × Obj)} {σ : L2.St} {H : Hp} {x : Str} {f : Addr} {A : Around} {L : List (List Nat)} {s : Shared} {E : Value → Shared → Prop}
theorem keyCb_of {F : Clo} {ps fr : List Str} {k : Nat} {sp : List (Option V) → Sp} {ws : List (Option V)} (Fn : COk X.prog X.w X.K X.mg X.base k f F ps fr sp) (hr : Room k A) (hA : A.frames = some X.stack) (hf : H f = some (CloO f F)) (hc : H F.c = some (CodeO F.c F.qual))
    (cells : ∀ (H1 : Hp) (s1 : Shared), Inv X pins σ H1 s1 → CellsAt F.cl fr ws s1.heap H1) (hsp : ∀ (H1 : Hp) (u : List Nat) (Q : VK), Same H H1 → u ∈ L → (∀ H2 p, Same H1 H2 → MarkH X.K H2 p (keyM u) → Q (.ref p) H2) → sp ws [.str (txt x u)] H1 Q E0) : KeyCb X pins σ x f A L H := by
  intro H1 s1 u v sm I1 hu rv
  have e0 := I1.env0
  have e1 : Env0 X.prog X.w X.K X.mg X.base A X.stack s1 H1 := ⟨hA, e0.mod, e0.bs, e0.bsz, e0.funs, e0.frf, e0.hok, e0.bare⟩
  refine wpAny_call (codeAny_mono (Fn.run A X.stack s1 H1 [v] [.str (txt x u)] ws (fun z H2 => ∃ p, z = .ref p ∧ Same H1 H2 ∧ MarkH X.K H2 p (keyM u)) E0 hr e1 (sm _ _ hf) (sm _ _ hc) (cells H1 s1 I1) (.cons rv .nil) (hsp H1 u _ sm hu fun H2 p a b => ⟨p, rfl, a, b⟩)) fun r s' hq => ?_)
  cases r with
  | error e => exact False.elim hq
  | ok fl =>
    cases fl with
    | next => exact False.elim hq
    | brk => exact False.elim hq
    | cont => exact False.elim hq
    | ret w' =>
      obtain ⟨z, H2, os, bare, un, hok, rv2, p, rfl, sm2, mk2⟩ := hq
      cases rv2
      have I2 : Inv X pins σ H2 s' := I1.call' os un hok bare fun b y => absurd y List.not_mem_nil
      refine ⟨H2, p, I2, sm2, rfl, mk2, fun b o fb e => ⟨un.keep b o e fb.1 (fun z => ?_) List.not_mem_nil, un.free b o e fb.1 List.not_mem_nil⟩⟩
      rcases List.mem_cons.mp (I1.stkSub b z) with y | y
      · exact fb.2.1 y
      · exact fb.2.2.1 y
def SortOk (X : Cx) (k : Nat) (σ : L2.St) (Q : VK) (v fv : V) (H2 : Hp) : Prop := ∃ (d f : Addr) (x : Str) (L : List (List Nat)), v = .ref d ∧ fv = .ref f ∧ H2 d = some (.dK (strD x L)) ∧ L.Nodup ∧
  (∃ (F : Clo) (ps fr : List Str) (js : List Nat) (sp : List (Option V) → Sp), COk X.prog X.w X.K X.mg X.base k f F ps fr sp ∧ H2 f = some (CloO f F) ∧ H2 F.c = some (CodeO F.c F.qual) ∧ (X.Ok → Caps X F.cl fr js) ∧
    ∀ (H3 : Hp) (u : List Nat) (Q' : VK), Same H2 H3 → u ∈ L → (∀ H4 p, Same H3 H4 → MarkH X.K H4 p (keyM u) → Q' (.ref p) H4) → sp (js.map (slotAt σ)) [.str (txt x u)] H3 Q' E0) ∧
  ∀ H3 p (L' : List (List Nat)), Same H2 H3 → H3 p = some (.lst (L'.map fun u => V.str (txt x u))) → L'.Pairwise slx → L'.Perm L → Q (.ref p) H3
def tSortK (X : Cx) (k : Nat) (te tl : TE) : TE := fun σ H Q => te σ H fun v H1 => tl σ H1 fun fv H2 => SortOk X k σ Q v fv H2
def one1 (G : V → Hp → Prop) : List V → Hp → Prop := fun vs H => match vs with
  | [v] => G v H
  | _ => False
theorem one1_at {G : V → Hp → Prop} {vs : List V} {H : Hp} (h : one1 G vs H) : ∃ v, vs = [v] ∧ G v H := by
  match vs, h with
  | [v], h => exact ⟨v, rfl, h⟩
theorem pe_sortK {k : Nat} {e lam : Expr} {te tl : TE} {p kpos pos : Pos} (hc : X.calm = true) (hr : Room (k + 2) X.A) (hu : X.A.units + 64 < cLine) (hg : Gl X "sorted") (hm : X.mg "sorted" = none) (he : PE X e te) (hl : PE X lam tl)
    (hb : backTo pos (starEach [e] X.env) = (false, eval e X.env) :: backTo pos (starEach [] X.env) := by rfl) (hn : starEach [e] X.env = (false, eval e X.env) :: starEach [] X.env := by rfl) (hpl : (backTo pos (starEach [e] X.env)).any (·.1) = false := by rfl)
    (hall : (backToKw pos (keywordEach [⟨some "key", lam, kpos⟩] X.env)).all (·.1.isSome) = true := by rfl) (hnone : (backToKw pos (keywordEach [⟨some "key", lam, kpos⟩] X.env)).any (·.1.isNone) = false := by rfl) (hks : (backToKw pos (keywordEach [⟨some "key", lam, kpos⟩] X.env)).filterMap (·.1) = [Str.ofString "key"] := by rfl) :
    PE X (.Call (.Name "sorted" p) [e] [⟨some "key", lam, kpos⟩] pos) (tSortK X k te tl) := by
  refine ⟨fun pins s σ H Q I h => ?_⟩
  refine wpAny_Call_Name_kw (ld_blt I hg hm (u := .builtin "sorted") (by decide +kernel) ?_ (by decide) (by decide))
  have ha : PA X [e] (tCons te tNil) := pa_cons he pa_nil hn
  have hkw : PK X [⟨some "key", lam, kpos⟩] (tCons tl tNil) := pk_cons hl pk_nil
  refine PyProof.Rows.callWith_kw (thn (ha.run pos pins s σ H (one1 fun v H1 => tl σ H1 fun fv H2 => SortOk X k σ Q v fv H2) I h) fun us s1 ⟨vs, H1, I1, r1, q1⟩ => ?_) hb hpl hall hnone
  obtain ⟨v, rfl, q1⟩ := one1_at q1
  refine thn (hkw.run pos pins s1 σ H1 (one1 fun fv H2 => SortOk X k σ Q v fv H2) I1 q1) fun ws s2 ⟨zs, H2, I2, r2, q2⟩ => ?_
  obtain ⟨fv, rfl, d, f, x, L, rfl, rfl, hd, nd, ⟨F, ps, fr, js, sp, Fn, hf, hcd, hcaps, hsp⟩, q2⟩ := one1_at q2
  rw [hks]
  rw [Vals.ref1 r1, Vals.ref1 r2]
  have caps := hcaps I2.ok
  refine sortedI hc I2 hd nd hu (fun _ => keyCb_of Fn hr.in1.in1 I2.ok.frames hf hcd (fun H3 s3 I3 => cells_of I3 caps) hsp) fun H' s' p L' I' sm hp pw pm => ⟨.ref p, H', I', rfl, q2 H' p L' sm hp pw pm⟩
end
end K46
set_option Elab.async false
set_option linter.all false
set_option maxRecDepth 100000
set_option maxHeartbeats 1600000
namespace K46
open PySem PySem.Spec PyProof.Rows L2 NdefX LamX
theorem fldK {X : Cx} (K : PySem.W.Frag) {e : Expr} {f : Str} {pos : Pos} {ta : TE} (he : PE X e ta) (hb : attributeBase e f X.env (eval e X.env) = eval e X.env) (hK : X.K = K := by rfl) : PE X (.Attribute e f pos) (tFld K ta f) := by
  subst hK
  exact pe_fld he hb
/-! ### what is no dict stays -/
def Vd (H J : Hp) : Prop := ∀ b u, H b = some u → (∀ kvs, u ≠ .dK kvs) → J b = some u
theorem SqB.vd {b : Bool} {K : PySem.W.Frag} {H J : Hp} {a : Addr} {xs : List V} (s : Vd H J) (h : SqB b K H a xs) : SqB b K J a xs := by
  cases b with
  | true =>
    rcases h with (h | ⟨o, h⟩) | h
    · exact .inl (.inl (s _ _ h fun _ z => by cases z))
    · exact .inl (.inr ⟨o, s _ _ h fun _ z => by cases z⟩)
    · exact .inr h
  | false =>
    rcases h with (h | ⟨o, h⟩) | h
    · exact .inl (.inl (s _ _ h fun _ z => by cases z))
    · exact .inl (.inr ⟨o, s _ _ h fun _ z => by cases z⟩)
    · exact .inr h
theorem TabK.vd {b : Bool} {K : PySem.W.Frag} {H J : Hp} {t : Addr} {tab : List (List Nat)} (s : Vd H J) (h : TabK b K H t tab) : TabK b K J t tab := by
  obtain ⟨rs, h1, h2, h3⟩ := h
  exact ⟨rs, h1.vd s, h2, fun i r row e1 e2 => (h3 i r row e1 e2).vd s⟩
theorem MachK.vd {K : PySem.W.Frag} {H J : Hp} {p : Addr} {x : Str} {M : Mach} (s : Vd H J) (h : MachK K H p x M) : MachK K J p x M := by
  obtain ⟨dx, a, t, h1, h2, h3⟩ := h
  exact ⟨dx, a, t, s _ _ h1 (fun _ z => by cases z), h2.vd s, h3.vd s⟩
theorem Vd.refl (H : Hp) : Vd H H := fun _ _ e _ => e
theorem vd_upd {H J : Hp} {F : Addr} {kvs kvs' : List (Key × V)} (s : Vd H J) (e : H F = some (.dK kvs)) : Vd H (upd J F (.dK kvs')) := fun b u h n => by
  rw [upd_ne (fun z => n kvs (by rw [z, e] at h; exact (Option.some.inj h).symm))]
  exact s b u h n
/-! ### suite -/
abbrev nmSuite : List Str := ["machine", "extra", "small", "middles", "ends", "found", "head", "middle", "tail", "length", "text"]
theorem scSuite : FnScope nmSuite ["machine", "extra"] (defScope (topS 26)) := C8.fnScope_by (by decide +kernel)
def kwE (i : Nat) : Expr → Expr
  | .Call (keywords := ks) .. => (ks.getD i ⟨none, .Constant .none 0 ⟨0, 0, 0, 0⟩, ⟨0, 0, 0, 0⟩⟩).value
  | _ => .Constant .none 0 ⟨0, 0, 0, 0⟩
abbrev lamSuite : Expr := kwE 0 (retE ((defBody (topS 26)).getD 5 (.Pass ⟨0, 0, 0, 0⟩)))
abbrev nmSuLam : List Str := ["text", "machine"]
theorem scSuLam : NScope nmSuLam ["text"] ["machine"] (lamS lamSuite) := nscope_by (by decide +kernel)
def spSuLam (K : PySem.W.Frag) : List (Option V) → Sp := fun ws vs H Q _ => ∃ (x : Str) (m : Addr) (M : Mach) (u : List Nat), ws = [some (.ref m)] ∧ vs = [.str (txt x u)] ∧ MachK K H m x M ∧ Ltr x ∧ okW x.cps.size u ∧ u.length ≤ 1000 ∧ ∀ H' p, Same H H' → MarkH K H' p (keyM u) → Q (.ref p) H'
/-- the words of the suite, by the least machine -/
def SuiteW (k : Nat) (M : Mach) (ex : Nat) (u : List Nat) : Prop := ∃ (s : Nat) (h m t : List Nat), s < M.acc.length ∧ First k (fun v => runT M.tab 0 v = s) h ∧ okW k m ∧ m.length ≤ ex + 1 ∧ TailW k M t ∧ u = h ++ m ++ t
/-- while the suite is gathered -/
structure SuI (K : PySem.W.Frag) (x : Str) (H0 H5 H : Hp) (F : Addr) (cnt : Nat) (A : List Nat → Prop) (Lw : List (List Nat)) : Prop where
  ex : Ex K H0 H
  vd : Vd H5 H
  eF : H F = some (.dK (strD x Lw))
  nd : Lw.Nodup
  len : Lw.length ≤ cnt
  ok : ∀ u ∈ Lw, okW x.cps.size u ∧ u.length ≤ 100
  mem : ∀ u, u ∈ Lw ↔ A u
theorem SuI.iff {K : PySem.W.Frag} {x : Str} {H0 H5 H : Hp} {F : Addr} {c c' : Nat} {A A' : List Nat → Prop} {Lw : List (List Nat)} (I : SuI K x H0 H5 H F c A Lw) (hc : c ≤ c') (h : ∀ u, A u ↔ A' u) : SuI K x H0 H5 H F c' A' Lw := ⟨I.ex, I.vd, I.eF, I.nd, Nat.le_trans I.len hc, I.ok, fun u => (I.mem u).trans (h u)⟩
theorem SuI.add {K : PySem.W.Frag} {x : Str} {H0 H5 H : Hp} {F : Addr} {c : Nat} {A : List Nat → Prop} {Lw : List (List Nat)} {u : List Nat} (I : SuI K x H0 H5 H F c A Lw) (h0 : H0 F = none) (h5 : ∃ kvs, H5 F = some (.dK kvs)) (ok : okW x.cps.size u) (hl : u.length ≤ 100) : SuI K x H0 H5 (upd H F (.dK (strD x (insW Lw u)))) F (c + 1) (fun v => A v ∨ v = u) (insW Lw u) where
  ex := ex_store I.ex h0 I.eF
  vd := by
    obtain ⟨kvs, h5⟩ := h5
    exact vd_upd I.vd h5
  eF := upd_same
  nd := insW_nd I.nd
  len := Nat.le_trans (insW_len Lw u) (Nat.succ_le_succ I.len)
  ok := fun v hv => by
    rcases insW_mem.mp hv with z | z
    · exact I.ok v z
    · rw [z]
      exact ⟨ok, hl⟩
  mem := fun v => by
    rw [insW_mem, I.mem]
theorem take_mem {α : Type} {l : List α} {j : Nat} {y z : α} (h : l[j]? = some y) : z ∈ l.take (j + 1) ↔ z ∈ l.take j ∨ z = y := by
  rw [List.take_add_one, h, List.mem_append]
  simp
section
variable {P : Program} {w : World} {K : PySem.W.Frag} {mg : Str → Option Value} {base : Heap}
theorem ok_sulam (T : Tx K mg) {f : Addr} {F : Clo} (hF : LamC lamSuite F) : COk P w K mg base 2 f F ["text"] ["machine"] (spSuLam K) := by
  obtain ⟨qual, cl, c, rfl⟩ := hF
  refine cok_lam (N := nmSuLam) rfl scSuLam (fun _ _ _ us hl => match us, hl with | [_], _ => rfl) (fun ws vs H Q E h => ?_) (fun A outer s H vs ws Q E hr hw h => ?_)
  · obtain ⟨x, m, M, u, _, rfl, _⟩ := h
    rfl
  · obtain ⟨x, m, M, u, rfl, rfl, hM, L, ok, hl, h⟩ := h
    refine ⟨_, C8.pe_c (cal_key T) hr (by decide) (by rfl) (pa_cons (pe_fld (pv 1) rfl) (pa_cons (pv 0) pa_nil)), ?_⟩
    obtain ⟨dx, a', t, hp, hA, hT⟩ := id hM
    refine ⟨_, rfl, _, _, _, _, _, rfl, hp, T.cl, T.nL, rfl, _, rfl, x, u, rfl, L, ok, hl, fun H' p t sm _ _ e1 e2 => h H' p sm ⟨t, SqT.of e1, SqT.of ?_⟩⟩
    rw [e2]
    unfold keyM
    rw [List.map_map]
    rfl
def spSuite (K : PySem.W.Frag) : Sp := fun vs H Q _ => ∃ (x : Str) (m : Addr) (M : Mach) (ex : Nat), vs = [.ref m, nV ex] ∧ MachK K H m x M ∧ Wf x.cps.size M ∧ Ltr x ∧ M.acc.length ≤ 7 ∧ ex ≤ 3 ∧ TabsN (TT K) H ∧
  ∀ H' p (L : List (List Nat)) (Ms : Mach), Ex K H H' → H' p = some (.lst (L.map fun u => V.str (txt x u))) → L.Pairwise slx → Least x.cps.size (accT M 0) Ms → Ms.acc.length ≤ M.acc.length → (∀ u, u ∈ L ↔ SuiteW x.cps.size Ms ex u) → (∀ u ∈ L, okW x.cps.size u ∧ u.length ≤ 100) → L.length ≤ 20000 → Q (.ref p) H'
theorem cal_suite (T : Tx K mg) (TB : TBs K mg base) : C8.Cal P w K mg base 9 "suite" (spSuite K) [] := by
  refine cal_ofT T TB (i := 26) 15 rfl (by decide +kernel) (by decide +kernel) scSuite (fun _ _ _ _ _ _ us hl => match us, hl with | [_, _], _ => rfl) (fun vs H Q E h => ?_) (fun c Pt tb hPt f A outer s H vs Q E hr h => ?_)
  · obtain ⟨x, m, M, ex, rfl, _⟩ := h
    rfl
  · obtain ⟨x, m, M, ex, rfl, hM, W, L, hn, hex, hTT, q⟩ := h
    have hu := hu_of hr
    have hu64 := hr.units
    refine ⟨_, pss_cons (ps_set (i := 2) scSuite.nd rfl (.inl rfl) (C8.pe_c (cal_least T) hr (by decide) (by rfl) (pa_cons (pv 0) pa_nil)))
      (pss_cons (ps_setLcg (k := 1) (i := 3) (i1 := 10) (own := [("length", 9), ("text", 10)]) (g := gName 9) rfl (hr.mono (by decide)) scSuite.nd rfl rfl (sw_true rfl rfl rfl (by decide +kernel)) (pi_range1 (by rfl) (T.b "range" (by decide +kernel)) (pa_cons (pe_op op_add (pv 1) pe_int) pa_nil)) (blkOk_by (N := nmSuite) (sc := defScope (topS 26)) (by decide +kernel))
          (fun _ _ _ _ _ => pg_name (i := 9) scSuite.nd rfl (Or.inl rfl)) rfl rfl (by decide) (cal_texts T) (fun _ _ _ _ _ => pa_cons (fldK K (pv 0) rfl) (pa_cons (pv 9) pa_nil)) (fun _ _ _ _ _ => by rfl))
      (pss_cons (ps_set (i := 4) scSuite.nd rfl (.inl rfl) (C8.pe_c (cal_tails T TB) hr (by decide) (by rfl) (pa_cons (pv 2) pa_nil)))
      (pss_cons (ps_set (i := 5) scSuite.nd rfl (.inl rfl) pe_dnewK)
      (pss_cons (ps_for PassesOwn.never rfl (piB K (C8.pe_c (cal_heads T) hr (by decide) (by rfl) (pa_cons (pv 2) pa_nil))) (pg_name (i := 6) scSuite.nd rfl (.inl rfl))
        (pss_one (ps_for PassesOwn.never rfl (piB K (pv 3)) (pg_name (i := 7) scSuite.nd rfl (.inl rfl))
          (pss_one (ps_for PassesOwn.never rfl (piB K (pv 4)) (pg_name (i := 8) scSuite.nd rfl (.inl rfl))
            (pss_one (ps_dput hu (pv 5) (pe_op op_add_str (pe_op op_add_str (pv 6) (pv 7)) (pv 8)) pe_bl rfl)))))))
      (pss_one (ps_ret (pe_sortK (k := 2) rfl (hr.mono (by decide)) hu64 (by rfl) (T.b "sorted" (by decide +kernel)) (pv 5) (pe_lambda tb rfl hPt (by rfl) TT_nm rfl (free_by (sc := lamS lamSuite) (outer := defScope (topS 26)) (by decide +kernel)))))))))), ?_⟩
    have hk : x.cps.size ≤ 1000 := Nat.le_trans L.few (by decide)
    -- small
    refine ⟨_, rfl, x, m, M, rfl, hM, W, hk, by omega, fun H1 ps Ms sm1 nps hMs LMs hle => ?_⟩
    have hM1 := hM.same sm1
    obtain ⟨dx, a', t, hp, hA, hT⟩ := id hM1
    -- middles
    have wk := wk_range 0 ((ex : Int) + 2).toNat
    have en : ((ex : Int) + 2).toNat = ex + 2 := by omega
    refine ⟨_, rfl, _, _, rfl, rfl, _, rfl, by omega, by omega, fun D hD => ⟨fun i mm H2 => i + mm = ex + 2 ∧ Same H1 H2 ∧ ∃ Ws : List (List Nat), H2 D = some (.lst (Ws.map fun v => V.str (txt x v))) ∧ Ws.length < 2 ^ i ∧ ∀ v, v ∈ Ws ↔ okW x.cps.size v ∧ v.length < i, ⟨ex + 2, Nat.zero_add _, same_upd hD, [], upd_same, Nat.one_pos, fun v => ⟨fun h => (by cases h), fun h => absurd h.2 (Nat.not_lt_zero _)⟩⟩, fun i mm H2 hW => ?_⟩⟩
    obtain ⟨him, sm2, Ws, eD, wlen, wmem⟩ := hW
    by_cases hi : i < ex + 2
    · refine .inr ⟨wk.go i H2 (by omega) trivial, fun H' => ∃ Ws : List (List Nat), i + 1 ≤ ex + 2 ∧ Same H1 H' ∧ H' D = some (.lst (Ws.map fun v => V.str (txt x v))) ∧ Ws.length < 2 ^ (i + 1) ∧ ∀ v, v ∈ Ws ↔ okW x.cps.size v ∧ v.length < i + 1, fun H' hN => ?_, fun v H' hy => ?_⟩
      · obtain ⟨Ws', h1, h2, h3, h4, h5⟩ := hN
        exact ⟨mm - 1, by omega, by omega, h2, Ws', h3, h4, h5⟩
      · obtain ⟨rfl, hv⟩ := wk.yld i H2 v H' (by omega) trivial hy
        have hv2 : v = nV i := by
          rw [hv]
          show V.int (0 + (i : Int)) = V.int (i : Int)
          rw [Int.zero_add]
        subst hv2
        have hpow : x.cps.size ^ i ≤ 2 ^ i := Nat.pow_le_pow_left L.few i
        have hpow2 : (2 : Nat) ^ i ≤ 2 ^ 5 := Nat.pow_le_pow_right (by decide) (by omega)
        refine ⟨rfl, _, rfl, _, _, _, _, _, rfl, sm2 _ _ hp, T.cl, T.nL, rfl, _, rfl, _, eD, x, i, rfl, L, by omega, by rw [List.length_map]; omega, fun L1 l1 m1 => ⟨Ws ++ L1, by omega, ?_, ?_, ?_, fun v => ?_⟩⟩
        · exact fun b o e => by
            rw [upd_ne (ne_of_none e hD)]
            exact sm2 b o e
        · rw [upd_same, List.map_append]
        · rw [List.length_append, l1, Nat.pow_succ]
          omega
        · rw [List.mem_append, wmem, m1]
          constructor
          · rintro (⟨h1, h2⟩ | ⟨h1, h2⟩)
            · exact ⟨h1, by omega⟩
            · exact ⟨h2, by omega⟩
          · rintro ⟨h1, h2⟩
            rcases Nat.lt_or_ge v.length i with z | z
            · exact .inl ⟨h1, z⟩
            · exact .inr ⟨by omega, h1⟩
    have ei : i = ex + 2 := by omega
    subst ei
    refine .inl ⟨by rw [← en]; exact wk.stop H2 trivial, ?_⟩
    have hMs2 := hMs.same sm2
    -- ends
    have x2 : Ex K H H2 := (Ex.of sm1).trans (.of sm2)
    refine ⟨_, rfl, x, ps, Ms, rfl, hMs2, LMs.wf, L, by omega, x2.tab hTT, LMs.red, fun H3 ep Ts x3 eE tnd tlen tok tmem => ?_⟩
    have x13 := x2.trans x3
    intro F hF
    have sm4 : Same H3 (upd H3 F (.dK [])) := same_upd hF
    have eF4 : upd H3 F (.dK []) F = some (.dK []) := upd_same
    generalize upd H3 F (.dK []) = H4 at sm4 eF4 ⊢
    have x14 := x13.trans (.of sm4)
    have hMs4 := (hMs2.vw x3.vw).same sm4
    have hFN : H F = none := x13.new F hF
    -- heads
    refine ⟨_, rfl, x, ps, Ms, rfl, hMs4, LMs.wf, L, LMs.rea, fun H5 hp5 hw sm5 eH hwF => ?_⟩
    have x15 := x14.trans (.of sm5)
    have eF5 := sm5 _ _ eF4
    have eE5 : H5 ep = some (.lst (Ts.map fun u => V.str (txt x u))) := sm5 _ _ (sm4 _ _ eE)
    have eD5 : H5 D = some (.lst (Ws.map fun v => V.str (txt x v))) := sm5 _ _ (sm4 _ _ (x3.ext D _ eD fun _ z => by cases z))
    have hM5 : MachK K H5 m x M := (((hM1.same sm2).vw x3.vw).same sm4).same sm5
    have h5F : ∃ kvs, H5 F = some (.dK kvs) := ⟨_, eF5⟩
    have hpow2 : (2 : Nat) ^ (ex + 2) ≤ 2 ^ 5 := Nat.pow_le_pow_right (by decide) (by omega)
    have wl : Ws.length ≤ 31 := by omega
    have hn2 : Ms.acc.length ≤ 7 := by omega
    let A1 : Nat → List Nat → Prop := fun i u => ∃ s, s < i ∧ ∃ mw, mw ∈ Ws ∧ ∃ t, t ∈ Ts ∧ u = hw s ++ mw ++ t
    refine ⟨hp5, true, rfl, ⟨_, .lst eH⟩, for_by (wk_seq true K hp5 ((List.range Ms.acc.length).map fun s => V.str (txt x (hw s)))) (fun i σ H6 => ∃ (Lw : List (List Nat)) (y6 y7 y8 : Option V), σ = [some (.ref m), some (nV ex), some (.ref ps), some (.ref D), some (.ref ep), some (.ref F), y6, y7, y8, none, none] ∧ SuI K x H H5 H6 F (i * 1600) (A1 i) Lw)
      ⟨[], none, none, none, rfl, x15, Vd.refl H5, eF5, List.nodup_nil, Nat.zero_le _, fun u h => (by cases h), fun u => ⟨fun h => (by cases h), fun ⟨_, h, _⟩ => absurd h (Nat.not_lt_zero _)⟩⟩ (fun i σ H6 _ hP => ?_) (fun i v σ H6 hi hv hP => ?_) (fun σ H6 hP => ?_)⟩
    · obtain ⟨_, _, _, _, _, I⟩ := hP
      exact (SqB.lst eH).vd I.vd
    · obtain ⟨Lw, y6, y7, y8, rfl, I⟩ := hP
      rw [List.length_map, List.length_range] at hi
      have hv2 : v = .str (txt x (hw i)) := by
        rw [List.getElem?_map, List.getElem?_range hi] at hv
        exact (Option.some.inj hv).symm
      subst hv2
      obtain ⟨hF1, hF2⟩ := hwF i hi
      refine ⟨_, rfl, D, true, rfl, ⟨_, (SqB.lst eD5).vd I.vd⟩, for_by (wk_seq true K D (Ws.map fun v => V.str (txt x v))) (fun j σ H6 => ∃ (Lw : List (List Nat)) (y7 y8 : Option V), σ = [some (.ref m), some (nV ex), some (.ref ps), some (.ref D), some (.ref ep), some (.ref F), some (.str (txt x (hw i))), y7, y8, none, none] ∧ SuI K x H H5 H6 F (i * 1600 + j * 50) (fun u => A1 i u ∨ ∃ mw, mw ∈ Ws.take j ∧ ∃ t, t ∈ Ts ∧ u = hw i ++ mw ++ t) Lw)
        ⟨Lw, _, _, rfl, I.iff (by omega) fun u => ⟨.inl, fun h => h.elim id fun ⟨_, h, _⟩ => by simp at h⟩⟩ (fun j σ H6 _ hP => ?_) (fun j v σ H6 hj hv hP => ?_) (fun σ H6 hP => ?_)⟩
      · obtain ⟨_, _, _, _, I⟩ := hP
        exact (SqB.lst eD5).vd I.vd
      · obtain ⟨Lw, y7, y8, rfl, I⟩ := hP
        rw [List.length_map] at hj
        have hmj := List.getElem?_eq_getElem hj
        rw [List.getElem?_map, hmj] at hv
        cases hv
        obtain ⟨mok, mlen⟩ := (wmem _).mp (List.getElem_mem hj)
        generalize Ws[j] = mw at hmj mok mlen
        refine ⟨_, rfl, ep, true, rfl, ⟨_, (SqB.lst eE5).vd I.vd⟩, for_by (wk_seq true K ep (Ts.map fun u => V.str (txt x u))) (fun c σ H6 => ∃ (Lw : List (List Nat)) (y8 : Option V), σ = [some (.ref m), some (nV ex), some (.ref ps), some (.ref D), some (.ref ep), some (.ref F), some (.str (txt x (hw i))), some (.str (txt x mw)), y8, none, none] ∧ SuI K x H H5 H6 F (i * 1600 + j * 50 + c) (fun u => (A1 i u ∨ ∃ mw, mw ∈ Ws.take j ∧ ∃ t, t ∈ Ts ∧ u = hw i ++ mw ++ t) ∨ ∃ t, t ∈ Ts.take c ∧ u = hw i ++ mw ++ t) Lw)
          ⟨Lw, _, rfl, I.iff (by omega) fun u => ⟨.inl, fun h => h.elim id fun ⟨_, h, _⟩ => by simp at h⟩⟩ (fun c σ H6 _ hP => ?_) (fun c v σ H6 hc hv hP => ?_) (fun σ H6 hP => ?_)⟩
        · obtain ⟨_, _, _, I⟩ := hP
          exact (SqB.lst eE5).vd I.vd
        · obtain ⟨Lw, y8, rfl, I⟩ := hP
          rw [List.length_map] at hc
          have htc := List.getElem?_eq_getElem hc
          rw [List.getElem?_map, htc] at hv
          cases hv
          obtain ⟨tok1, tlen1⟩ := tok _ (List.getElem_mem hc)
          generalize Ts[c] = tw at htc tok1 tlen1
          have okU : okW x.cps.size (hw i ++ mw ++ tw) := fun d hd => by
            rcases List.mem_append.mp hd with z | z
            · rcases List.mem_append.mp z with z | z
              · exact hF1.1 d z
              · exact mok d z
            · exact tok1 d z
          have lenU : (hw i ++ mw ++ tw).length ≤ 100 := by
            rw [List.length_append, List.length_append]
            omega
          have slen : (strD x Lw).length < sizeLine := by
            unfold strD
            rw [List.length_map, sizeLine_eq]
            have := I.len
            have : i * 1600 ≤ 7 * 1600 := Nat.mul_le_mul_right _ (by omega)
            have : j * 50 ≤ 31 * 50 := Nat.mul_le_mul_right _ (by omega)
            omega
          have dp := DPut.k (k := Sum.inr (txt x (hw i ++ mw ++ tw))) (v := .bl true) I.eF slen
          rw [strD_put L (fun v hv => (I.ok v hv).1) okU] at dp
          refine ⟨_, rfl, _, rfl, _, rfl, _, _, rfl, rfl, ?_, _, rfl, _, _, rfl, rfl, ?_, F, _, rfl, ?_, insW Lw (hw i ++ mw ++ tw), _, rfl, (I.add hFN h5F okU lenU).iff (Nat.le_refl _) fun u => ?_⟩
          · show (txt x (hw i)).length + (txt x mw).length ≤ sizeLine
            rw [txt_len, txt_len, sizeLine_eq]
            omega
          · show (txt x (hw i) ++ txt x mw).length + (txt x tw).length ≤ sizeLine
            rw [txt_app, txt_len, txt_len, sizeLine_eq, List.length_append]
            omega
          · rw [txt_app, txt_app]
            exact dp
          · constructor
            · rintro ((h | ⟨t, h1, h2⟩) | h)
              · exact .inl h
              · exact .inr ⟨t, (take_mem htc).mpr (.inl h1), h2⟩
              · exact .inr ⟨tw, (take_mem htc).mpr (.inr rfl), h⟩
            · rintro (h | ⟨t, h1, h2⟩)
              · exact .inl (.inl h)
              · rcases (take_mem htc).mp h1 with z | z
                · exact .inl (.inr ⟨t, z, h2⟩)
                · rw [z] at h2
                  exact .inr h2
        · obtain ⟨Lw, y8, rfl, I⟩ := hP
          rw [List.length_map, List.take_length] at I
          refine ⟨Lw, _, _, rfl, I.iff (by omega) fun u => ?_⟩
          constructor
          · rintro ((h | ⟨m1, h1, h2⟩) | h)
            · exact .inl h
            · exact .inr ⟨m1, (take_mem hmj).mpr (.inl h1), h2⟩
            · exact .inr ⟨mw, (take_mem hmj).mpr (.inr rfl), h⟩
          · rintro (h | ⟨m1, h1, h2⟩)
            · exact .inl (.inl h)
            · rcases (take_mem hmj).mp h1 with z | z
              · exact .inl (.inr ⟨m1, z, h2⟩)
              · rw [z] at h2
                exact .inr h2
      · obtain ⟨Lw, y7, y8, rfl, I⟩ := hP
        rw [List.length_map, List.take_length] at I
        refine ⟨Lw, _, _, _, rfl, I.iff (by omega) fun u => ?_⟩
        constructor
        · rintro (⟨s, h1, h2⟩ | h)
          · exact ⟨s, by omega, h2⟩
          · exact ⟨i, by omega, h⟩
        · rintro ⟨s, h1, h2⟩
          rcases Nat.lt_or_ge s i with z | z
          · exact .inl ⟨s, z, h2⟩
          · have e : s = i := by omega
            rw [e] at h2
            exact .inr h2
    · obtain ⟨Lw, y6, y7, y8, rfl, I⟩ := hP
      rw [List.length_map, List.length_range] at I
      -- sorted
      refine ⟨_, rfl, I.ex.tab hTT, fun fL c1 H7 e1 n1 t1 nf1 ef1 ec1 => ?_⟩
      have x67 : Ex K H6 H7 := ⟨e1, n1, fun _ => t1⟩
      have hM7 : MachK K H7 m x M := (hM5.vd I.vd).vw x67.vw
      have eF7 : H7 F = some (.dK (strD x Lw)) := e1 F _ I.eF fun _ z => by cases z
      have fin : ∀ u, A1 Ms.acc.length u ↔ SuiteW x.cps.size Ms ex u := fun u => by
        constructor
        · rintro ⟨s, h1, mw, h2, t, h3, h4⟩
          obtain ⟨m1, m2⟩ := (wmem mw).mp h2
          exact ⟨s, hw s, mw, t, h1, (hwF s h1).1, m1, by omega, (tmem t).mp h3, h4⟩
        · rintro ⟨s, h', mw, t, h1, h2, h3, h4, h5, h6⟩
          refine ⟨s, h1, mw, (wmem mw).mpr ⟨h3, by omega⟩, t, (tmem t).mpr h5, ?_⟩
          rw [(hwF s h1).1.uniq h2]
          exact h6
      refine ⟨F, fL, x, Lw, rfl, rfl, eF7, I.nd, ⟨_, _, ["machine"], [0], _, ok_sulam T ⟨_, _, _, rfl⟩, ef1, ec1, fun ok => Caps.made ok (free_by (sc := lamS lamSuite) (outer := defScope (topS 26)) (by decide +kernel)) (fun y hy => PySem.mem_of_lookup (scSuLam.frk y hy)) rfl, fun H8 u Q' s8 hu8 q8 => ?_⟩, fun H8 p L' s8 eP pw pm => ?_⟩
      · obtain ⟨o1, o2⟩ := I.ok u hu8
        exact ⟨x, m, M, u, rfl, rfl, hM7.same s8, L, o1, by omega, fun H9 p s9 mk9 => q8 H9 p s9 mk9⟩
      · refine q H8 p L' Ms ((I.ex.trans x67).trans (.of s8)) eP pw LMs hle (fun u => ?_) (fun u hu => I.ok u (pm.mem_iff.mp hu)) ?_
        · rw [pm.mem_iff, I.mem, fin]
        · rw [pm.length_eq]
          have := I.len
          omega
end
end K46
set_option Elab.async false
set_option linter.all false
set_option maxRecDepth 100000
set_option maxHeartbeats 1600000
namespace K46
open PySem PySem.Spec PyProof.Rows L2
section
variable {P : Program} {w : World} {K : PySem.W.Frag} {mg : Str → Option Value} {base : Heap}
/-! ### _law_numbers -/
abbrev nmNumbers : List Str := ["_law_cell_here", "_law_many", "_law_rest", "_law_whole", "_law_numbers_here", "_law_k", "_law_mixed"]
theorem scNumbers : FnScope nmNumbers ["_law_cell_here", "_law_many"] (defScope (topS 29)) := C8.fnScope_by (by decide +kernel)
def spNumbers : Sp := fun vs H Q _ => ∃ (c : Int) (n : Nat), vs = [.int c, nV n] ∧ n ≤ 1000 ∧ ∀ H' p (ns : List Int), Same H H' → H p = none → H' p = some (.lst (ns.map V.int)) → ns.length = n → Q (.ref p) H'
theorem cal_numbers (T : Tx K mg) : C8.Cal P w K mg base 1 "_law_numbers" spNumbers [] := by
  refine cal_of T (i := 29) 17 rfl (by decide +kernel) scNumbers (fun _ _ _ _ _ _ us hl => match us, hl with | [_, _], _ => rfl) (fun vs H Q E h => ?_) (fun f cdv A outer s H vs Q E hr h => ?_)
  · obtain ⟨c, n, rfl, _⟩ := h
    rfl
  · obtain ⟨c, n, rfl, hn, q⟩ := h
    refine ⟨_, pss_cons (ps_set (i := 2) scNumbers.nd rfl (.inl rfl) (pe_callB call_abs (by rfl) (T.b "abs" (by decide +kernel)) (by decide +kernel) (pa_cons (pv 0) pa_nil)))
      (pss_cons (ps_set (i := 3) scNumbers.nd rfl (.inl rfl) (pv 2))
      (pss_cons (ps_set (i := 4) scNumbers.nd rfl (.inl rfl) (pe_lst pa_nil))
      (pss_cons (ps_for PassesOwn.never rfl (pi_range1 (by rfl) (T.b "range" (by decide +kernel)) (pa_cons (pv 1) pa_nil)) (pg_name (i := 5) scNumbers.nd rfl (.inl rfl))
        (pss_one (ps_if (PW.pt (pw_and (pt_cmpR op_ge (pv 3) (pe_op op_pow pe_int pe_int) (nomark _)) (pw_and1 (pt_cmpR op_gt (pv 2) pe_int (nomark _)))))
          (pss_cons (ps_expr (pe_bm PySem.F.plainAttrs_list PySem.F.slot_list_append PySem.F.type_list_append mt_append (pv 4) (pa_cons (pe_op op_mod (pe_callTy (T := "int") call_int1 (by rfl) (T.b "int" (by decide +kernel)) (by decide +kernel) (pa_cons (pv 2) pa_nil)) pe_int) pa_nil)))
            (pss_one (ps_set (i := 2) scNumbers.nd rfl (.inl rfl) (pe_op op_fdiv (pv 2) pe_int))))
          (pss_cons (ps_set (i := 6) scNumbers.nd rfl (.inl rfl) (pe_op op_mod (pe_callTy (T := "int") call_int1 (by rfl) (T.b "int" (by decide +kernel)) (by decide +kernel) (pa_cons (pe_op op_add (pe_op op_add (pe_op op_mul (pv 3) pe_int) (pe_op op_mul (pv 5) pe_int)) pe_int) pa_nil)) pe_int))
          (pss_cons (ps_set (i := 6) scNumbers.nd rfl (.inl rfl) (pe_op op_mod (pe_callTy (T := "int") call_int1 (by rfl) (T.b "int" (by decide +kernel)) (by decide +kernel) (pa_cons (pe_op op_add (pe_op op_add (pe_op op_mul (pv 6) (pv 6)) (pe_op op_mul pe_int (pv 5))) pe_int) pa_nil)) pe_int))
          (pss_one (ps_expr (pe_bm PySem.F.plainAttrs_list PySem.F.slot_list_append PySem.F.type_list_append mt_append (pv 4) (pa_cons (pe_op op_mod (pe_callTy (T := "int") call_int1 (by rfl) (T.b "int" (by decide +kernel)) (by decide +kernel) (pa_cons (pe_op op_fdiv (pv 6) pe_int) pa_nil)) pe_int) pa_nil)))))))))
      (pss_one (ps_ret (pv 4)))))), ?_⟩
    refine ⟨_, rfl, _, rfl, _, rfl, by show 0 ≤ sizeLine; decide, fun p hp => ?_⟩
    refine ⟨_, rfl, _, rfl, by omega, by omega, for_by (wk_range 0 _) (fun j σ H1 => ∃ (ns : List Int) (r wh : Int) (y5 y6 : Option V), σ = [some (.int c), some (nV n), some (.int r), some (.int wh), some (.ref p), y5, y6] ∧ Same H H1 ∧ H1 p = some (.lst (ns.map V.int)) ∧ ns.length = j) ⟨[], _, _, none, none, rfl, same_upd hp, upd_same, rfl⟩ (fun _ _ _ _ _ => trivial) (fun j v σ H1 hj hv hP => ?_) (fun σ H1 hP => ?_)⟩
    · obtain ⟨ns, r, wh, y5, y6, rfl, sm, ep, hl⟩ := hP
      subst hv
      have fin : ∀ z : Int, Same H (upd H1 p (.lst (ns.map V.int ++ [V.int z]))) ∧ upd H1 p (.lst (ns.map V.int ++ [V.int z])) p = some (.lst ((ns ++ [z]).map V.int)) ∧ (ns ++ [z]).length = j + 1 := fun z => ⟨same_store sm hp, by rw [upd_same, List.map_append]; rfl, by rw [List.length_append, hl]; rfl⟩
      have small : (ns.map V.int).length < sizeLine := by rw [List.length_map, sizeLine_eq]; omega
      refine ⟨_, rfl, _, _, rfl, rfl, ⟨by decide, by decide, by decide⟩, _, _, rfl, rfl, _, rfl, ite2 (fun c1 => ?_) (fun c1 => ?_)⟩
      · refine ⟨_, rfl, _, _, rfl, rfl, _, rfl, ite2 (fun c2 => ?_) (fun c2 => ?_)⟩
        · refine ⟨_, rfl, .inl ⟨rfl, _, SqL.of ep⟩, _, rfl, .inl ⟨_, rfl, _, _, rfl, rfl, (by show (0 : Int) < 1000; decide), p, _, _, rfl, rfl, ep, small, ?_⟩⟩
          obtain ⟨f1, f2, f3⟩ := fin (r % 1000)
          exact ⟨_, rfl, _, _, rfl, rfl, ⟨by decide, by decide⟩, ns ++ [r % 1000], _, wh, _, y6, rfl, f1, f2, f3⟩
        · refine ⟨_, rfl, _, _, rfl, rfl, .inr ⟨by decide, by decide⟩, _, rfl, _, _, rfl, rfl, .inr ⟨by decide, by decide⟩, _, _, rfl, rfl, _, _, rfl, rfl, .inl ⟨_, rfl, _, _, rfl, rfl, (by show (0 : Int) < 2147483647; decide), ?_⟩⟩
          have b1 := Int.emod_nonneg (wh * 48271 + (0 + (j : Int)) * 69621 + 11) (show (2147483647 : Int) ≠ 0 by decide)
          have b2 := Int.emod_lt_of_pos (wh * 48271 + (0 + (j : Int)) * 69621 + 11) (show (0 : Int) < 2147483647 by decide)
          have e64 : (2 : Int) ^ 64 = 18446744073709551616 := by decide
          refine ⟨_, rfl, _, rfl, _, _, rfl, rfl, .inl ⟨by rw [e64]; exact Int.lt_of_lt_of_le (by decide) b1, by rw [e64]; exact Int.lt_trans b2 (by decide)⟩, _, rfl, _, _, rfl, rfl, .inl ⟨by decide, by decide⟩, _, _, rfl, rfl, _, _, rfl, rfl, .inl ⟨_, rfl, _, _, rfl, rfl, (by show (0 : Int) < 2147483629; decide), ?_⟩⟩
          refine ⟨_, rfl, .inl ⟨rfl, _, SqL.of ep⟩, _, rfl, _, _, rfl, rfl, ⟨by decide, by decide⟩, .inl ⟨_, rfl, _, _, rfl, rfl, (by show (0 : Int) < 1000; decide), p, _, _, rfl, rfl, ep, small, ?_⟩⟩
          exact ⟨ns ++ [_], r, wh, _, _, rfl, (fin _).1, (fin _).2.1, (fin _).2.2⟩
      · refine ⟨_, rfl, _, _, rfl, rfl, .inr ⟨by decide, by decide⟩, _, rfl, _, _, rfl, rfl, .inr ⟨by decide, by decide⟩, _, _, rfl, rfl, _, _, rfl, rfl, .inl ⟨_, rfl, _, _, rfl, rfl, (by show (0 : Int) < 2147483647; decide), ?_⟩⟩
        have b1 := Int.emod_nonneg (wh * 48271 + (0 + (j : Int)) * 69621 + 11) (show (2147483647 : Int) ≠ 0 by decide)
        have b2 := Int.emod_lt_of_pos (wh * 48271 + (0 + (j : Int)) * 69621 + 11) (show (0 : Int) < 2147483647 by decide)
        have e64 : (2 : Int) ^ 64 = 18446744073709551616 := by decide
        refine ⟨_, rfl, _, rfl, _, _, rfl, rfl, .inl ⟨by rw [e64]; exact Int.lt_of_lt_of_le (by decide) b1, by rw [e64]; exact Int.lt_trans b2 (by decide)⟩, _, rfl, _, _, rfl, rfl, .inl ⟨by decide, by decide⟩, _, _, rfl, rfl, _, _, rfl, rfl, .inl ⟨_, rfl, _, _, rfl, rfl, (by show (0 : Int) < 2147483629; decide), ?_⟩⟩
        refine ⟨_, rfl, .inl ⟨rfl, _, SqL.of ep⟩, _, rfl, _, _, rfl, rfl, ⟨by decide, by decide⟩, .inl ⟨_, rfl, _, _, rfl, rfl, (by show (0 : Int) < 1000; decide), p, _, _, rfl, rfl, ep, small, ?_⟩⟩
        exact ⟨ns ++ [_], r, wh, _, _, rfl, (fin _).1, (fin _).2.1, (fin _).2.2⟩
    · obtain ⟨ns, r, wh, y5, y6, rfl, sm, ep, hl⟩ := hP
      exact ⟨_, rfl, q H1 p ns sm hp ep (by rw [hl]; omega)⟩
end
end K46
set_option Elab.async false
set_option linter.all false
set_option maxRecDepth 100000
set_option maxHeartbeats 1600000
namespace K46
open PySem PySem.Spec PyProof.Rows L2
/-- the law's state: numbers, place -/
def St (H : Hp) (S : Addr) : Prop := ∃ (N : Addr) (ns : List Int) (p : Nat), H S = some (.lst [.ref N, nV p]) ∧ H N = some (.lst (ns.map V.int)) ∧ ns.length = 240
theorem St.same {H H' : Hp} {S : Addr} (h : St H S) (s : Same H H') : St H' S := by
  obtain ⟨N, ns, p, h1, h2, h3⟩ := h
  exact ⟨N, ns, p, s _ _ h1, s _ _ h2, h3⟩
section
variable {P : Program} {w : World} {K : PySem.W.Frag} {mg : Str → Option Value} {base : Heap}
/-! ### _law_state -/
abbrev nmState : List Str := ["_law_script", "_law_start", "_law_many", "_law_numbers_here", "_law_k", "_law_cell_here"]
theorem scState : FnScope nmState ["_law_script", "_law_start", "_law_many"] (defScope (topS 30)) := C8.fnScope_by (by decide +kernel)
def spState (K : PySem.W.Frag) : Sp := fun vs H Q _ => ∃ (a : Addr) (ns : List Int), vs = [.ref a, .int 0, .int 12] ∧ SqL K H a (ns.map V.int) ∧ ∀ H' S, Same H H' → St H' S → H S = none → Q (.ref S) H'
theorem cal_state (T : Tx K mg) : C8.Cal P w K mg base 2 "_law_state" (spState K) [] := by
  refine cal_of T (i := 30) 18 rfl (by decide +kernel) scState (fun _ _ _ _ _ _ us hl => match us, hl with | [_, _, _], _ => rfl) (fun vs H Q E h => ?_) (fun f cdv A outer s H vs Q E hr h => ?_)
  · obtain ⟨a, ns, rfl, _⟩ := h
    rfl
  · obtain ⟨a, ns, rfl, hS, q⟩ := h
    refine ⟨_, pss_cons (ps_set (i := 3) scState.nd rfl (.inl rfl) (pe_lst pa_nil))
      (pss_cons (ps_for PassesOwn.never rfl (pi_range2 (by rfl) (T.b "range" (by decide +kernel)) (pa_cons (pv 1) (pa_cons (pe_op op_add (pv 1) (pv 2)) pa_nil))) (pg_name (i := 4) scState.nd rfl (.inl rfl))
        (pss_cons (ps_set (i := 5) scState.nd rfl (.inl rfl) (C8.pe_c (cal_cell T) hr (by decide) (by rfl) (pa_cons (pv 0) (pa_cons (pv 4) pa_nil))))
        (pss_cons (ps_if (pt_cmpR op_lt (pe_callB call_abs (by rfl) (T.b "abs" (by decide +kernel)) (by decide +kernel) (pa_cons (pv 5) pa_nil)) (pe_op op_pow pe_int pe_int) (nomark _))
          (pss_one (ps_set (i := 5) scState.nd rfl (.inl rfl) (pe_op op_add (pe_op op_mul (pv 5) pe_int) (pv 4)))) pss_nil)
        (pss_one (ps_set (i := 3) scState.nd rfl (.inl rfl) (pe_op op_cat (pv 3) (C8.pe_c (cal_numbers T) hr (by decide) (by rfl) (pa_cons (pv 5) (pa_cons pe_int pa_nil)))))))))
      (pss_one (ps_ret (pe_lst (pa_cons (pv 3) (pa_cons pe_int pa_nil)))))), ?_⟩
    refine ⟨by show 0 ≤ sizeLine; decide, fun p hp => ?_⟩
    refine ⟨_, rfl, _, rfl, _, rfl, _, _, rfl, rfl, _, _, rfl, ⟨by decide, by decide, by decide, by decide⟩, for_by (wk_range 0 12) (fun j σ H1 => ∃ (N : Addr) (ms : List Int) (y4 y5 : Option V), σ = [some (.ref a), some (.int 0), some (.int 12), some (.ref N), y4, y5] ∧ Same H H1 ∧ H1 N = some (.lst (ms.map V.int)) ∧ ms.length = j * 20) ⟨p, [], none, none, rfl, same_upd hp, upd_same, rfl⟩ (fun _ _ _ _ _ => trivial) (fun j v σ H1 hj hv hP => ?_) (fun σ H1 hP => ?_)⟩
    · obtain ⟨N, ms, y4, y5, rfl, sm, eN, hl⟩ := hP
      subst hv
      have rest : ∀ c : Int, ∀ (H2 : Hp) (p2 : Addr) (ns2 : List Int), Same H1 H2 → H2 p2 = some (.lst (ns2.map V.int)) → ns2.length = 20 → ∀ p3, H2 p3 = none → ∃ (N' : Addr) (ms' : List Int) (y4' y5' : Option V), [some (.ref a), some (.int 0), some (.int 12), some (V.ref p3), some (V.int (0 + (j : Int))), some (V.int c)] = [some (.ref a), some (.int 0), some (.int 12), some (.ref N'), y4', y5'] ∧ Same H (upd H2 p3 (.lst (ms.map V.int ++ ns2.map V.int))) ∧ upd H2 p3 (.lst (ms.map V.int ++ ns2.map V.int)) N' = some (.lst (ms'.map V.int)) ∧ ms'.length = (j + 1) * 20 := fun c H2 p2 ns2 s2 e2 l2 p3 h3 =>
        ⟨p3, ms ++ ns2, _, _, rfl, (sm.trans s2).trans (same_upd h3), by rw [upd_same, List.map_append], by rw [List.length_append, hl, l2]; omega⟩
      refine ⟨_, rfl, _, rfl, a, ns, _, rfl, sm.seq hS, by omega, fun z => ?_⟩
      refine ⟨_, rfl, _, rfl, _, _, rfl, rfl, ⟨by decide, by decide, by decide⟩, _, _, rfl, rfl, _, rfl, ite2 (fun c => ?_) (fun c => ?_)⟩
      · refine ⟨_, rfl, _, _, rfl, rfl, .inr ⟨by decide, by decide⟩, _, rfl, _, _, rfl, rfl, ?_⟩
        refine ⟨_, rfl, _, rfl, _, 20, rfl, by decide, fun H2 p2 ns2 s2 n2 e2 l2 => ⟨N, p2, _, _, rfl, rfl, s2 _ _ eN, e2, by rw [List.length_map, List.length_map, sizeLine_eq]; omega, fun p3 h3 => rest _ H2 p2 ns2 s2 e2 l2 p3 h3⟩⟩
      · refine ⟨_, rfl, _, rfl, _, 20, rfl, by decide, fun H2 p2 ns2 s2 n2 e2 l2 => ⟨N, p2, _, _, rfl, rfl, s2 _ _ eN, e2, by rw [List.length_map, List.length_map, sizeLine_eq]; omega, fun p3 h3 => rest _ H2 p2 ns2 s2 e2 l2 p3 h3⟩⟩
    · obtain ⟨N, ms, y4, y5, rfl, sm, eN, hl⟩ := hP
      refine ⟨_, rfl, by show 2 ≤ sizeLine; decide, fun S hS' => q _ S (sm.trans (same_upd hS')) ⟨N, ms, 0, upd_same, (upd_ne (ne_of_none eN hS')).trans eN, by rw [hl]⟩ ?_⟩
      cases z : H S with
      | none => rfl
      | some o => rw [sm _ _ z] at hS'; cases hS'
/-! ### _law_next -/
abbrev nmNext : List Str := ["_law_state_here", "_law_many", "_law_numbers_here", "_law_place"]
theorem scNext : FnScope nmNext ["_law_state_here", "_law_many"] (defScope (topS 31)) := C8.fnScope_by (by decide +kernel)
def spNext : Sp := fun vs H Q _ => ∃ (S : Addr) (n : Nat), vs = [.ref S, nV n] ∧ 0 < n ∧ St H S ∧ ∀ (v : Nat) H', v < n → SameB S H H' → St H' S → Q (nV v) H'
theorem cal_next (T : Tx K mg) : C8.Cal P w K mg base 1 "_law_next" spNext [] := by
  refine cal_of T (i := 31) 19 rfl (by decide +kernel) scNext (fun _ _ _ _ _ _ us hl => match us, hl with | [_, _], _ => rfl) (fun vs H Q E h => ?_) (fun f cdv A outer s H vs Q E hr h => ?_)
  · obtain ⟨S, n, rfl, _⟩ := h
    rfl
  · obtain ⟨S, n, rfl, hn, ⟨N, ns, p, e1, e2, e3⟩, q⟩ := h
    refine ⟨_, pss_cons (ps_set (i := 2) scNext.nd rfl (.inl rfl) (pe_ix (ixB K) (pv 0) pe_int (fun _ _ => rfl)))
      (pss_cons (ps_set (i := 3) scNext.nd rfl (.inl rfl) (pe_ix (ixB K) (pv 0) pe_int (fun _ _ => rfl)))
      (pss_cons (ps_asg (pe_op op_add (pv 3) pe_int) (pg_sub (pv 0) pe_int set_list))
      (pss_one (ps_ret (pe_op op_mod (pe_callTy (T := "int") call_int1 (by rfl) (T.b "int" (by decide +kernel)) (by decide +kernel) (pa_cons (pe_op op_add (pe_ix (ixB K) (pv 2) (pe_op op_mod (pv 3) (pe_callB (lenB K) (by rfl) (T.b "len" (by decide +kernel)) PySem.boot_len (pa_cons (pv 2) pa_nil))) (fun _ _ => rfl)) (pe_op op_mul (pe_op op_fdiv (pv 3) (pe_callB (lenB K) (by rfl) (T.b "len" (by decide +kernel)) PySem.boot_len (pa_cons (pv 2) pa_nil))) pe_int)) pa_nil)) (pv 1)))))), ?_⟩
    have nNS : N ≠ S := fun z => by
      rw [z, e1] at e2
      injection e2 with e2
      injection e2 with e2
      have := congrArg List.length e2
      rw [List.length_map, e3] at this
      cases this
    refine ⟨_, rfl, true, S, _, 0, .ref N, rfl, rfl, .lst e1, rfl, _, rfl, true, S, _, 1, nV p, rfl, rfl, .lst e1, rfl, _, rfl, _, _, rfl, rfl, _, rfl, S, _, 1, 1, rfl, rfl, e1, rfl, ?_⟩
    have sb : SameB S H (upd H S (.lst ([V.ref N, nV p].set 1 (.int ((p : Int) + 1))))) := sameB_upd
    have eS : upd H S (.lst ([V.ref N, nV p].set 1 (.int ((p : Int) + 1)))) S = some (.lst [.ref N, nV (p + 1)]) := upd_same
    have eN : upd H S (.lst ([V.ref N, nV p].set 1 (.int ((p : Int) + 1)))) N = some (.lst (ns.map V.int)) := (upd_ne nNS).trans e2
    generalize upd H S (.lst ([V.ref N, nV p].set 1 (.int ((p : Int) + 1)))) = H1 at sb eS eN ⊢
    have hix : p % 240 < ns.length := by rw [e3]; exact Nat.mod_lt _ (by decide)
    have hat : atI (ns.map V.int) ((p : Int) % ((ns.map V.int).length : Int)) = some (.int ns[p % 240]) := by
      rw [List.length_map, e3]
      exact atI_nat (j := p % 240) (by rw [List.getElem?_map, List.getElem?_eq_getElem hix]; rfl)
    have l0 : (0 : Int) < ((ns.map V.int).length : Int) := by rw [List.length_map, e3]; decide
    have l1 : ((ns.map V.int).length : Int) < 1073741824 := by rw [List.length_map, e3]; decide
    refine ⟨_, rfl, _, rfl, _, rfl, true, N, _, rfl, .lst eN, _, _, rfl, rfl, l0, true, N, _, _, _, rfl, rfl, .lst eN, hat, _, rfl, _, rfl, true, N, _, rfl, .lst eN, _, _, rfl, rfl, ⟨l0, l1⟩, _, _, rfl, rfl, .inr ⟨by decide, by decide⟩, _, _, rfl, rfl, .inl ⟨_, rfl, _, rfl, _, _, rfl, rfl, (by show (0 : Int) < (n : Int); omega), ?_⟩⟩
    have h1 := Int.emod_nonneg (ns[p % 240] + (p : Int) / ((ns.map V.int).length : Int) * 7) (show (n : Int) ≠ 0 by omega)
    have h2 := Int.emod_lt_of_pos (ns[p % 240] + (p : Int) / ((ns.map V.int).length : Int) * 7) (show (0 : Int) < (n : Int) by omega)
    have h3 := q ((ns[p % 240] + (p : Int) / ((ns.map V.int).length : Int) * 7) % (n : Int)).toNat H1 (by omega) sb ⟨N, ns, p + 1, eS, eN, e3⟩
    have h4 : nV ((ns[p % 240] + (p : Int) / ((ns.map V.int).length : Int) * 7) % (n : Int)).toNat = V.int ((ns[p % 240] + (p : Int) / ((ns.map V.int).length : Int) * 7) % (n : Int)) := congrArg V.int (Int.toNat_of_nonneg h1)
    rw [h4] at h3
    exact h3
end
end K46
set_option Elab.async false
set_option linter.all false
set_option maxRecDepth 100000
set_option maxHeartbeats 1600000
namespace K46
open PySem PySem.Spec PyProof.Rows L2
section
variable {P : Program} {w : World} {K : PySem.W.Frag} {mg : Str → Option Value} {base : Heap}
/-! ### _law_letters -/
abbrev nmLetters : List Str := ["_law_state_here", "_law_most", "_law_pool", "_law_letters_here", "_law_k", "_law_letter"]
theorem scLetters : FnScope nmLetters ["_law_state_here", "_law_most"] (defScope (topS 32)) := C8.fnScope_by (by decide +kernel)
/-- every letter is a code point -/
def Rg (x : Str) : Prop := ∀ c ∈ x.cps.toList, c < 0x110000
def spLetters : Sp := fun vs H Q _ => ∃ (S : Addr), vs = [.ref S, .int 2] ∧ St H S ∧ ∀ (x : Str) H', Ltr x → Rg x → SameB S H H' → St H' S → Q (.str x) H'
abbrev pool : Str := "abcdefghijklmnopqrstuvwxyzABCDEFGHIJKLMNOPQRSTUVWXYZ0123456789<>=:_@#"
theorem pool_len : pool.cps.toList.length = 69 := by decide +kernel
theorem pool_rg : Rg pool := by
  show ∀ c ∈ pool.cps.toList, c < 0x110000
  decide +kernel
theorem cal_letters (T : Tx K mg) : C8.Cal P w K mg base 2 "_law_letters" spLetters [] := by
  refine cal_of T (i := 32) 20 rfl (by decide +kernel) scLetters (fun _ _ _ _ _ _ us hl => match us, hl with | [_, _], _ => rfl) (fun vs H Q E h => ?_) (fun f cdv A outer s H vs Q E hr h => ?_)
  · obtain ⟨S, rfl, _⟩ := h
    rfl
  · obtain ⟨S, rfl, hS, q⟩ := h
    refine ⟨_, pss_cons (ps_set (i := 2) scLetters.nd rfl (.inl rfl) pe_str)
      (pss_cons (ps_set (i := 3) scLetters.nd rfl (.inl rfl) pe_str)
      (pss_cons (ps_for PassesOwn.never rfl (pi_range1 (by rfl) (T.b "range" (by decide +kernel)) (pa_cons (pe_op op_add pe_int (C8.pe_c (cal_next T) hr (by decide) (by rfl) (pa_cons (pv 0) (pa_cons (pv 1) pa_nil)))) pa_nil)) (pg_name (i := 4) scLetters.nd rfl (.inl rfl))
        (pss_cons (ps_set (i := 5) scLetters.nd rfl (.inl rfl) (pe_ix ix_str (pv 2) (C8.pe_c (cal_next T) hr (by decide) (by rfl) (pa_cons (pv 0) (pa_cons pe_int pa_nil))) (fun _ _ => rfl)))
        (pss_one (ps_if (pt_cmpR op_notIn_sign (pv 5) (pv 3) (by rfl)) (pss_one (ps_set (i := 3) scLetters.nd rfl (.inl rfl) (pe_op op_add_str (pv 3) (pv 5)))) pss_nil))))
      (pss_one (ps_ret (pv 3))))), ?_⟩
    refine ⟨_, rfl, _, rfl, S, 2, rfl, by decide, hS, fun r H1 hr1 sb1 st1 => ⟨_, _, rfl, rfl, _, rfl, by omega, by omega, ?_⟩⟩
    have en : (1 + (r : Int)).toNat = r + 1 := by omega
    rw [en]
    refine for_by (wk_range 0 _) (fun j σ H2 => ∃ (y : Str) (y4 y5 : Option V), σ = [some (.ref S), some (.int 2), some (.str pool), some (.str y), y4, y5] ∧ SameB S H H2 ∧ St H2 S ∧ y.cps.toList.Nodup ∧ y.cps.size ≤ j ∧ (1 ≤ j → 0 < y.cps.size) ∧ Rg y) ⟨_, none, none, rfl, sb1, st1, List.nodup_nil, Nat.le_refl _, fun h => absurd h (by decide), fun c hc => (by cases hc)⟩ (fun _ _ _ _ _ => trivial) (fun j v σ H2 hj hv hP => ?_) (fun σ H2 hP => ?_)
    · obtain ⟨y, y4, y5, rfl, sb, st, nd, sz, pos, rg⟩ := hP
      refine ⟨_, rfl, _, rfl, S, 69, rfl, by decide, st, fun a H3 ha sb3 st3 => ?_⟩
      have hp : a < pool.cps.toList.length := by rw [pool_len]; exact ha
      have hat : atI pool.cps.toList (a : Int) = some pool.cps.toList[a] := atI_nat (List.getElem?_eq_getElem hp)
      refine ⟨pool, _, _, rfl, rfl, by decide +kernel, hat, _, rfl, _, rfl, _, y, rfl, rfl, _, rfl, ?_⟩
      have hcr := pool_rg _ (List.getElem_mem hp)
      generalize pool.cps.toList[a] = c at hcr ⊢
      by_cases hm : c ∈ y.cps.toList
      · rw [decide_eq_true hm]
        refine iteF ⟨y, _, _, rfl, sb.trans sb3, st3, nd, by omega, fun _ => ?_, rg⟩
        have := List.length_pos_of_mem hm
        rwa [Array.length_toList] at this
      · rw [decide_eq_false hm]
        have e : (y ++ (⟨#[c]⟩ : Str)).cps.toList = y.cps.toList ++ [c] := by
          show (y.cps ++ #[c]).toList = _
          simp
        refine iteT ⟨_, rfl, _, rfl, _, _, rfl, rfl, ?_, y ++ ⟨#[c]⟩, _, _, rfl, sb.trans sb3, st3, ?_, ?_, fun _ => ?_, fun d hd => ?_⟩
        · show y.cps.size + 1 ≤ sizeLine
          rw [sizeLine_eq]
          omega
        · rw [e]
          exact nodup_snoc nd hm
        · have := congrArg List.length e
          rw [Array.length_toList, List.length_append, Array.length_toList, List.length_singleton] at this
          omega
        · have := congrArg List.length e
          rw [Array.length_toList, List.length_append, Array.length_toList, List.length_singleton] at this
          omega
        · rw [e] at hd
          rcases List.mem_append.mp hd with z | z
          · exact rg d z
          · rw [List.mem_singleton.mp z]
            exact hcr
    · obtain ⟨y, y4, y5, rfl, sb, st, nd, sz, pos, rg⟩ := hP
      exact ⟨_, rfl, q y H2 ⟨nd, pos (by omega), by omega⟩ rg sb st⟩
end
end K46
set_option Elab.async false
set_option linter.all false
set_option maxRecDepth 100000
set_option maxHeartbeats 1600000
namespace K46
open PySem PySem.Spec PyProof.Rows L2
section
variable {P : Program} {w : World} {K : PySem.W.Frag} {mg : Str → Option Value} {base : Heap}
/-! ### _law_texts -/
abbrev nmLTexts : List Str := ["_law_letters_here", "_law_most", "_law_last", "_law_rows", "_law_k", "_law_longer", "_law_text", "_law_letter"]
theorem scLTexts : FnScope nmLTexts ["_law_letters_here", "_law_most"] (defScope (topS 33)) := C8.fnScope_by (by decide +kernel)
def spLTexts : Sp := fun vs H Q _ => ∃ (x : Str) (n : Nat), vs = [.str x, nV n] ∧ Ltr x ∧ n ≤ 5 ∧ ∀ H' p (L : List (List Nat)), Same H H' → H p = none → H' p = some (.lst (L.map fun v => V.str (txt x v))) → (∀ v, v ∈ L ↔ okW x.cps.size v ∧ v.length ≤ n) → L.length < 2 ^ (n + 1) → Q (.ref p) H'
theorem word_snoc {k n : Nat} {v : List Nat} : (okW k v ∧ v.length = n + 1) ↔ ∃ u a, okW k u ∧ u.length = n ∧ a < k ∧ v = u ++ [a] := by
  constructor
  · rintro ⟨ok, hl⟩
    have hne : v ≠ [] := fun z => by rw [z] at hl; cases hl
    obtain ⟨u, a, rfl⟩ : ∃ u a, v = u ++ [a] := ⟨v.dropLast, v.getLast hne, (List.dropLast_concat_getLast hne).symm⟩
    rw [List.length_append, List.length_singleton] at hl
    exact ⟨u, a, ok.of_snoc.1, by omega, ok.of_snoc.2, rfl⟩
  · rintro ⟨u, a, ok, hl, ha, rfl⟩
    exact ⟨ok.snoc ha, by rw [List.length_append, List.length_singleton, hl]⟩
theorem cal_ltexts (T : Tx K mg) : C8.Cal P w K mg base 1 "_law_texts" spLTexts [] := by
  refine cal_of T (i := 33) 21 rfl (by decide +kernel) scLTexts (fun _ _ _ _ _ _ us hl => match us, hl with | [_, _], _ => rfl) (fun vs H Q E h => ?_) (fun f cdv A outer s H vs Q E hr h => ?_)
  · obtain ⟨x, n, rfl, _⟩ := h
    rfl
  · obtain ⟨x, n, rfl, L, hn, q⟩ := h
    refine ⟨_, pss_cons (ps_set (i := 2) scLTexts.nd rfl (.inl rfl) (pe_lst (pa_cons pe_str pa_nil)))
      (pss_cons (ps_set (i := 3) scLTexts.nd rfl (.inl rfl) (pe_lst (pa_cons pe_str pa_nil)))
      (pss_cons (ps_for PassesOwn.never rfl (pi_range1 (by rfl) (T.b "range" (by decide +kernel)) (pa_cons (pv 1) pa_nil)) (pg_name (i := 4) scLTexts.nd rfl (.inl rfl))
        (pss_cons (ps_set (i := 5) scLTexts.nd rfl (.inl rfl) (pe_lst pa_nil))
        (pss_cons (ps_for PassesOwn.never rfl (piB K (pv 2)) (pg_name (i := 6) scLTexts.nd rfl (.inr rfl))
          (pss_one (ps_set (i := 5) scLTexts.nd rfl (.inl rfl) (pe_op op_cat (pv 5) (pe_lc (own := [("_law_letter", 7)]) (g := gName 7) (tt := tYes) rfl scLTexts.nd (pi_str (pv 0)) (blkOk_by (N := nmLTexts) (sc := defScope (topS 33)) (by decide +kernel))
            (fun _ _ _ _ _ => pg_name (i := 7) scLTexts.nd rfl (Or.inl rfl)) (fun _ _ _ _ _ => pts_nil) (fun _ _ _ _ _ => pe_op op_add_str (pv 6) (pv 7)))))))
        (pss_cons (ps_set (i := 2) scLTexts.nd rfl (.inl rfl) (pv 5))
        (pss_one (ps_set (i := 3) scLTexts.nd rfl (.inl rfl) (pe_op op_cat (pv 3) (pv 2))))))))
      (pss_one (ps_ret (pv 3))))), ?_⟩
    refine ⟨by show 1 ≤ sizeLine; decide, fun A1 hA1 => ⟨by show 1 ≤ sizeLine; decide, fun B1 hB1 => ?_⟩⟩
    have kf := L.few
    have smB : Same H (upd (upd H A1 (.lst [.str ""])) B1 (.lst [.str ""])) := (same_upd hA1).trans (same_upd hB1)
    refine ⟨_, rfl, _, rfl, by omega, by omega, ?_⟩
    have en : ((n : Int)).toNat = n := Int.toNat_natCast n
    rw [en]
    refine for_by (wk_range 0 n) (fun j σ H1 => ∃ (Ad Bd : Addr) (La Ro : List (List Nat)) (y4 y5 y6 : Option V), σ = [some (.str x), some (nV n), some (.ref Ad), some (.ref Bd), y4, y5, y6, none] ∧ Same H H1 ∧ H Bd = none ∧ H1 Ad = some (.lst (La.map fun v => V.str (txt x v))) ∧ H1 Bd = some (.lst (Ro.map fun v => V.str (txt x v))) ∧ La.length ≤ 2 ^ j ∧ Ro.length < 2 ^ (j + 1) ∧ (∀ v, v ∈ La ↔ okW x.cps.size v ∧ v.length = j) ∧ ∀ v, v ∈ Ro ↔ okW x.cps.size v ∧ v.length ≤ j)
      ⟨A1, B1, [[]], [[]], none, none, none, rfl, smB, (upd_none hB1).1, by rw [upd_ne (upd_none hB1).2.symm, upd_same]; rfl, by rw [upd_same]; rfl, Nat.le_refl _, by decide, fun v => ?_, fun v => ?_⟩ (fun _ _ _ _ _ => trivial) (fun j v σ H1 hj hv hP => ?_) (fun σ H1 hP => ?_)
    · rw [List.mem_singleton]
      exact ⟨fun h => by rw [h]; exact ⟨fun _ h => (by cases h), rfl⟩, fun h => List.eq_nil_of_length_eq_zero h.2⟩
    · rw [List.mem_singleton]
      exact ⟨fun h => by rw [h]; exact ⟨fun _ h => (by cases h), Nat.le_refl _⟩, fun h => List.eq_nil_of_length_eq_zero (Nat.le_zero.mp h.2)⟩
    · obtain ⟨Ad, Bd, La, Ro, y4, y5, y6, rfl, sm, nB, eA, eB, la, lr, ma, mr⟩ := hP
      have p2 : (2 : Nat) ^ j ≤ 2 ^ 5 := Nat.pow_le_pow_right (by decide) (by omega)
      have p3 : (2 : Nat) ^ (j + 1) = 2 * 2 ^ j := by rw [Nat.pow_succ]; omega
      have p4 : (2 : Nat) ^ (j + 1 + 1) = 2 * 2 ^ (j + 1) := by rw [Nat.pow_succ]; omega
      refine ⟨by show 0 ≤ sizeLine; decide, fun G1 hG1 => ?_⟩
      have eA2 := same_upd (o := .lst []) hG1 _ _ eA
      have eB2 := same_upd (o := .lst []) hG1 _ _ eB
      have sm2 := sm.trans (same_upd (o := .lst []) hG1)
      have eG2 : upd H1 G1 (.lst []) G1 = some (.lst []) := upd_same
      generalize upd H1 G1 (.lst []) = H2 at eA2 eB2 sm2 eG2 ⊢
      refine ⟨_, rfl, Ad, true, rfl, ⟨_, .lst eA2⟩, for_by (wk_seq true K Ad (La.map fun v => V.str (txt x v))) (fun i σ H3 => ∃ (G : Addr) (Lo : List (List Nat)) (y6 : Option V), σ = [some (.str x), some (nV n), some (.ref Ad), some (.ref Bd), some v, some (.ref G), y6, none] ∧ Same H2 H3 ∧ H3 G = some (.lst (Lo.map fun v => V.str (txt x v))) ∧ Lo.length ≤ i * 2 ∧ ∀ v, v ∈ Lo ↔ ∃ u a, u ∈ La.take i ∧ a < x.cps.size ∧ v = u ++ [a])
        ⟨G1, [], _, rfl, Same.refl _, eG2, Nat.zero_le _, fun v => ⟨fun h => (by cases h), fun ⟨_, _, h, _⟩ => by simp at h⟩⟩ (fun i σ H3 _ hP => ?_) (fun i v2 σ H3 hi hv2 hP => ?_) (fun σ H3 hP => ?_)⟩
      · obtain ⟨_, _, _, _, s3, _⟩ := hP
        exact .lst (s3 _ _ eA2)
      · obtain ⟨G, Lo, y6, rfl, s3, eG, lo, mo⟩ := hP
        rw [List.length_map] at hi
        have hli := List.getElem?_eq_getElem hi
        rw [List.getElem?_map, hli] at hv2
        cases hv2
        obtain ⟨uok, ulen⟩ := (ma _).mp (List.getElem_mem hi)
        generalize La[i] = u at hli uok ulen
        refine ⟨_, rfl, _, rfl, _, rfl, fun E hE => lc_pure (wk_str x) (fun a => .str (txt x (u ++ [a]))) (by omega) (fun _ _ _ => trivial) (fun a v3 acc ha hv3 H4 e4 => ?_) ?_ (fun σ H Q Q' m q => ?_) (fun _ _ _ _ _ m q => m _ _ q)⟩
        · obtain ⟨c0, hc, rfl⟩ := hv3
          refine ⟨rfl, _, rfl, _, rfl, _, _, rfl, rfl, ?_, e4, ?_⟩
          · show (txt x u).length + 1 ≤ sizeLine
            rw [txt_len, sizeLine_eq]
            omega
          · rw [txt_one hc, txt_app]
        · have eq1 : (List.range x.cps.size).map (fun a => V.str (txt x (u ++ [a]))) = ((List.range x.cps.size).map fun a => u ++ [a]).map fun v => V.str (txt x v) := by rw [List.map_map]; rfl
          have eG4 : upd H3 E (.lst ((List.range x.cps.size).map fun a => V.str (txt x (u ++ [a])))) G = some (.lst (Lo.map fun v => V.str (txt x v))) := same_upd hE _ _ eG
          refine ⟨G, E, _, _, rfl, rfl, eG4, upd_same, by rw [List.length_map, List.length_map, List.length_range, sizeLine_eq]; omega, fun G2 hG2 => ⟨G2, Lo ++ (List.range x.cps.size).map (fun a => u ++ [a]), _, rfl, (s3.trans (same_upd hE)).trans (same_upd hG2), by rw [upd_same, eq1, List.map_append], by rw [List.length_append, List.length_map, List.length_range]; omega, fun v3 => ?_⟩⟩
          rw [List.mem_append, mo, List.mem_map]
          constructor
          · rintro (⟨u', a, h1, h2, h3⟩ | ⟨a, h1, h2⟩)
            · exact ⟨u', a, (take_mem hli).mpr (.inl h1), h2, h3⟩
            · exact ⟨u, a, (take_mem hli).mpr (.inr rfl), List.mem_range.mp h1, h2.symm⟩
          · rintro ⟨u', a, h1, h2, h3⟩
            rcases (take_mem hli).mp h1 with z | z
            · exact .inl ⟨u', a, z, h2, h3⟩
            · rw [z] at h3
              exact .inr ⟨a, List.mem_range.mpr h2, h3.symm⟩
        · obtain ⟨v1, e1, v2, e2, i, j, e3, e4, e5, e6⟩ := q
          exact ⟨v1, e1, v2, e2, i, j, e3, e4, e5, m _ _ e6⟩
      · obtain ⟨G, Lo, y6, rfl, s3, eG, lo, mo⟩ := hP
        rw [List.length_map] at lo mo
        rw [List.take_length] at mo
        have eB3 := s3 _ _ eB2
        refine ⟨_, rfl, _, rfl, _, rfl, Bd, G, _, _, rfl, rfl, eB3, eG, by rw [List.length_map, List.length_map, sizeLine_eq]; omega, fun B2 hB2 => ⟨G, B2, Lo, Ro ++ Lo, _, _, _, rfl, (sm2.trans s3).trans (same_upd hB2), ?_, same_upd hB2 _ _ eG, by rw [upd_same, List.map_append], by omega, by rw [List.length_append]; omega, fun v3 => ?_, fun v3 => ?_⟩⟩
        · cases z : H B2 with
          | none => rfl
          | some o => rw [s3 _ _ (sm2 _ _ z)] at hB2; cases hB2
        · rw [mo, word_snoc]
          constructor
          · rintro ⟨u, a, h1, h2, h3⟩
            exact ⟨u, a, ((ma u).mp h1).1, ((ma u).mp h1).2, h2, h3⟩
          · rintro ⟨u, a, h1, h2, h3, h4⟩
            exact ⟨u, a, (ma u).mpr ⟨h1, h2⟩, h3, h4⟩
        · rw [List.mem_append, mr, mo]
          constructor
          · rintro (⟨h1, h2⟩ | ⟨u, a, h1, h2, h3⟩)
            · exact ⟨h1, by omega⟩
            · obtain ⟨h4, h5⟩ := (ma u).mp h1
              have := word_snoc.mpr ⟨u, a, h4, h5, h2, h3⟩
              exact ⟨this.1, by omega⟩
          · rintro ⟨h1, h2⟩
            rcases Nat.lt_or_ge v3.length (j + 1) with z | z
            · exact .inl ⟨h1, by omega⟩
            · obtain ⟨u, a, h4, h5, h6, h7⟩ := word_snoc.mp ⟨h1, (by omega : v3.length = j + 1)⟩
              exact .inr ⟨u, a, (ma u).mpr ⟨h4, h5⟩, h6, h7⟩
    · obtain ⟨Ad, Bd, La, Ro, y4, y5, y6, rfl, sm, nB, eA, eB, la, lr, ma, mr⟩ := hP
      exact ⟨_, rfl, q H1 Bd Ro sm nB eB mr lr⟩
end
end K46
set_option Elab.async false
set_option linter.all false
set_option maxRecDepth 100000
set_option maxHeartbeats 1600000
namespace K46
open PySem PySem.Spec PyProof.Rows L2
/-! ### what stands while the law's state turns -/
def NoSt (xs : List V) : Prop := ∀ (N : Addr) (p : Nat), xs ≠ [.ref N, nV p]
theorem St.ob {H : Hp} {S : Addr} (h : St H S) : ∃ N p, H S = some (.lst [.ref N, nV p]) := by
  obtain ⟨N, ns, p, h1, _, _⟩ := h
  exact ⟨N, p, h1⟩
theorem St.ne {H : Hp} {S b : Addr} {o : HO} (h : St H S) (e : H b = some o) (n : ∀ N p, o ≠ .lst [.ref N, nV p]) : b ≠ S := fun z => by
  obtain ⟨N, p, h1⟩ := h.ob
  rw [z, h1] at e
  exact n N p (Option.some.inj e).symm
theorem SqB.st {b : Bool} {K : PySem.W.Frag} {H H' : Hp} {S a : Addr} {xs : List V} (h : SqB b K H a xs) (st : St H S) (n : NoSt xs) (s : SameB S H H') : SqB b K H' a xs := by
  cases b with
  | true =>
    rcases h with (h | ⟨o, h⟩) | h
    · exact .inl (.inl (s _ _ (st.ne h fun N p z => by injection z with z; exact n N p z) h))
    · exact .inl (.inr ⟨o, s _ _ (st.ne h fun N p z => by cases z) h⟩)
    · exact .inr h
  | false =>
    rcases h with (h | ⟨o, h⟩) | h
    · exact .inl (.inl (s _ _ (st.ne h fun N p z => by cases z) h))
    · exact .inl (.inr ⟨o, s _ _ (st.ne h fun N p z => by cases z) h⟩)
    · exact .inr h
theorem noSt_bl (l : List Bool) : NoSt (l.map V.bl) := fun N p z => by
  cases l with
  | nil => cases z
  | cons a l => rw [List.map_cons] at z; injection z with z; cases z
theorem noSt_nV (l : List Nat) : NoSt (l.map nV) := fun N p z => by
  cases l with
  | nil => cases z
  | cons a l => rw [List.map_cons] at z; injection z with z; cases z
theorem noSt_str {α : Type} (l : List α) (f : α → Str) : NoSt (l.map fun u => V.str (f u)) := fun N p z => by
  cases l with
  | nil => cases z
  | cons a l => rw [List.map_cons] at z; injection z with z; cases z
theorem noSt_ref (l : List Addr) : NoSt (l.map V.ref) := fun N p z => by
  match l, z with
  | [], z => cases z
  | [a], z => cases z
  | a :: b :: l, z =>
    rw [List.map_cons, List.map_cons] at z
    injection z with z1 z2
    injection z2 with z2 z3
    cases z2
theorem TabK.st {b : Bool} {K : PySem.W.Frag} {H H' : Hp} {S t : Addr} {tab : List (List Nat)} (h : TabK b K H t tab) (st : St H S) (s : SameB S H H') : TabK b K H' t tab := by
  obtain ⟨rs, h1, h2, h3⟩ := h
  exact ⟨rs, h1.st st (noSt_ref rs) s, h2, fun i r row e1 e2 => (h3 i r row e1 e2).st st (noSt_nV row) s⟩
theorem MachK.st {K : PySem.W.Frag} {H H' : Hp} {S p : Addr} {x : Str} {M : Mach} (h : MachK K H p x M) (st : St H S) (s : SameB S H H') : MachK K H' p x M := by
  obtain ⟨dx, a, t, h1, h2, h3⟩ := h
  exact ⟨dx, a, t, s _ _ (st.ne h1 fun N p z => by cases z) h1, h2.st st (noSt_bl _) s, h3.st st s⟩
/-- another object is written -/
theorem St.put {H : Hp} {S D : Addr} {xs : List V} {o : HO} (st : St H S) (e : H D = some (.lst xs)) (hl : xs.length < 240) (n : D ≠ S) : St (upd H D o) S := by
  obtain ⟨N, ns, p, h1, h2, h3⟩ := st
  refine ⟨N, ns, p, (upd_ne n.symm).trans h1, (upd_ne (fun z => ?_)).trans h2, h3⟩
  rw [z, e] at h2
  injection h2 with h2
  injection h2 with h2
  rw [h2, List.length_map, h3] at hl
  exact Nat.lt_irrefl _ hl
/-- parts of a machine as the law holds them -/
structure PartsH (b : Bool) (K : PySem.W.Frag) (H : Hp) (a t : Addr) (M : Mach) : Prop where
  acc : SqB b K H a (M.acc.map V.bl)
  tab : TabK b K H t M.tab
theorem PartsH.st {b : Bool} {K : PySem.W.Frag} {H H' : Hp} {S a t : Addr} {M : Mach} (h : PartsH b K H a t M) (st : St H S) (s : SameB S H H') : PartsH b K H' a t M := ⟨h.acc.st st (noSt_bl _) s, h.tab.st st s⟩
theorem PartsH.same {b : Bool} {K : PySem.W.Frag} {H H' : Hp} {a t : Addr} {M : Mach} (h : PartsH b K H a t M) (s : Same H H') : PartsH b K H' a t M := ⟨h.acc.same s, h.tab.same s⟩
theorem PartsH.vw {b : Bool} {K : PySem.W.Frag} {H H' : Hp} {a t : Addr} {M : Mach} (h : PartsH b K H a t M) (s : Vw H H') : PartsH b K H' a t M := ⟨h.acc.vw s, h.tab.vw s⟩
section
variable {P : Program} {w : World} {K : PySem.W.Frag} {mg : Str → Option Value} {base : Heap}
/-! ### _law_accepts -/
abbrev nmAccepts : List Str := ["_law_letters_here", "_law_accepting", "_law_table", "_law_text", "_law_at", "_law_letter"]
theorem scAccepts : FnScope nmAccepts ["_law_letters_here", "_law_accepting", "_law_table", "_law_text"] (defScope (topS 35)) := C8.fnScope_by (by decide +kernel)
def spAccepts (K : PySem.W.Frag) : Sp := fun vs H Q _ => ∃ (b : Bool) (x : Str) (a t : Addr) (M : Mach) (u : List Nat), vs = [.str x, .ref a, .ref t, .str (txt x u)] ∧ PartsH b K H a t M ∧ Wf x.cps.size M ∧ Ltr x ∧ okW x.cps.size u ∧ Q (.bl (accT M 0 u)) H
theorem cal_accepts (T : Tx K mg) : C8.Cal P w K mg base 1 "_law_accepts" (spAccepts K) [] := by
  refine cal_of T (i := 35) 23 rfl (by decide +kernel) scAccepts (fun _ _ _ _ _ _ us hl => match us, hl with | [_, _, _, _], _ => rfl) (fun vs H Q E h => ?_) (fun f cdv A outer s H vs Q E hr h => ?_)
  · obtain ⟨b, x, a, t, M, u, rfl, _⟩ := h
    rfl
  · obtain ⟨b, x, a, t, M, u, rfl, hP, W, L, ok, q⟩ := h
    refine ⟨_, pss_cons (ps_set (i := 4) scAccepts.nd rfl (.inl rfl) pe_int)
      (pss_cons (ps_for PassesOwn.never rfl (pi_str (pv 3)) (pg_name (i := 5) scAccepts.nd rfl (.inl rfl))
        (pss_one (ps_set (i := 4) scAccepts.nd rfl (.inl rfl) (pe_ix (ixB K) (pe_ix (ixB K) (pv 2) (pv 4) (fun _ _ => rfl)) (pe_m1 PySem.F.slot_str_index PySem.F.type_str_index mt_sindex (pv 0) (pv 5)) (fun _ _ => rfl)))))
      (pss_one (ps_ret (pe_ix (ixB K) (pv 1) (pv 4) (fun _ _ => rfl))))), ?_⟩
    refine ⟨_, rfl, _, rfl, for_by (wk_str (txt x u)) (fun j σ H1 => ∃ (q0 : Nat) (y5 : Option V), σ = [some (.str x), some (.ref a), some (.ref t), some (.str (txt x u)), some (nV q0), y5] ∧ H1 = H ∧ q0 = runT M.tab 0 (u.take j) ∧ q0 < M.acc.length) ⟨0, none, rfl, rfl, rfl, W.pos⟩ (fun _ _ _ _ _ => trivial) (fun j v σ H1 hj hv hI => ?_) (fun σ H1 hI => ?_)⟩
    · obtain ⟨q0, y5, rfl, rfl, hq, hq2⟩ := hI
      obtain ⟨c, hc, rfl⟩ := hv
      obtain ⟨a0, ha0, hc0⟩ := txt_at hc
      have hak := ok a0 (List.mem_of_getElem? ha0)
      have hcc : x.cps.toList[a0]? = some c := by rw [hc0]; exact ltr_get hak
      obtain ⟨rs, r, row, h1, h2, h3, h4, h5, h6⟩ := hP.tab.row W.tb hq2
      refine ⟨_, rfl, _, rfl, b, t, _, _, _, rfl, rfl, h1, atI_nat h2, _, rfl, ⟨_, rfl⟩, _, rfl, _, _, a0, [], rfl, rfl, L.at hcc, b, r, _, _, _, rfl, rfl, h3, atI_nat (by rw [List.getElem?_map, h6 a0 hak]; rfl), nxt M.tab q0 a0, _, rfl, rfl, ?_, W.tb.lt hq2 hak⟩
      rw [List.take_add_one, ha0, Option.toList_some, runT_app, ← hq]
      rfl
    · obtain ⟨q0, y5, rfl, rfl, hq, hq2⟩ := hI
      rw [txt_size, List.take_length] at hq
      refine ⟨_, rfl, _, rfl, b, a, _, _, _, rfl, rfl, hP.acc, atI_nat (acc_at hq2), ?_⟩
      have e : accT M 0 u = M.acc.getD q0 false := by unfold accT; rw [hq]
      rw [← e]
      exact q
end
end K46
set_option Elab.async false
set_option linter.all false
set_option maxRecDepth 100000
set_option maxHeartbeats 1600000
namespace K46
open PySem PySem.Spec PyProof.Rows L2
section
variable {P : Program} {w : World} {K : PySem.W.Frag} {mg : Str → Option Value} {base : Heap}
/-! ### _law_parts -/
abbrev nmParts : List Str := ["_law_letters_here", "_law_state_here", "_law_most", "_law_many", "_law_accepting", "_law_table", "_law_k", "_law_letter"]
theorem scParts : FnScope nmParts ["_law_letters_here", "_law_state_here", "_law_most"] (defScope (topS 34)) := C8.fnScope_by (by decide +kernel)
def spParts (K : PySem.W.Frag) : Sp := fun vs H Q _ => ∃ (x : Str) (S : Addr) (n : Nat), vs = [.str x, .ref S, nV n] ∧ 0 < n ∧ n ≤ 20 ∧ Ltr x ∧ St H S ∧ ∀ H' p a t M, SameB S H H' → St H' S → H p = none → H a = none → H t = none → H' p = some (.tup [.ref a, .ref t]) → PartsH true K H' a t M → Wf x.cps.size M → M.acc.length ≤ n → Q (.ref p) H'
theorem cal_parts (T : Tx K mg) : C8.Cal P w K mg base 2 "_law_parts" (spParts K) [] := by
  refine cal_of T (i := 34) 22 rfl (by decide +kernel) scParts (fun _ _ _ _ _ _ us hl => match us, hl with | [_, _, _], _ => rfl) (fun vs H Q E h => ?_) (fun f cdv A outer s H vs Q E hr h => ?_)
  · obtain ⟨x, S, n, rfl, _⟩ := h
    rfl
  · obtain ⟨x, S, n, rfl, hn, hn2, L, hS, q⟩ := h
    refine ⟨_, pss_cons (ps_set (i := 3) scParts.nd rfl (.inr rfl) (pe_op op_add pe_int (C8.pe_c (cal_next T) hr (by decide) (by rfl) (pa_cons (pv 1) (pa_cons (pv 2) pa_nil)))))
      (pss_cons (ps_setLc (i := 4) (own := [("_law_k", 6)]) (g := gName 6) (tt := tYes) rfl scParts.nd rfl rfl (sw_true rfl rfl rfl (by decide +kernel)) (pi_range1 (by rfl) (T.b "range" (by decide +kernel)) (pa_cons (pv 3) pa_nil)) (blkOk_by (N := nmParts) (sc := defScope (topS 34)) (by decide +kernel))
          (fun _ _ _ _ _ => pg_name (i := 6) scParts.nd rfl (Or.inl rfl)) (fun _ _ _ _ _ => pts_nil) (fun _ _ _ _ _ => pe_cmpR op_eq (C8.pe_c (cal_next T) hr (by decide) (by rfl) (pa_cons (pv 1) (pa_cons pe_int pa_nil))) pe_int (by rfl)))
      (pss_cons (ps_setLc (i := 5) (own := [("_law_k", 6)]) (g := gName 6) (tt := tYes) rfl scParts.nd rfl rfl (sw_true rfl rfl rfl (by decide +kernel)) (pi_range1 (by rfl) (T.b "range" (by decide +kernel)) (pa_cons (pv 3) pa_nil)) (blkOk_by (N := nmParts) (sc := defScope (topS 34)) (by decide +kernel))
          (fun _ _ _ _ _ => pg_name (i := 6) scParts.nd rfl (Or.inl rfl)) (fun _ _ _ _ _ => pts_nil) (fun _ _ _ _ _ =>
            pe_lc (own := [("_law_letter", 7)]) (g := gName 7) (tt := tYes) rfl scParts.nd (pi_str (pv 0)) (blkOk_rel (N := nmParts) (sc := defScope (topS 34)) rfl (by decide +kernel))
              (fun _ _ _ _ _ => pg_name (i := 7) scParts.nd rfl (Or.inl rfl)) (fun _ _ _ _ _ => pts_nil) (fun _ _ _ _ _ => C8.pe_c (cal_next T) hr (by decide) (by rfl) (pa_cons (pv 1) (pa_cons (pv 3) pa_nil)))))
      (pss_one (ps_ret (pe_tup (pa_cons (pv 4) (pa_cons (pv 5) pa_nil))))))), ?_⟩
    refine ⟨_, rfl, _, rfl, S, n, rfl, hn, hS, fun r H1 hr1 sb1 st1 => ⟨_, _, rfl, rfl, ?_⟩⟩
    have en : ((1 : Int) + (r : Int)).toNat = r + 1 := by omega
    -- accepting
    refine ⟨_, rfl, _, rfl, by omega, by omega, fun D hD => ?_⟩
    have nDS : D ≠ S := fun z => by
      obtain ⟨N, p, h1⟩ := st1.ob
      rw [z, h1] at hD
      cases hD
    have hD0 : H D = none := by
      cases z : H D with
      | none => rfl
      | some o => rw [sb1 _ _ nDS z] at hD; cases hD
    refine lc_by (wk_range 0 _) (fun i H2 => SameB S H H2 ∧ St H2 S ∧ ∃ bs : List Bool, H2 D = some (.lst (bs.map V.bl)) ∧ bs.length = i) ⟨sb1.trans (sameB_new hD), st1.same (same_upd hD), [], upd_same, rfl⟩ (fun _ _ _ _ => trivial) (fun i v H2 hi hv hP => ?_) (fun H2 hP => ?_)
    · obtain ⟨sb2, st2, bs, eD, hl⟩ := hP
      have small : (bs.map V.bl).length < 240 := by rw [List.length_map, hl]; omega
      refine ⟨rfl, _, rfl, S, 3, rfl, by decide, st2, fun z H3 hz sb3 st3 => ⟨rfl, _, sb3 _ _ nDS eD, by rw [sizeLine_eq]; omega, ?_, st3.put (sb3 _ _ nDS eD) small nDS, bs ++ [decide (V.int (z : Nat) = V.int 0)], by rw [upd_same, List.map_append]; rfl, by rw [List.length_append, hl]; rfl⟩⟩
      exact fun b o nb e => by
        have nbD := ne_of_none e hD0
        rw [upd_ne nbD]
        exact sb3 _ _ nb (sb2 _ _ nb e)
    obtain ⟨sb2, st2, bs, eD, hl⟩ := hP
    rw [en] at hl
    -- table
    refine ⟨_, rfl, _, rfl, by omega, by omega, fun R hR => ?_⟩
    have nRS : R ≠ S := fun z => by
      obtain ⟨N, p, h1⟩ := st2.ob
      rw [z, h1] at hR
      cases hR
    have nRD : R ≠ D := fun z => by rw [z, eD] at hR; cases hR
    have hR0 : H R = none := by
      cases z : H R with
      | none => rfl
      | some o => rw [sb2 _ _ nRS z] at hR; cases hR
    refine lc_by (wk_range 0 _) (fun i H3 => SameB S H2 H3 ∧ St H3 S ∧ ∃ (rs : List Addr) (tab : List (List Nat)), rs.length = i ∧ tab.length = i ∧ H3 R = some (.lst (rs.map V.ref)) ∧ R ∉ rs ∧ (∀ (j : Nat) r0 row, rs[j]? = some r0 → tab[j]? = some row → H3 r0 = some (.lst (row.map nV))) ∧ ∀ row ∈ tab, row.length = x.cps.size ∧ ∀ q ∈ row, q < r + 1) ⟨sameB_new hR, st2.same (same_upd hR), [], [], rfl, rfl, upd_same, fun h => (by cases h), fun j r0 row e => by simp at e, fun row h => (by cases h)⟩ (fun _ _ _ _ => trivial) (fun i v H3 hi hv hP => ?_) (fun H3 hP => ?_)
    · obtain ⟨sb3, st3, rs, tab, hl1, hl2, eR, nin, ers, ok⟩ := hP
      have small : (rs.map V.ref).length < 240 := by rw [List.length_map, hl1]; omega
      refine ⟨rfl, _, rfl, _, rfl, fun E hE => ?_⟩
      have nES : E ≠ S := fun z => by
        obtain ⟨N, p, h1⟩ := st3.ob
        rw [z, h1] at hE
        cases hE
      have nER : E ≠ R := fun z => by rw [z, eR] at hE; cases hE
      have few := L.few
      refine lc_by (wk_str x) (fun j H4 => SameB S H3 H4 ∧ St H4 S ∧ ∃ row : List Nat, H4 E = some (.lst (row.map nV)) ∧ row.length = j ∧ ∀ q ∈ row, q < r + 1) ⟨sameB_new hE, st3.same (same_upd hE), [], upd_same, rfl, fun q h => (by cases h)⟩ (fun _ _ _ _ => trivial) (fun j v H4 hj hv2 hP => ?_) (fun H4 hP => ?_)
      · obtain ⟨sb4, st4, row, eE, hl3, hq⟩ := hP
        have small2 : (row.map nV).length < 240 := by rw [List.length_map, hl3]; omega
        refine ⟨rfl, _, rfl, _, rfl, S, 1 + r, rfl, by omega, st4, fun z H5 hz sb5 st5 => ⟨_, sb5 _ _ nES eE, by rw [sizeLine_eq]; omega, ?_, st5.put (sb5 _ _ nES eE) small2 nES, row ++ [z], by rw [upd_same, List.map_append]; rfl, by rw [List.length_append, hl3]; rfl, fun q hq2 => ?_⟩⟩
        · exact fun b o nb e => by
            have nbE := ne_of_none e hE
            rw [upd_ne nbE]
            exact sb5 _ _ nb (sb4 _ _ nb e)
        · rcases List.mem_append.mp hq2 with y | y
          · exact hq q y
          · rw [List.mem_singleton.mp y]
            omega
      · obtain ⟨sb4, st4, row, eE, hl3, hq⟩ := hP
        have eR4 := sb4 _ _ nRS eR
        refine ⟨_, eR4, by rw [sizeLine_eq]; omega, ?_, st4.put eR4 small nRS, rs ++ [E], tab ++ [row], by rw [List.length_append, hl1]; rfl, by rw [List.length_append, hl2]; rfl, by rw [upd_same, List.map_append]; rfl, ?_, fun j' r0 row0 e1 e2 => ?_, fun row0 h0 => ?_⟩
        · exact fun b o nb e => by
            have nbR := ne_of_none e hR
            rw [upd_ne nbR]
            exact sb4 _ _ nb (sb3 _ _ nb e)
        · intro z
          rcases List.mem_append.mp z with z | z
          · exact nin z
          · exact nER (List.mem_singleton.mp z).symm
        · rcases app_at e1 with ⟨z, e1⟩ | ⟨z, rfl⟩
          · rcases app_at e2 with ⟨_, e2⟩ | ⟨y, _⟩
            · have nr : r0 ≠ R := fun y => nin (by rw [← y]; exact List.mem_of_getElem? e1)
              have old := ers j' r0 row0 e1 e2
              rw [upd_ne nr]
              exact sb4 _ _ (st3.ne old fun N p z => by injection z with z; exact noSt_nV row0 N p z) old
            · omega
          · rcases app_at e2 with ⟨y, _⟩ | ⟨_, rfl⟩
            · omega
            · rw [upd_ne nER]
              exact eE
        · rcases List.mem_append.mp h0 with z | z
          · exact ok row0 z
          · rw [List.mem_singleton.mp z]
            exact ⟨hl3, hq⟩
    obtain ⟨sb3, st3, rs, tab, hl1, hl2, eR, nin, ers, ok⟩ := hP
    rw [en] at hl1 hl2
    have sb13 := sb2.trans sb3
    have eD3 := sb3 _ _ nDS eD
    refine ⟨_, rfl, _, rfl, by show 2 ≤ sizeLine; decide, fun p hp => q _ p D R ⟨bs, tab⟩ (sb13.trans (sameB_new hp)) (st3.same (same_upd hp)) ?_ hD0 hR0 upd_same ⟨.lst (same_upd hp _ _ eD3), rs, .lst (same_upd hp _ _ eR), by rw [hl1, hl2], fun j r0 row e1 e2 => .lst (same_upd hp _ _ (ers j r0 row e1 e2))⟩ ⟨by show tab.length = bs.length; rw [hl2, hl], by show 0 < bs.length; omega, fun row h0 => ?_, by show bs.length ≤ 1000; omega⟩ (by show bs.length ≤ n; omega)⟩
    · have nPS : p ≠ S := fun z => by
        obtain ⟨N, p', h1⟩ := st3.ob
        rw [z, h1] at hp
        cases hp
      cases z : H p with
      | none => rfl
      | some o => rw [sb13 _ _ nPS z] at hp; cases hp
    · obtain ⟨h1, h2⟩ := ok row h0
      refine ⟨h1, fun q hq => ?_⟩
      show q < bs.length
      rw [hl]
      exact h2 q hq
end
end K46
set_option Elab.async false
set_option linter.all false
set_option maxRecDepth 100000
set_option maxHeartbeats 1600000
namespace K46
open PySem PySem.Spec PyProof.Rows L2
/-! ### states told apart by words of bounded length -/
def Zw (k : Nat) (W : List Nat → Prop) (j : Nat) (z : List Nat) : Prop := ∃ m t, okW k m ∧ m.length ≤ j ∧ W t ∧ z = m ++ t
def Ew (k : Nat) (M : Mach) (W : List Nat → Prop) (j a b : Nat) : Prop := ∀ z, Zw k W j z → accT M a z = accT M b z
section
variable {k : Nat} {M : Mach} {W : List Nat → Prop} {j a b c : Nat}
theorem Ew.mono {i : Nat} (h : Ew k M W j a b) (hi : i ≤ j) : Ew k M W i a b := fun z ⟨m, t, h1, h2, h3, h4⟩ => h z ⟨m, t, h1, by omega, h3, h4⟩
theorem Ew.step (h : Ew k M W (j + 1) a b) (hc : c < k) : Ew k M W j (nxt M.tab a c) (nxt M.tab b c) := fun z ⟨m, t, h1, h2, h3, h4⟩ => h (c :: z) ⟨c :: m, t, fun d hd => by
  rcases List.mem_cons.mp hd with e | e
  · rw [e]; exact hc
  · exact h1 d e, by rw [List.length_cons]; omega, h3, by rw [h4]; rfl⟩
theorem Ew.of (h0 : Ew k M W 0 a b) (h : ∀ c, c < k → Ew k M W j (nxt M.tab a c) (nxt M.tab b c)) : Ew k M W (j + 1) a b := fun z ⟨m, t, h1, h2, h3, h4⟩ => by
  cases m with
  | nil => exact h0 z ⟨[], t, h1, Nat.zero_le _, h3, h4⟩
  | cons c m =>
    rw [h4]
    rw [List.length_cons] at h2
    exact h c (h1 c List.mem_cons_self) (m ++ t) ⟨m, t, fun d hd => h1 d (List.mem_cons_of_mem _ hd), by omega, h3, rfl⟩
def Stab (k : Nat) (M : Mach) (W : List Nat → Prop) (j : Nat) : Prop := ∀ a b, a < M.acc.length → b < M.acc.length → Ew k M W j a b → Ew k M W (j + 1) a b
theorem Stab.next (T : Tb k M.acc.length M.tab) (s : Stab k M W j) : Stab k M W (j + 1) := fun a b ha hb h => .of (h.mono (Nat.zero_le _)) fun c hc => s _ _ (T.lt ha hc) (T.lt hb hc) (h.step hc)
theorem Stab.all (T : Tb k M.acc.length M.tab) (s : Stab k M W j) (ha : a < M.acc.length) (hb : b < M.acc.length) (h : Ew k M W j a b) : ∀ i, Ew k M W i a b := by
  have up : ∀ d, Stab k M W (j + d) ∧ Ew k M W (j + d) a b := by
    intro d
    induction d with
    | zero => exact ⟨s, h⟩
    | succ d ih => exact ⟨ih.1.next T, ih.1 a b ha hb ih.2⟩
  exact fun i => (up i).2.mono (by omega)
open Classical in
/-- what a state says of the words of Zw j -/
noncomputable def sig (k : Nat) (M : Mach) (W : List Nat → Prop) (j a : Nat) : List Nat → Bool := fun z => decide (Zw k W j z) && accT M a z
open Classical in
theorem sig_eq : sig k M W j a = sig k M W j b ↔ Ew k M W j a b := by
  constructor
  · intro h z hz
    have := congrFun h z
    unfold sig at this
    rw [decide_eq_true hz, Bool.true_and, Bool.true_and] at this
    exact this
  · intro h
    funext z
    unfold sig
    by_cases hz : Zw k W j z
    · rw [decide_eq_true hz, h z hz]
    · rw [decide_eq_false hz, Bool.false_and, Bool.false_and]
theorem dist_ex {α β : Type} (f : α → β) : ∀ l : List α, ∃ D, Dist f l D
  | [] => ⟨[], List.nodup_nil, fun z => ⟨fun h => (by cases h), fun ⟨a, h, _⟩ => (by cases h)⟩⟩
  | a :: l => by
    obtain ⟨D, hD⟩ := dist_ex f l
    by_cases h : f a ∈ D
    · refine ⟨D, hD.nd, fun z => (hD.mem z).trans ⟨fun ⟨b, hb, e⟩ => ⟨b, List.mem_cons_of_mem _ hb, e⟩, fun ⟨b, hb, e⟩ => ?_⟩⟩
      rcases List.mem_cons.mp hb with y | y
      · rw [y] at e
        rw [← e]
        exact (hD.mem _).mp h
      · exact ⟨b, y, e⟩
    · refine ⟨f a :: D, List.nodup_cons.mpr ⟨h, hD.nd⟩, fun z => ?_⟩
      rw [List.mem_cons, hD.mem]
      constructor
      · rintro (e | ⟨b, hb, e⟩)
        · exact ⟨a, List.mem_cons_self, e.symm⟩
        · exact ⟨b, List.mem_cons_of_mem _ hb, e⟩
      · rintro ⟨b, hb, e⟩
        rcases List.mem_cons.mp hb with y | y
        · rw [y] at e
          exact .inl e.symm
        · exact .inr ⟨b, y, e⟩
open Classical in
/-- n0 classes at first, no more than n0 + e states: behind e letters nothing more is told -/
theorem stab_by (T : Tb k M.acc.length M.tab) {n0 e : Nat} (h0 : ∀ D, Dist (sig k M W 0) (List.range M.acc.length) D → n0 ≤ D.length) (hN : M.acc.length ≤ n0 + e) : Stab k M W e := by
  have grow : ∀ j, Stab k M W j ∨ ∀ D, Dist (sig k M W j) (List.range M.acc.length) D → n0 + j ≤ D.length := by
    intro j
    induction j with
    | zero => exact .inr h0
    | succ j ih =>
      rcases ih with s | ih
      · exact .inl (s.next T)
      · by_cases s : Stab k M W j
        · exact .inl (s.next T)
        · refine .inr fun D hD => ?_
          obtain ⟨D1, hD1⟩ := dist_ex (sig k M W j) (List.range M.acc.length)
          obtain ⟨r1, r2⟩ := refine_len hD1 hD fun a _ b _ h => sig_eq.mpr ((sig_eq.mp h).mono (Nat.le_succ j))
          have := ih D1 hD1
          rcases Nat.lt_or_ge D1.length D.length with z | z
          · omega
          · exact absurd (fun a b ha hb h => sig_eq.mp (r2 z a (List.mem_range.mpr ha) b (List.mem_range.mpr hb) (sig_eq.mpr h))) s
  rcases grow e with s | h
  · exact s
  · obtain ⟨D, hD⟩ := dist_ex (sig k M W e) (List.range M.acc.length)
    have hid : Dist (fun a : Nat => a) (List.range M.acc.length) (List.range M.acc.length) := ⟨List.nodup_range, fun z => ⟨fun h => ⟨z, h, rfl⟩, fun ⟨a, h, e⟩ => by rw [← e]; exact h⟩⟩
    obtain ⟨_, r2⟩ := refine_len hD hid fun a _ b _ h => by rw [h]
    have hl := h D hD
    intro a b ha hb hab
    have := r2 (by rw [List.length_range]; omega) a (List.mem_range.mpr ha) b (List.mem_range.mpr hb) (sig_eq.mpr hab)
    rw [this]
    exact fun z _ => rfl
/-- states that are told apart are told apart by fewer letters than there are states -/
theorem short_word (Wf' : Wf k M) (ha : a < M.acc.length) (hb : b < M.acc.length) (h : ∀ v, okW k v → v.length < M.acc.length → accT M a v = accT M b v) : Eqv k M a b := by
  have s : Stab k M (fun t => t = []) (M.acc.length - 1) := stab_by Wf'.tb (n0 := 1) (fun D hD => by
    have h0 : (0 : Nat) ∈ List.range M.acc.length := List.mem_range.mpr Wf'.pos
    exact List.length_pos_of_mem ((hD.mem _).mpr ⟨0, h0, rfl⟩)) (by have := Wf'.pos; omega)
  have h1 : Ew k M (fun t => t = []) (M.acc.length - 1) a b := fun z ⟨m, t, h1, h2, h3, h4⟩ => by
    rw [h4, h3, List.append_nil]
    exact h m h1 (by have := Wf'.pos; omega)
  intro v ok
  exact s.all Wf'.tb ha hb h1 v.length v ⟨v, [], ok, Nat.le_refl _, rfl, (List.append_nil v).symm⟩
end
end K46
set_option Elab.async false
set_option linter.all false
set_option maxRecDepth 100000
set_option maxHeartbeats 1600000
namespace K46
open PySem PySem.Spec PyProof.Rows L2
/-! ### the first word with a property -/
def wordsN (k : Nat) : Nat → List (List Nat)
  | 0 => [[]]
  | n + 1 => (wordsN k n).flatMap fun u => (List.range k).map fun a => u ++ [a]
theorem mem_wordsN {k : Nat} : ∀ {n : Nat} {v : List Nat}, v ∈ wordsN k n ↔ okW k v ∧ v.length = n
  | 0, v => by
    show v ∈ [[]] ↔ _
    rw [List.mem_singleton]
    exact ⟨fun h => by rw [h]; exact ⟨fun _ h => (by cases h), rfl⟩, fun h => List.eq_nil_of_length_eq_zero h.2⟩
  | n + 1, v => by
    show v ∈ (wordsN k n).flatMap _ ↔ _
    rw [List.mem_flatMap, word_snoc]
    constructor
    · rintro ⟨u, hu, h⟩
      obtain ⟨a, ha, e⟩ := List.mem_map.mp h
      obtain ⟨h1, h2⟩ := mem_wordsN.mp hu
      exact ⟨u, a, h1, h2, List.mem_range.mp ha, e.symm⟩
    · rintro ⟨u, a, h1, h2, h3, h4⟩
      exact ⟨u, mem_wordsN.mpr ⟨h1, h2⟩, List.mem_map.mpr ⟨a, List.mem_range.mpr h3, h4.symm⟩⟩
theorem min_ex : ∀ (l : List (List Nat)), l ≠ [] → ∃ u ∈ l, ∀ v ∈ l, sle u v
  | [], h => absurd rfl h
  | [a], _ => ⟨a, List.mem_cons_self, fun v hv => by rw [List.mem_singleton.mp hv]; exact .inl rfl⟩
  | a :: b :: l, _ => by
    obtain ⟨u, hu, h⟩ := min_ex (b :: l) (by simp)
    rcases slx_tot a u with z | z | z
    · refine ⟨a, List.mem_cons_self, fun v hv => ?_⟩
      rcases List.mem_cons.mp hv with y | y
      · rw [y]; exact .inl rfl
      · exact .inr (lt_sle z (h v y))
    · refine ⟨a, List.mem_cons_self, fun v hv => ?_⟩
      rcases List.mem_cons.mp hv with y | y
      · rw [y]; exact .inl rfl
      · rw [z]; exact h v y
    · refine ⟨u, List.mem_cons_of_mem _ hu, fun v hv => ?_⟩
      rcases List.mem_cons.mp hv with y | y
      · rw [y]; exact .inr z
      · exact h v y
open Classical in
theorem first_ex {k : Nat} {p : List Nat → Prop} (h : ∃ u, okW k u ∧ p u) : ∃ u, First k p u := by
  obtain ⟨u0, ok0, p0⟩ := h
  have hm : ∀ v, v ∈ ((List.range (u0.length + 1)).flatMap (wordsN k)).filter (fun v => decide (p v)) ↔ okW k v ∧ v.length ≤ u0.length ∧ p v := fun v => by
    rw [List.mem_filter, List.mem_flatMap, decide_eq_true_eq]
    constructor
    · rintro ⟨⟨n, hn, hv⟩, hp⟩
      obtain ⟨h1, h2⟩ := mem_wordsN.mp hv
      have := List.mem_range.mp hn
      exact ⟨h1, by omega, hp⟩
    · rintro ⟨h1, h2, h3⟩
      exact ⟨⟨v.length, List.mem_range.mpr (by omega), mem_wordsN.mpr ⟨h1, rfl⟩⟩, h3⟩
  obtain ⟨u, hu, hmin⟩ := min_ex _ (List.ne_nil_of_mem ((hm u0).mpr ⟨ok0, Nat.le_refl _, p0⟩))
  obtain ⟨h1, h2, h3⟩ := (hm u).mp hu
  refine ⟨u, h1, h3, fun v ok pv => ?_⟩
  rcases Nat.lt_or_ge u0.length v.length with z | z
  · exact .inr (.inl (by omega))
  · exact hmin v ((hm v).mpr ⟨ok, z, pv⟩)
theorem First.imp {k : Nat} {p p' : List Nat → Prop} {u : List Nat} (h : First k p u) (e : ∀ v, okW k v → (p v ↔ p' v)) : First k p' u := ⟨h.1, (e u h.1).mp h.2.1, fun v ok pv => h.2.2 v ok ((e v ok).mpr pv)⟩
/-! ### the suite tells all small machines -/
theorem accT_app (M : Mach) (q : Nat) (u v : List Nat) : accT M q (u ++ v) = accT M (runT M.tab q u) v := by
  unfold accT
  rw [runT_app]
section
variable {k : Nat} {Mp Mq : Mach}
theorem tail_nil (W : Wf k Mp) (red : ∀ i j, i < Mp.acc.length → j < Mp.acc.length → Eqv k Mp i j → i = j) : TailW k Mp [] := by
  by_cases h1 : Mp.acc.length ≤ 1
  · exact .inl ⟨h1, rfl⟩
  · by_cases h2 : ∃ i j, i < j ∧ j < Mp.acc.length ∧ accT Mp i [] ≠ accT Mp j []
    · obtain ⟨i, j, h3, h4, h5⟩ := h2
      exact .inr ⟨i, j, h3, h4, fun _ h => (by cases h), h5, fun v _ _ => sle_nil v⟩
    · exfalso
      have all : ∀ i j, i < Mp.acc.length → j < Mp.acc.length → accT Mp i [] = accT Mp j [] := fun i j hi hj => by
        apply Classical.byContradiction
        intro hne
        rcases Nat.lt_trichotomy i j with z | z | z
        · exact h2 ⟨i, j, z, hj, hne⟩
        · exact hne (by rw [z])
        · exact h2 ⟨j, i, z, hi, fun e => hne e.symm⟩
      have := red 0 1 (by omega) (by omega) fun v ok => all _ _ (W.tb.run (by omega) ok) (W.tb.run (by omega) ok)
      omega
theorem tail_tells (red : ∀ i j, i < Mp.acc.length → j < Mp.acc.length → Eqv k Mp i j → i = j) {i j : Nat} (hi : i < Mp.acc.length) (hj : j < Mp.acc.length) (ne : i ≠ j) : ∃ t, TailW k Mp t ∧ accT Mp i t ≠ accT Mp j t := by
  have core : ∀ i j, i < j → j < Mp.acc.length → ∃ t, TailW k Mp t ∧ accT Mp i t ≠ accT Mp j t := fun i j h hj => by
    have nR : ¬ ∀ v, okW k v → accT Mp i v = accT Mp j v := fun z => by
      have := red i j (by omega) hj z
      omega
    obtain ⟨u0, hu0⟩ := Classical.not_forall.mp nR
    obtain ⟨ok0, ne0⟩ := Classical.not_imp.mp hu0
    obtain ⟨t, ht⟩ := first_ex (k := k) (p := fun u => accT Mp i u ≠ accT Mp j u) ⟨u0, ok0, ne0⟩
    exact ⟨t, .inr ⟨i, j, h, hj, ht⟩, ht.2.1⟩
  rcases Nat.lt_or_ge i j with z | z
  · exact core i j z hj
  · obtain ⟨t, h1, h2⟩ := core j i (by omega) hi
    exact ⟨t, h1, fun e => h2 e.symm⟩
theorem wmethod {e : Nat} (W : Wf k Mp) (red : ∀ i j, i < Mp.acc.length → j < Mp.acc.length → Eqv k Mp i j → i = j) (rea : ∀ i, i < Mp.acc.length → ∃ v, okW k v ∧ runT Mp.tab 0 v = i) (Wq : Wf k Mq) (hN : Mq.acc.length ≤ Mp.acc.length + e)
    (agree : ∀ u, SuiteW k Mp e u → accT Mp 0 u = accT Mq 0 u) : ∀ v, okW k v → accT Mp 0 v = accT Mq 0 v := by
  have hex : ∃ hw : Nat → List Nat, ∀ i, i < Mp.acc.length → First k (fun v => runT Mp.tab 0 v = i) (hw i) := by
    refine ⟨fun i => if h : i < Mp.acc.length then (first_ex (rea i h)).choose else [], fun i h => ?_⟩
    show First k _ (if h : i < Mp.acc.length then (first_ex (rea i h)).choose else [])
    rw [dif_pos h]
    exact (first_ex (rea i h)).choose_spec
  obtain ⟨hw, hhw⟩ := hex
  have ag : ∀ i, i < Mp.acc.length → ∀ z, Zw k (TailW k Mp) (e + 1) z → accT Mq (runT Mq.tab 0 (hw i)) z = accT Mp i z := fun i hi z ⟨m, t, h1, h2, h3, h4⟩ => by
    have := agree (hw i ++ m ++ t) ⟨i, hw i, m, t, hi, hhw i hi, h1, h2, h3, rfl⟩
    rw [List.append_assoc, ← h4, accT_app, accT_app, (hhw i hi).2.1] at this
    exact this.symm
  have s : Stab k Mq (TailW k Mp) e := stab_by Wq.tb (n0 := Mp.acc.length) (fun D hD => by
    have sub : ∀ z ∈ (List.range Mp.acc.length).map (fun i => sig k Mq (TailW k Mp) 0 (runT Mq.tab 0 (hw i))), z ∈ D := fun z hz => by
      obtain ⟨i, hi, rfl⟩ := List.mem_map.mp hz
      have hi' := List.mem_range.mp hi
      exact (hD.mem _).mpr ⟨_, List.mem_range.mpr (Wq.tb.run Wq.pos (hhw i hi').1), rfl⟩
    have inj : ∀ i j, i < Mp.acc.length → j < Mp.acc.length → sig k Mq (TailW k Mp) 0 (runT Mq.tab 0 (hw i)) = sig k Mq (TailW k Mp) 0 (runT Mq.tab 0 (hw j)) → i = j := fun i j hi hj h => by
      apply Classical.byContradiction
      intro ne
      obtain ⟨t, h1, h2⟩ := tail_tells red hi hj ne
      have hz : Zw k (TailW k Mp) 0 t := ⟨[], t, fun _ h => (by cases h), Nat.le_refl _, h1, rfl⟩
      have hz2 : Zw k (TailW k Mp) (e + 1) t := ⟨[], t, fun _ h => (by cases h), Nat.zero_le _, h1, rfl⟩
      have := sig_eq.mp h t hz
      rw [ag i hi t hz2, ag j hj t hz2] at this
      exact h2 this
    have nd : ((List.range Mp.acc.length).map (fun i => sig k Mq (TailW k Mp) 0 (runT Mq.tab 0 (hw i)))).Nodup := by
      have gen : ∀ l : List Nat, l.Nodup → (∀ i ∈ l, i < Mp.acc.length) → (l.map (fun i => sig k Mq (TailW k Mp) 0 (runT Mq.tab 0 (hw i)))).Nodup := by
        intro l
        induction l with
        | nil => exact fun _ _ => List.nodup_nil
        | cons a l ih =>
          intro hn hl
          obtain ⟨n1, n2⟩ := List.nodup_cons.mp hn
          rw [List.map_cons, List.nodup_cons]
          refine ⟨fun z => ?_, ih n2 fun i hi => hl i (List.mem_cons_of_mem _ hi)⟩
          obtain ⟨b, hb, eb⟩ := List.mem_map.mp z
          have := inj b a (hl b (List.mem_cons_of_mem _ hb)) (hl a List.mem_cons_self) eb
          rw [this] at hb
          exact n1 hb
      exact gen _ List.nodup_range fun i hi => List.mem_range.mp hi
    have := @nodup_len _ (fun a b => Classical.propDecidable _) _ D nd sub
    rwa [List.length_map, List.length_range] at this) hN
  have walk : ∀ (n : Nat) (v : List Nat), v.length = n → okW k v → Ew k Mq (TailW k Mp) e (runT Mq.tab 0 v) (runT Mq.tab 0 (hw (runT Mp.tab 0 v))) := by
    intro n
    induction n with
    | zero =>
      intro v hv _
      obtain rfl := List.eq_nil_of_length_eq_zero hv
      have h0 : hw (runT Mp.tab 0 []) = [] := (hhw 0 W.pos).uniq ⟨fun _ h => (by cases h), rfl, fun v _ _ => sle_nil v⟩
      rw [h0]
      exact fun z _ => rfl
    | succ n ih =>
      intro v hv ok
      obtain ⟨u, c, oku, hu, hc, rfl⟩ := word_snoc.mp ⟨ok, hv⟩
      have hi := W.tb.run W.pos oku
      have h1 := ih u hu oku
      have b1 := Wq.tb.run Wq.pos oku
      have b2 := Wq.tb.run Wq.pos (hhw _ hi).1
      have h2 := (s _ _ b1 b2 h1).step hc
      intro z hz
      have e1 : runT Mq.tab 0 (u ++ [c]) = nxt Mq.tab (runT Mq.tab 0 u) c := by rw [runT_app]; rfl
      have e2 : runT Mp.tab 0 (u ++ [c]) = nxt Mp.tab (runT Mp.tab 0 u) c := by rw [runT_app]; rfl
      rw [e1, h2 z hz, e2]
      obtain ⟨m, t, z1, z2, z3, z4⟩ := hz
      have hz1 : Zw k (TailW k Mp) (e + 1) (c :: z) := ⟨c :: m, t, fun d hd => by
        rcases List.mem_cons.mp hd with y | y
        · rw [y]; exact hc
        · exact z1 d y, by rw [List.length_cons]; omega, z3, by rw [z4]; rfl⟩
      have hz2 : Zw k (TailW k Mp) (e + 1) z := ⟨m, t, z1, by omega, z3, z4⟩
      have a1 := ag _ hi (c :: z) hz1
      have a2 := ag _ (W.tb.lt hi hc) z hz2
      rw [a2]
      exact a1
  intro v ok
  have hi := W.tb.run W.pos ok
  have hz : Zw k (TailW k Mp) e [] := ⟨[], [], fun _ h => (by cases h), Nat.zero_le _, tail_nil W red, rfl⟩
  have hz2 : Zw k (TailW k Mp) (e + 1) [] := ⟨[], [], fun _ h => (by cases h), Nat.zero_le _, tail_nil W red, rfl⟩
  have h1 := walk v.length v rfl ok [] hz
  rw [ag _ hi [] hz2] at h1
  exact h1.symm
end
end K46
set_option Elab.async false
set_option linter.all false
set_option maxRecDepth 100000
set_option maxHeartbeats 1600000
namespace K46
open PySem PySem.Spec PyProof.Rows L2
/-! ### the suite depends on the language alone -/
structure Min (k : Nat) (M : Mach) : Prop where
  wf : Wf k M
  red : ∀ i j, i < M.acc.length → j < M.acc.length → Eqv k M i j → i = j
  rea : ∀ i, i < M.acc.length → ∃ v, okW k v ∧ runT M.tab 0 v = i
theorem Least.min {k : Nat} {L : List Nat → Bool} {M : Mach} (h : Least k L M) : Min k M := ⟨h.wf, h.red, h.rea⟩
theorem okW.app {k : Nat} {u v : List Nat} (h : okW k u) (h2 : okW k v) : okW k (u ++ v) := fun a ha => (List.mem_append.mp ha).elim (h a) (h2 a)
theorem Min.runs {k : Nat} {M : Mach} (h : Min k M) {u v : List Nat} (hu : okW k u) (hv : okW k v) : runT M.tab 0 u = runT M.tab 0 v ↔ ∀ w, okW k w → accT M 0 (u ++ w) = accT M 0 (v ++ w) := by
  constructor
  · intro e w _
    rw [accT_app, accT_app, e]
  · intro e
    refine h.red _ _ (h.wf.tb.run h.wf.pos hu) (h.wf.tb.run h.wf.pos hv) fun w ok => ?_
    have := e w ok
    rwa [accT_app, accT_app] at this
section
variable {k : Nat} {M1 M2 : Mach}
theorem runs_same (h1 : Min k M1) (h2 : Min k M2) (hL : ∀ v, okW k v → accT M1 0 v = accT M2 0 v) {u v : List Nat} (hu : okW k u) (hv : okW k v) : runT M1.tab 0 u = runT M1.tab 0 v ↔ runT M2.tab 0 u = runT M2.tab 0 v := by
  rw [h1.runs hu hv, h2.runs hu hv]
  constructor
  · intro h w ok
    rw [← hL _ (hu.app ok), ← hL _ (hv.app ok)]
    exact h w ok
  · intro h w ok
    rw [hL _ (hu.app ok), hL _ (hv.app ok)]
    exact h w ok
theorem tailW_lang (h1 : Min k M1) (h2 : Min k M2) (hL : ∀ v, okW k v → accT M1 0 v = accT M2 0 v) {t : List Nat} (h : TailW k M1 t) : TailW k M2 t := by
  rcases h with ⟨hn, ht⟩ | ⟨i, j, hij, hj, hF⟩
  · refine .inl ⟨Nat.le_of_not_lt fun hn2 => ?_, ht⟩
    obtain ⟨u, ou, eu⟩ := h2.rea 0 (by omega)
    obtain ⟨v, ov, ev⟩ := h2.rea 1 hn2
    have a1 := h1.wf.tb.run h1.wf.pos ou
    have a2 := h1.wf.tb.run h1.wf.pos ov
    have := (runs_same h1 h2 hL ou ov).mp (by omega)
    omega
  · obtain ⟨u, ou, eu⟩ := h1.rea i (by omega)
    obtain ⟨v, ov, ev⟩ := h1.rea j hj
    have ne : runT M2.tab 0 u ≠ runT M2.tab 0 v := fun z => by
      have := (runs_same h1 h2 hL ou ov).mpr z
      omega
    have b1 := h2.wf.tb.run h2.wf.pos ou
    have b2 := h2.wf.tb.run h2.wf.pos ov
    have e1 : ∀ w, okW k w → accT M1 i w = accT M2 (runT M2.tab 0 u) w := fun w ok => by
      rw [← eu, ← accT_app, ← accT_app, hL _ (ou.app ok)]
    have e2 : ∀ w, okW k w → accT M1 j w = accT M2 (runT M2.tab 0 v) w := fun w ok => by
      rw [← ev, ← accT_app, ← accT_app, hL _ (ov.app ok)]
    rcases Nat.lt_or_ge (runT M2.tab 0 u) (runT M2.tab 0 v) with z | z
    · exact .inr ⟨_, _, z, b2, hF.imp fun w ok => by rw [e1 w ok, e2 w ok]⟩
    · exact .inr ⟨_, _, Nat.lt_of_le_of_ne z fun y => ne y.symm, b1, hF.imp fun w ok => by rw [e1 w ok, e2 w ok]; exact ⟨fun h y => h y.symm, fun h y => h y.symm⟩⟩
theorem suiteW_lang (h1 : Min k M1) (h2 : Min k M2) (hL : ∀ v, okW k v → accT M1 0 v = accT M2 0 v) {e : Nat} {u : List Nat} (h : SuiteW k M1 e u) : SuiteW k M2 e u := by
  obtain ⟨s, hd, m, t, hs, hF, om, lm, hT, rfl⟩ := h
  refine ⟨runT M2.tab 0 hd, hd, m, t, h2.wf.tb.run h2.wf.pos hF.1, ?_, om, lm, tailW_lang h1 h2 hL hT, rfl⟩
  have e1 : runT M1.tab 0 hd = s := hF.2.1
  refine hF.imp fun v ok => ?_
  rw [← e1]
  exact runs_same h1 h2 hL ok hF.1
end
/-- two lists that rise, of the same words -/
theorem sorted_uniq : ∀ {l m : List (List Nat)}, l.Pairwise slx → m.Pairwise slx → (∀ u, u ∈ l ↔ u ∈ m) → l = m
  | [], [], _, _, _ => rfl
  | [], b :: m, _, _, h => by have := (h b).mpr List.mem_cons_self; cases this
  | a :: l, [], _, _, h => by have := (h a).mp List.mem_cons_self; cases this
  | a :: l, b :: m, h1, h2, h => by
    obtain ⟨p1, p2⟩ := List.pairwise_cons.mp h1
    obtain ⟨q1, q2⟩ := List.pairwise_cons.mp h2
    have e : a = b := by
      rcases List.mem_cons.mp ((h a).mp List.mem_cons_self) with z | z
      · exact z
      · rcases List.mem_cons.mp ((h b).mpr List.mem_cons_self) with y | y
        · exact y.symm
        · exact absurd (slx_trans (p1 b y) (q1 a z)) (slx_irr _)
    subst e
    have : l = m := sorted_uniq p2 q2 fun u => by
      constructor
      · intro hu
        rcases List.mem_cons.mp ((h u).mp (List.mem_cons_of_mem _ hu)) with z | z
        · have y := p1 u hu
          rw [z] at y
          exact absurd y (slx_irr _)
        · exact z
      · intro hu
        rcases List.mem_cons.mp ((h u).mpr (List.mem_cons_of_mem _ hu)) with z | z
        · have y := q1 u hu
          rw [z] at y
          exact absurd y (slx_irr _)
        · exact z
    rw [this]
theorem pw_nodup {l : List (List Nat)} (h : l.Pairwise slx) : l.Nodup := List.Pairwise.imp (fun {a b} (h : slx a b) => (fun e => slx_irr b (by rw [e] at h; exact h) : a ≠ b)) h
theorem nodup_len_eq {α : Type} [DecidableEq α] {l m : List α} (h1 : l.Nodup) (h2 : m.Nodup) (h : ∀ u, u ∈ l ↔ u ∈ m) : l.length = m.length := Nat.le_antisymm (nodup_len l m h1 fun x hx => (h x).mp hx) (nodup_len m l h2 fun x hx => (h x).mpr hx)
end K46
set_option Elab.async false
set_option linter.all false
set_option maxRecDepth 100000
set_option maxHeartbeats 1600000
namespace K46
open PySem PySem.Spec PyProof.Rows L2
/-! ### residual languages; the canonical least machine -/
abbrev Lg := List Nat → Bool
def okB (k : Nat) (v : List Nat) : Bool := v.all fun a => decide (a < k)
theorem okB_iff {k : Nat} {v : List Nat} : okB k v = true ↔ okW k v := by
  unfold okB okW
  rw [List.all_eq_true]
  exact ⟨fun h a ha => of_decide_eq_true (h a ha), fun h a ha => decide_eq_true (h a ha)⟩
def resL (k : Nat) (M : Mach) (q : Nat) : Lg := fun v => okB k v && accT M q v
def stpL (f : Lg) (a : Nat) : Lg := fun v => f (a :: v)
theorem resL_ok {k : Nat} {M : Mach} {q : Nat} {v : List Nat} (h : okW k v) : resL k M q v = accT M q v := by
  unfold resL
  rw [okB_iff.mpr h, Bool.true_and]
theorem resL_step {k : Nat} {M : Mach} {q a : Nat} (ha : a < k) : stpL (resL k M q) a = resL k M (nxt M.tab q a) := by
  funext v
  show (okB k (a :: v) && accT M q (a :: v)) = (okB k v && accT M (nxt M.tab q a) v)
  have e : okB k (a :: v) = okB k v := by
    unfold okB
    rw [List.all_cons, decide_eq_true ha, Bool.true_and]
  rw [e]
  rfl
theorem resL_run {k : Nat} {M : Mach} : ∀ {u : List Nat} {q : Nat}, okW k u → runS stpL (resL k M q) u = resL k M (runT M.tab q u)
  | [], _, _ => rfl
  | a :: u, q, ok => by
    show runS stpL (stpL (resL k M q) a) u = _
    rw [resL_step (ok a List.mem_cons_self)]
    exact resL_run fun x hx => ok x (List.mem_cons_of_mem _ hx)
theorem resL_eq {k : Nat} {M : Mach} {a b : Nat} : resL k M a = resL k M b ↔ Eqv k M a b := by
  constructor
  · intro h v ok
    have := congrFun h v
    rwa [resL_ok ok, resL_ok ok] at this
  · intro h
    funext v
    unfold resL
    by_cases c : okB k v = true
    · rw [h v (okB_iff.mp c)]
    · rw [Bool.not_eq_true] at c
      rw [c]
      rfl
theorem resL_lang {k : Nat} {M1 M2 : Mach} (h : ∀ v, okW k v → accT M1 0 v = accT M2 0 v) : resL k M1 0 = resL k M2 0 := by
  funext v
  unfold resL
  by_cases c : okB k v = true
  · rw [h v (okB_iff.mp c)]
  · rw [Bool.not_eq_true] at c
    rw [c]
    rfl
theorem run_at (f : Lg) : ∀ v : List Nat, runS stpL f v [] = f v
  | [] => rfl
  | a :: v => by
    show runS stpL (stpL f a) v [] = _
    rw [run_at (stpL f a) v]
    rfl
open Classical in
def Canon (k : Nat) (s0 : Lg) (l : List Lg) : Prop := ∃ tx, Bfs k stpL s0 l tx l.length 0
open Classical in
/-- the machine told by its residuals -/
noncomputable def picL (k : Nat) (l : List Lg) : Mach := ⟨l.map fun f => f [], l.map fun f => (List.range k).map fun a => l.idxOf (stpL f a)⟩
section
open Classical
theorem bfs_words {k : Nat} {s0 : Lg} {l : List Lg} {tx : List (List Nat)} (B : Bfs k stpL s0 l tx l.length 0) : tx.Pairwise slx ∧ (∀ u, u ∈ tx ↔ okW k u ∧ ∀ v, okW k v → runS stpL s0 v = runS stpL s0 u → sle u v) ∧ l = tx.map (runS stpL s0) := by
  refine ⟨?_, fun u => ⟨fun h => ?_, fun ⟨ok, h⟩ => ?_⟩, ?_⟩
  · rw [List.pairwise_iff_getElem]
    intro i j hi hj hij
    exact B.srt i j _ _ hij (List.getElem?_eq_getElem hi) (List.getElem?_eq_getElem hj)
  · obtain ⟨j, hj⟩ := List.mem_iff_getElem?.mp h
    have hj2 : j < l.length := by rw [← B.len]; exact (List.getElem?_eq_some_iff.mp hj).1
    obtain ⟨r1, r2⟩ := B.run j _ u (List.getElem?_eq_getElem hj2) hj
    exact ⟨r1, fun v ok e => B.lst j _ u (List.getElem?_eq_getElem hj2) hj v ok (by rw [e, r2])⟩
  · obtain ⟨j, v, e1, e2, e3⟩ := B.all u ok
    obtain ⟨r1, r2⟩ := B.run j _ v e1 e2
    have : u = v := by
      rcases h v r1 r2 with z | z
      · exact z
      · exact absurd z (sle_not.mp e3)
    rw [this]
    exact List.mem_of_getElem? e2
  · apply List.ext_getElem?
    intro i
    rw [List.getElem?_map]
    by_cases h : i < l.length
    · have h2 : i < tx.length := by rw [B.len]; exact h
      obtain ⟨r1, r2⟩ := B.run i _ _ (List.getElem?_eq_getElem h) (List.getElem?_eq_getElem h2)
      rw [List.getElem?_eq_getElem h, List.getElem?_eq_getElem h2, Option.map_some, r2]
    · rw [List.getElem?_eq_none (by omega), List.getElem?_eq_none (by rw [B.len]; omega)]
      rfl
theorem Canon.uniq {k : Nat} {s0 : Lg} {l1 l2 : List Lg} (h1 : Canon k s0 l1) (h2 : Canon k s0 l2) : l1 = l2 := by
  obtain ⟨t1, B1⟩ := h1
  obtain ⟨t2, B2⟩ := h2
  obtain ⟨a1, a2, a3⟩ := bfs_words B1
  obtain ⟨b1, b2, b3⟩ := bfs_words B2
  have : t1 = t2 := sorted_uniq a1 b1 fun u => by rw [a2, b2]
  rw [a3, b3, this]
theorem pic_ok {k : Nat} {M : Mach} {l : List Lg} (few : l.length ≤ 1000) (h : Canon k (resL k M 0) l) : Min k (picL k l) ∧ ∀ v, okW k v → accT (picL k l) 0 v = accT M 0 v := by
  obtain ⟨tx, B⟩ := h
  have cl : ∀ f ∈ l, ∀ b, b < k → stpL f b ∈ l := fun s hs b hb => by
    obtain ⟨i, hi⟩ := List.mem_iff_getElem?.mp hs
    have hi2 : i < l.length := (List.getElem?_eq_some_iff.mp hi).1
    obtain ⟨j, v, e1, _⟩ := B.cov i b s _ (.inl hi2) hb hi (List.getElem?_eq_getElem (by rw [B.len]; exact hi2))
    exact List.mem_of_getElem? e1
  have la : (picL k l).acc.length = l.length := List.length_map ..
  have lt : (picL k l).tab.length = l.length := List.length_map ..
  have step : ∀ i f a, l[i]? = some f → a < k → l[nxt (picL k l).tab i a]? = some (stpL f a) := fun i f a hi ha => by
    have e : nxt (picL k l).tab i a = l.idxOf (stpL f a) := by
      unfold nxt picL
      rw [getD_of (show (l.map fun f => (List.range k).map fun a => l.idxOf (stpL f a))[i]? = some ((List.range k).map fun a => l.idxOf (stpL f a)) by rw [List.getElem?_map, hi]; rfl)]
      exact getD_of (by rw [List.getElem?_map, List.getElem?_range ha]; rfl)
    have hm := cl f (List.mem_of_getElem? hi) a ha
    have hlt : l.idxOf (stpL f a) < l.length := List.idxOf_lt_length_of_mem hm
    rw [e, List.getElem?_eq_getElem hlt]
    exact congrArg some (List.getElem_idxOf hlt)
  have run : ∀ (v : List Nat), okW k v → ∀ i f, l[i]? = some f → l[runT (picL k l).tab i v]? = some (runS stpL f v) := by
    intro v
    induction v with
    | nil => exact fun _ i f h => h
    | cons a v ih => exact fun ok i f h => ih (fun x hx => ok x (List.mem_cons_of_mem _ hx)) _ _ (step i f a h (ok a List.mem_cons_self))
  have acc : ∀ i f v, l[i]? = some f → okW k v → accT (picL k l) i v = f v := fun i f v hi ok => by
    unfold accT
    rw [← run_at f v]
    refine getD_of ?_
    show (l.map fun f => f [])[_]? = _
    rw [List.getElem?_map, run v ok i f hi]
    rfl
  have isRes : ∀ i f, l[i]? = some f → ∃ q, f = resL k M q := fun i f hi => by
    have hi2 : i < tx.length := by rw [B.len]; exact (List.getElem?_eq_some_iff.mp hi).1
    obtain ⟨r1, r2⟩ := B.run i f _ hi (List.getElem?_eq_getElem hi2)
    exact ⟨_, by rw [← r2]; exact resL_run r1⟩
  have lpos : 0 < l.length := (List.getElem?_eq_some_iff.mp B.h0).1
  have wf : Wf k (picL k l) := ⟨by rw [la, lt], by rw [la]; exact lpos, fun r hr => by
    obtain ⟨f, hf, rfl⟩ := List.mem_map.mp hr
    refine ⟨by rw [List.length_map, List.length_range], fun q hq => ?_⟩
    obtain ⟨a, ha, rfl⟩ := List.mem_map.mp hq
    rw [la]
    exact List.idxOf_lt_length_of_mem (cl f hf a (List.mem_range.mp ha)), by rw [la]; exact few⟩
  refine ⟨⟨wf, fun i j hi hj e => ?_, fun i hi => ?_⟩, fun v ok => ?_⟩
  · rw [la] at hi hj
    have gi := List.getElem?_eq_getElem hi
    have gj := List.getElem?_eq_getElem hj
    obtain ⟨p, hp⟩ := isRes i _ gi
    obtain ⟨q, hq⟩ := isRes j _ gj
    have : l[i] = l[j] := by
      rw [hp, hq]
      refine resL_eq.mpr fun v ok => ?_
      have h3 := e v ok
      rw [acc i _ v gi ok, acc j _ v gj ok, hp, hq, resL_ok ok, resL_ok ok] at h3
      exact h3
    rw [this] at gi
    exact nd_ix B.nd gi gj
  · rw [la] at hi
    have hi2 : i < tx.length := by rw [B.len]; exact hi
    obtain ⟨r1, r2⟩ := B.run i _ _ (List.getElem?_eq_getElem hi) (List.getElem?_eq_getElem hi2)
    refine ⟨tx[i], r1, ?_⟩
    have := run tx[i] r1 0 _ B.h0
    rw [r2] at this
    exact nd_ix B.nd this (List.getElem?_eq_getElem hi)
  · rw [acc 0 _ v B.h0 ok, resL_ok ok]
end
end K46
set_option Elab.async false
set_option linter.all false
set_option maxRecDepth 100000
set_option maxHeartbeats 1600000
namespace K46
open PySem PySem.Spec PyProof.Rows L2
/-! ### the dict that tells states apart -/
structure Far (k : Nat) (M : Mach) (H0 H : Hp) (d : Addr) (f : Nat → Nat → Bool) : Prop where
  sm : Same H0 H
  fd : H0 d = none
  ex : ∃ kvs : List (List Key × V), H d = some (.dT kvs) ∧ kvs.length ≤ 400 ∧ ∀ a b, a < M.acc.length → b < M.acc.length → valV kvs (kP (a, b)) = some (.bl (f a b))
  snd : ∀ a b, a < M.acc.length → b < M.acc.length → f a b = true → ∃ v, okW k v ∧ accT M a v ≠ accT M b v
section
variable {k : Nat} {M : Mach} {H0 H H' : Hp} {d : Addr} {f : Nat → Nat → Bool} {a b : Nat}
theorem Far.keep (F : Far k M H0 H d f) (s : Same H H') : Far k M H0 H' d f := by
  obtain ⟨kvs, h1, h2, h3⟩ := F.ex
  exact ⟨F.sm.trans s, F.fd, ⟨kvs, s _ _ h1, h2, h3⟩, F.snd⟩
theorem Far.get (F : Far k M H0 H d f) {p : Addr} (hp : H p = some (.tup [nV a, nV b])) (ha : a < M.acc.length) (hb : b < M.acc.length) : DGet H d (.ref p) (some (.bl (f a b))) := by
  obtain ⟨kvs, h1, h2, h3⟩ := F.ex
  have := DGet.t (k := kP (a, b)) h1 hp
  rw [h3 a b ha hb] at this
  exact this
def upF (f : Nat → Nat → Bool) (a b : Nat) : Nat → Nat → Bool := fun c e => if c = a ∧ e = b then true else f c e
theorem upF_le {f : Nat → Nat → Bool} {a b c e : Nat} (h : f c e = true) : upF f a b c e = true := by
  unfold upF
  by_cases z : c = a ∧ e = b
  · rw [if_pos z]
  · rw [if_neg z]
    exact h
theorem Far.put (F : Far k M H0 H d f) {p : Addr} (hp : H p = some (.tup [nV a, nV b])) (ha : a < M.acc.length) (hb : b < M.acc.length) (hs : ∃ v, okW k v ∧ accT M a v ≠ accT M b v) : ∃ H', DPut H d (.ref p) (.bl true) H' ∧ Far k M H0 H' d (upF f a b) := by
  obtain ⟨kvs, h1, h2, h3⟩ := F.ex
  have small : kvs.length < sizeLine := by rw [sizeLine_eq]; omega
  have len : (putK kvs (kP (a, b)) (.bl true)).length = kvs.length := by
    unfold putK
    rw [valV_any, h3 a b ha hb]
    rw [if_pos (by rfl), List.length_map]
  refine ⟨_, DPut.t (k := kP (a, b)) h1 hp small, same_store F.sm F.fd, F.fd, ⟨_, upd_same, by rw [len]; exact h2, fun c e hc he => ?_⟩, fun c e hc he h => ?_⟩
  · rw [valV_put]
    unfold upF
    by_cases z : c = a ∧ e = b
    · rw [if_pos z, if_pos (by rw [z.1, z.2])]
    · rw [if_neg z, if_neg fun y => z (by have := kP_inj _ _ y; injection this with y1 y2; exact ⟨y1, y2⟩)]
      exact h3 c e hc he
  · unfold upF at h
    by_cases z : c = a ∧ e = b
    · rw [z.1, z.2]
      exact hs
    · rw [if_neg z] at h
      exact F.snd c e hc he h
/-- words of up to T letters that tell a from b are seen -/
def Cp (k : Nat) (M : Mach) (T : Nat) (f : Nat → Nat → Bool) (a b : Nat) : Prop := ∀ v, okW k v → v.length ≤ T → accT M a v ≠ accT M b v → f a b = true
theorem Cp.up {T : Nat} {c e : Nat} (h : Cp k M T f a b) : Cp k M T (upF f c e) a b := fun v ok hl ne => upF_le (h v ok hl ne)
theorem Cp.next {T : Nat} (h0 : Cp k M T f a b) (h : ∀ c, c < k → ∀ v, okW k v → v.length ≤ T → accT M (nxt M.tab a c) v ≠ accT M (nxt M.tab b c) v → f a b = true) : Cp k M (T + 1) f a b := fun v ok hl ne => by
  cases v with
  | nil => exact h0 [] ok (Nat.zero_le _) ne
  | cons c v => exact h c (ok c List.mem_cons_self) v (fun x hx => ok x (List.mem_cons_of_mem _ hx)) (by rw [List.length_cons] at hl; omega) ne
theorem far_eqv (W : Wf k M) (F : Far k M H0 H d f) (hc : ∀ a b, a < M.acc.length → b < M.acc.length → Cp k M M.acc.length f a b) {a b : Nat} (ha : a < M.acc.length) (hb : b < M.acc.length) : f a b = false ↔ Eqv k M a b := by
  constructor
  · intro h
    refine short_word W ha hb fun v ok hl => ?_
    apply Classical.byContradiction
    intro ne
    have := hc a b ha hb v ok (by omega) ne
    rw [h] at this
    cases this
  · intro h
    cases z : f a b with
    | false => rfl
    | true =>
      obtain ⟨v, ok, ne⟩ := F.snd a b ha hb z
      exact absurd (h v ok) ne
end
end K46
set_option Elab.async false
set_option linter.all false
set_option maxRecDepth 100000
set_option maxHeartbeats 1600000
namespace K46
open PySem PySem.Spec PyProof.Rows L2
section
open Classical
/-- the search over residuals -/
def BfsL (k : Nat) (s0 : Lg) (l : List Lg) (tx : List (List Nat)) (at_ a : Nat) : Prop := Bfs k stpL s0 l tx at_ a
variable {k : Nat} {s0 : Lg} {l : List Lg} {tx : List (List Nat)} {at_ a : Nat}
theorem BfsL.start (k : Nat) (s0 : Lg) : BfsL k s0 [s0] [[]] 0 0 := Bfs.start k stpL s0
theorem BfsL.nd (B : BfsL k s0 l tx at_ a) : l.Nodup := Bfs.nd B
theorem BfsL.old (B : BfsL k s0 l tx at_ a) {s : Lg} (hs : l[at_]? = some s) (hm : stpL s a ∈ l) : BfsL k s0 l tx at_ (a + 1) := Bfs.old B hs hm
theorem BfsL.new (B : BfsL k s0 l tx at_ a) {s : Lg} (ha : a < k) (hs : l[at_]? = some s) (hm : stpL s a ∉ l) : ∃ tx', BfsL k s0 (l ++ [stpL s a]) tx' at_ (a + 1) := by
  have hl : at_ < tx.length := by rw [Bfs.len B]; exact (List.getElem?_eq_some_iff.mp hs).1
  exact ⟨_, Bfs.new B ha hs (List.getElem?_eq_getElem hl) hm⟩
theorem BfsL.next (B : BfsL k s0 l tx at_ k) : BfsL k s0 l tx (at_ + 1) 0 := Bfs.next B
theorem BfsL.seen (B : BfsL k s0 l tx at_ a) {i c : Nat} {s : Lg} (h : bef i c at_ a) (hc : c < k) (hs : l[i]? = some s) : stpL s c ∈ l := by
  have hl : i < tx.length := by rw [Bfs.len B]; exact (List.getElem?_eq_some_iff.mp hs).1
  obtain ⟨j, v, e1, _⟩ := Bfs.cov B i c s _ h hc hs (List.getElem?_eq_getElem hl)
  exact List.mem_of_getElem? e1
theorem BfsL.canon (B : BfsL k s0 l tx l.length 0) : Canon k s0 l := ⟨tx, B⟩
/-- closed under the letters -/
theorem Canon.cl (h : Canon k s0 l) {f : Lg} (hf : f ∈ l) {c : Nat} (hc : c < k) : stpL f c ∈ l := by
  obtain ⟨tx, B⟩ := h
  obtain ⟨i, hi⟩ := List.mem_iff_getElem?.mp hf
  exact BfsL.seen (tx := tx) B (.inl (List.getElem?_eq_some_iff.mp hi).1) hc hi
theorem Canon.nd (h : Canon k s0 l) : l.Nodup := by
  obtain ⟨tx, B⟩ := h
  exact Bfs.nd B
theorem pic_acc (k : Nat) (l : List Lg) : (picL k l).acc = l.map fun f => f [] := rfl
theorem pic_row {i : Nat} {f : Lg} (h : l[i]? = some f) : (picL k l).tab[i]? = some ((List.range k).map fun a => l.idxOf (stpL f a)) := by
  show (l.map _)[i]? = _
  rw [List.getElem?_map, h]
  rfl
theorem pic_len (k : Nat) (l : List Lg) : (picL k l).tab.length = l.length := List.length_map ..
theorem idx_of {j : Nat} {g : Lg} (nd : l.Nodup) (h : l[j]? = some g) : l.idxOf g = j := by
  have hm := List.mem_of_getElem? h
  have hlt : l.idxOf g < l.length := List.idxOf_lt_length_of_mem hm
  have e : l[l.idxOf g]? = some g := by
    rw [List.getElem?_eq_getElem hlt]
    exact congrArg some (List.getElem_idxOf hlt)
  exact nd_ix nd e h
theorem pic_row2 {i : Nat} {f : Lg} {row : List Nat} (nd : l.Nodup) (h : l[i]? = some f) (hl : row.length = k) (hr : ∀ a, a < k → ∃ j, row[a]? = some j ∧ l[j]? = some (stpL f a)) : (picL k l).tab[i]? = some row := by
  rw [pic_row h]
  congr 1
  apply List.ext_getElem?
  intro a
  rw [List.getElem?_map]
  by_cases c : a < k
  · obtain ⟨j, e1, e2⟩ := hr a c
    rw [List.getElem?_range c, e1, Option.map_some, idx_of nd e2]
  · rw [List.getElem?_eq_none (by simpa using c), List.getElem?_eq_none (by omega)]
    rfl
end
end K46
set_option Elab.async false
set_option linter.all false
set_option maxRecDepth 100000
set_option maxHeartbeats 1600000
namespace K46
open PySem PySem.Spec PyProof.Rows L2
theorem dpAll_nV {K : PySem.W.Frag} {H : Hp} : ∀ l : List Nat, DpAll K H (l.map nV) (l.map fun n => PyData.int ((n : Nat) : Int))
  | [] => .nil
  | n :: l => .cons (.int _) (dpAll_nV l)
theorem shaped_nats (l : List Nat) : SeqAt.shaped (.list (l.map fun n => PyData.int ((n : Nat) : Int))) = true := by
  have := PySem.W.shaped_ints (l.map fun n => ((n : Nat) : Int))
  rwa [List.map_map] at this
theorem eqv_nil (l : List Nat) : PyData.eqv (.list (l.map fun n => PyData.int ((n : Nat) : Int))) (.list []) = l.isEmpty := by
  cases l <;> simp [PyData.eqv, PyData.eqvAll]
end K46
set_option Elab.async false
set_option linter.all false
set_option maxRecDepth 100000
set_option maxHeartbeats 1600000
namespace K46
open PySem PySem.Spec PyProof.Rows L2
theorem Far.other {k : Nat} {M : Mach} {H0 H : Hp} {d B : Addr} {f : Nat → Nat → Bool} {o : HO} (F : Far k M H0 H d f) (h0 : H0 B = none) (n : d ≠ B) : Far k M H0 (upd H B o) d f := by
  obtain ⟨kvs, h1, h2, h3⟩ := F.ex
  exact ⟨same_store F.sm h0, F.fd, ⟨kvs, (upd_ne n).trans h1, h2, h3⟩, F.snd⟩
/-- the order so far -/
structure OrdI (k : Nat) (M : Mach) (H0 H : Hp) (d O : Addr) (f : Nat → Nat → Bool) (os : List Nat) (p c : Nat) : Prop where
  F : Far k M H0 H d f
  eO : H O = some (.lst (os.map nV))
  lt : ∀ q ∈ os, q < M.acc.length
  B : ∃ tx, BfsL k (resL k M 0) (os.map (resL k M)) tx p c
theorem OrdI.keep {k : Nat} {M : Mach} {H0 H H' : Hp} {d O : Addr} {f : Nat → Nat → Bool} {os : List Nat} {p c : Nat} (I : OrdI k M H0 H d O f os p c) (s : Same H H') : OrdI k M H0 H' d O f os p c := ⟨I.F.keep s, s _ _ I.eO, I.lt, I.B⟩
theorem OrdI.nd {k : Nat} {M : Mach} {H0 H : Hp} {d O : Addr} {f : Nat → Nat → Bool} {os : List Nat} {p c : Nat} (I : OrdI k M H0 H d O f os p c) : os.length ≤ M.acc.length := by
  obtain ⟨tx, B⟩ := I.B
  refine nodup_lt_len (List.Pairwise.of_map (resL k M) (fun a b h e => h (by rw [e])) B.nd) I.lt
theorem OrdI.nO {k : Nat} {M : Mach} {H0 H : Hp} {d O : Addr} {f : Nat → Nat → Bool} {os : List Nat} {p c : Nat} (I : OrdI k M H0 H d O f os p c) : d ≠ O := by
  obtain ⟨kvs, h1, _⟩ := I.F.ex
  exact ne_of h1 I.eO fun z => by cases z
theorem OrdI.other {k : Nat} {M : Mach} {H0 H : Hp} {d O B : Addr} {o : HO} {f : Nat → Nat → Bool} {os : List Nat} {p c : Nat} (I : OrdI k M H0 H d O f os p c) (h0 : H0 B = none) (n1 : d ≠ B) (n2 : O ≠ B) : OrdI k M H0 (upd H B o) d O f os p c := ⟨I.F.other h0 n1, (upd_ne n2).trans I.eO, I.lt, I.B⟩
/-- a row of the picture -/
def PRow (k : Nat) (M : Mach) (os : List Nat) (q : Nat) (row : List Nat) : Prop := ∀ a, a < row.length → ∃ j, row[a]? = some j ∧ (os.map (resL k M))[j]? = some (stpL (resL k M q) a)
section
variable {P : Program} {w : World} {K : PySem.W.Frag} {mg : Str → Option Value} {base : Heap}
/-! ### _law_least -/
abbrev nmLL : List Str := ["_law_letters_here", "_law_accepting", "_law_table", "_law_many", "_law_far", "_law_a", "_law_b", "_law_turn", "_law_k", "_law_order", "_law_at", "_law_rows", "_law_following", "_law_j"]
theorem scLL : FnScope nmLL ["_law_letters_here", "_law_accepting", "_law_table"] (defScope (topS 36)) := C8.fnScope_by (by decide +kernel)
def spLL (K : PySem.W.Frag) : Sp := fun vs H Q _ => ∃ (b : Bool) (x : Str) (ac t : Addr) (M : Mach), vs = [.str x, .ref ac, .ref t] ∧ PartsH b K H ac t M ∧ Wf x.cps.size M ∧ Ltr x ∧ M.acc.length ≤ 20 ∧
  ∀ H' p a' t' (l : List Lg), Same H H' → H p = none → H' p = some (.tup [.str x, .ref a', .ref t']) → PartsH false K H' a' t' (picL x.cps.size l) → Canon x.cps.size (resL x.cps.size M 0) l → l.length ≤ M.acc.length → Q (.ref p) H'
theorem cal_ll (T : Tx K mg) : C8.Cal P w K mg base 1 "_law_least" (spLL K) [] := by
  refine cal_of T (i := 36) 24 rfl (by decide +kernel) scLL (fun _ _ _ _ _ _ us hl => match us, hl with | [_, _, _], _ => rfl) (fun vs H Q E h => ?_) (fun f cdv A outer s H vs Q E hr h => ?_)
  · obtain ⟨b, x, ac, t, M, rfl, _⟩ := h
    rfl
  · obtain ⟨b, x, ac, t, M, rfl, hP, W, L, hn, q⟩ := h
    have hu := hu_of hr
    have hu64 := hr.units
    refine ⟨_, pss_cons (ps_set (i := 3) scLL.nd rfl (.inl rfl) (pe_callB (lenB K) (by rfl) (T.b "len" (by decide +kernel)) PySem.boot_len (pa_cons (pv 1) pa_nil)))
      (pss_cons (ps_set (i := 4) scLL.nd rfl (.inr rfl) pe_dnewT)
      (pss_cons (ps_for PassesOwn.never rfl (pi_range1 (by rfl) (T.b "range" (by decide +kernel)) (pa_cons (pv 3) pa_nil)) (pg_name (i := 5) scLL.nd rfl (.inl rfl))
        (pss_one (ps_for PassesOwn.never rfl (pi_range1 (by rfl) (T.b "range" (by decide +kernel)) (pa_cons (pv 3) pa_nil)) (pg_name (i := 6) scLL.nd rfl (.inl rfl))
          (pss_one (ps_dput hu (pv 4) (pe_tup (pa_cons (pv 5) (pa_cons (pv 6) pa_nil))) (pe_cmpR op_ne (pe_ix (ixB K) (pv 1) (pv 5) (fun _ _ => rfl)) (pe_ix (ixB K) (pv 1) (pv 6) (fun _ _ => rfl)) (by rfl)) rfl)))))
      (pss_cons (ps_for PassesOwn.never rfl (pi_range1 (by rfl) (T.b "range" (by decide +kernel)) (pa_cons (pv 3) pa_nil)) (pg_name (i := 7) scLL.nd rfl (.inl rfl))
        (pss_one (ps_for PassesOwn.never rfl (pi_range1 (by rfl) (T.b "range" (by decide +kernel)) (pa_cons (pv 3) pa_nil)) (pg_name (i := 5) scLL.nd rfl (.inl rfl))
          (pss_one (ps_for PassesOwn.never rfl (pi_range1 (by rfl) (T.b "range" (by decide +kernel)) (pa_cons (pv 3) pa_nil)) (pg_name (i := 6) scLL.nd rfl (.inl rfl))
            (pss_one (ps_for PassesOwn.never rfl (pi_range1 (by rfl) (T.b "range" (by decide +kernel)) (pa_cons (pe_callB call_len_str (by rfl) (T.b "len" (by decide +kernel)) PySem.boot_len (pa_cons (pv 0) pa_nil)) pa_nil)) (pg_name (i := 8) scLL.nd rfl (.inr rfl))
              (pss_one (ps_if (pt_val (pe_dget hu (pv 4) (pe_tup (pa_cons (pe_ix (ixB K) (pe_ix (ixB K) (pv 2) (pv 5) (fun _ _ => rfl)) (pv 8) (fun _ _ => rfl)) (pa_cons (pe_ix (ixB K) (pe_ix (ixB K) (pv 2) (pv 6) (fun _ _ => rfl)) (pv 8) (fun _ _ => rfl)) pa_nil))) (fun _ _ => rfl)))
                (pss_one (ps_dput hu (pv 4) (pe_tup (pa_cons (pv 5) (pa_cons (pv 6) pa_nil))) pe_bl rfl)) pss_nil)))))))))
      (pss_cons (ps_set (i := 9) scLL.nd rfl (.inr rfl) (pe_lst (pa_cons pe_int pa_nil)))
      (pss_cons (ps_for PassesOwn.never rfl (pi_range1 (by rfl) (T.b "range" (by decide +kernel)) (pa_cons (pv 3) pa_nil)) (pg_name (i := 7) scLL.nd rfl (.inl rfl))
        (pss_one (ps_for PassesOwn.never rfl (piB K (pe_callTy (T := "list") (listB K) (by rfl) (T.b "list" (by decide +kernel)) (by decide +kernel) (pa_cons (pv 9) pa_nil))) (pg_name (i := 10) scLL.nd rfl (.inr rfl))
          (pss_one (ps_for PassesOwn.never rfl (pi_range1 (by rfl) (T.b "range" (by decide +kernel)) (pa_cons (pe_callB call_len_str (by rfl) (T.b "len" (by decide +kernel)) PySem.boot_len (pa_cons (pv 0) pa_nil)) pa_nil)) (pg_name (i := 8) scLL.nd rfl (.inr rfl))
            (pss_one (ps_if (pt_cmpR (op_eqD hu64) (pe_lc (own := [("_law_b", 6)]) (g := gName 6) rfl scLL.nd (piB K (pv 9)) (blkOk_by (N := nmLL) (sc := defScope (topS 36)) (by decide +kernel))
                (fun _ _ _ _ _ => pg_name (i := 6) scLL.nd rfl (Or.inl rfl)) (fun _ _ _ _ _ => pts_one (pt_not (pt_val (pe_dget hu (pv 4) (pe_tup (pa_cons (pe_ix (ixB K) (pe_ix (ixB K) (pv 2) (pv 10) (fun _ _ => rfl)) (pv 8) (fun _ _ => rfl)) (pa_cons (pv 6) pa_nil))) (fun _ _ => rfl))))) (fun _ _ _ _ _ => pv 6)) (pe_lst pa_nil) (by rfl))
              (pss_one (ps_expr (pe_bm PySem.F.plainAttrs_list PySem.F.slot_list_append PySem.F.type_list_append mt_append (pv 9) (pa_cons (pe_ix (ixB K) (pe_ix (ixB K) (pv 2) (pv 10) (fun _ _ => rfl)) (pv 8) (fun _ _ => rfl)) pa_nil)))) pss_nil)))))))
      (pss_cons (ps_set (i := 11) scLL.nd rfl (.inl rfl) (pe_lst pa_nil))
      (pss_cons (ps_for PassesOwn.never rfl (piB K (pv 9)) (pg_name (i := 10) scLL.nd rfl (.inr rfl))
        (pss_one (ps_expr (pe_bm PySem.F.plainAttrs_list PySem.F.slot_list_append PySem.F.type_list_append mt_append (pv 11) (pa_cons (pe_callTy (T := "tuple") (tupB K) (by rfl) (T.b "tuple" (by decide +kernel)) (by decide +kernel) (pa_cons
          (pe_lc (own := [("_law_following", 12)]) (g := gName 12) (tt := tYes) rfl scLL.nd (piB K (pe_ix (ixB K) (pv 2) (pv 10) (fun _ _ => rfl))) (blkOk_by (N := nmLL) (sc := defScope (topS 36)) (by decide +kernel))
            (fun _ _ _ _ _ => pg_name (i := 12) scLL.nd rfl (Or.inr rfl)) (fun _ _ _ _ _ => pts_nil) (fun _ _ _ _ _ => pe_ix (ixB K) (pe_lc (own := [("_law_j", 13)]) (g := gName 13) rfl scLL.nd (pi_range1 (by rfl) (T.b "range" (by decide +kernel)) (pa_cons (pe_callB (lenB K) (by rfl) (T.b "len" (by decide +kernel)) PySem.boot_len (pa_cons (pv 9) pa_nil)) pa_nil)) (blkOk_rel (N := nmLL) (sc := defScope (topS 36)) rfl (by decide +kernel))
              (fun _ _ _ _ _ => pg_name (i := 13) scLL.nd rfl (Or.inl rfl)) (fun _ _ _ _ _ => pts_one (pt_not (pt_val (pe_dget hu (pv 4) (pe_tup (pa_cons (pv 12) (pa_cons (pe_ix (ixB K) (pv 9) (pv 13) (fun _ _ => rfl)) pa_nil))) (fun _ _ => rfl))))) (fun _ _ _ _ _ => pv 13)) pe_int (fun _ _ => rfl))) pa_nil)) pa_nil)))))
      (pss_one (ps_ret (pe_tup (pa_cons (pv 0) (pa_cons (pe_callTy (T := "tuple") (tupB K) (by rfl) (T.b "tuple" (by decide +kernel)) (by decide +kernel) (pa_cons (pe_lc (own := [("_law_at", 10)]) (g := gName 10) (tt := tYes) rfl scLL.nd (piB K (pv 9)) (blkOk_by (N := nmLL) (sc := defScope (topS 36)) (by decide +kernel))
            (fun _ _ _ _ _ => pg_name (i := 10) scLL.nd rfl (Or.inl rfl)) (fun _ _ _ _ _ => pts_nil) (fun _ _ _ _ _ => pe_ix (ixB K) (pv 1) (pv 10) (fun _ _ => rfl))) pa_nil)) (pa_cons (pe_callTy (T := "tuple") (tupB K) (by rfl) (T.b "tuple" (by decide +kernel)) (by decide +kernel) (pa_cons (pv 11) pa_nil)) pa_nil))))))))))))), ?_⟩
    obtain ⟨n, en⟩ : ∃ n, M.acc.length = n := ⟨_, rfl⟩
    have npos := W.pos
    have accA : ∀ {H1 : Hp}, Same H H1 → SqB b K H1 ac (M.acc.map V.bl) := fun s => hP.acc.same s
    refine ⟨_, rfl, b, ac, _, rfl, hP.acc, ?_⟩
    rw [List.length_map]
    intro d hd
    have tn : ((M.acc.length : Nat) : Int).toNat = M.acc.length := Int.toNat_natCast _
    have rb1 : (0 : Int) ≤ ((M.acc.length : Nat) : Int) := Int.natCast_nonneg _
    -- the first filling
    refine ⟨_, rfl, _, rfl, by omega, by omega, for_by (wk_range 0 _) (fun i σ H1 => ∃ (y5 y6 : Option V) (kvs : List (List Key × V)), σ = [some (.str x), some (.ref ac), some (.ref t), some (nV M.acc.length), some (.ref d), y5, y6, none, none, none, none, none, none, none] ∧ Same H H1 ∧ H1 d = some (.dT kvs) ∧ kvs.length ≤ i * 20 ∧ ∀ a e, a < i → e < M.acc.length → valV kvs (kP (a, e)) = some (.bl (!decide (V.bl (M.acc.getD a false) = V.bl (M.acc.getD e false)))))
      ⟨none, none, [], rfl, same_upd hd, upd_same, Nat.zero_le _, fun a e h => absurd h (Nat.not_lt_zero _)⟩ (fun _ _ _ _ _ => trivial) (fun i v σ H1 hi hv hI => ?_) (fun σ H1 hI => ?_)⟩
    · obtain ⟨y5, y6, kvs, rfl, sm, ed, kl, hk⟩ := hI
      have hv2 : v = nV i := by
        rw [hv]
        show V.int (0 + (i : Int)) = V.int (i : Int)
        rw [Int.zero_add]
      subst hv2
      have hi2 : i < M.acc.length := by omega
      refine ⟨_, rfl, _, rfl, by omega, by omega, for_by (wk_range 0 _) (fun j σ H1 => ∃ (y6 : Option V) (kvs : List (List Key × V)), σ = [some (.str x), some (.ref ac), some (.ref t), some (nV M.acc.length), some (.ref d), some (nV i), y6, none, none, none, none, none, none, none] ∧ Same H H1 ∧ H1 d = some (.dT kvs) ∧ kvs.length ≤ i * 20 + j ∧ ∀ a e, (a < i ∧ e < M.acc.length) ∨ (a = i ∧ e < j) → valV kvs (kP (a, e)) = some (.bl (!decide (V.bl (M.acc.getD a false) = V.bl (M.acc.getD e false)))))
        ⟨_, kvs, rfl, sm, ed, by omega, fun a e h => h.elim (fun z => hk a e z.1 z.2) fun z => absurd z.2 (Nat.not_lt_zero _)⟩ (fun _ _ _ _ _ => trivial) (fun j v σ H1 hj hv hI => ?_) (fun σ H1 hI => ?_)⟩
      · obtain ⟨y6, kvs, rfl, sm, ed, kl, hk⟩ := hI
        have hv2 : v = nV j := by
          rw [hv]
          show V.int (0 + (j : Int)) = V.int (j : Int)
          rw [Int.zero_add]
        subst hv2
        have hj2 : j < M.acc.length := by omega
        have A1 := acc_at hi2
        have A2 := acc_at hj2
        refine ⟨_, rfl, _, rfl, b, ac, _, _, _, rfl, rfl, accA sm, atI_nat A1, _, rfl, _, rfl, b, ac, _, _, _, rfl, rfl, accA sm, atI_nat A2, rfl, _, rfl, _, rfl, _, rfl, by show 2 ≤ sizeLine; decide, fun p hp => ?_⟩
        have ed2 := same_upd (o := .tup [nV i, nV j]) hp _ _ ed
        have ep2 : upd H1 p (.tup [nV i, nV j]) p = some (.tup [nV i, nV j]) := upd_same
        have sm2 := sm.trans (same_upd (o := .tup [nV i, nV j]) hp)
        have small : kvs.length < sizeLine := by rw [sizeLine_eq]; have : i * 20 ≤ 20 * 20 := Nat.mul_le_mul_right _ (by omega); omega
        refine ⟨d, _, rfl, DPut.t (k := kP (i, j)) ed2 ep2 small, _, _, rfl, same_store sm2 hd, upd_same, Nat.le_trans (length_putK _ _ _) (by omega), fun a e h => ?_⟩
        rw [valV_put]
        by_cases z : a = i ∧ e = j
        · rw [if_pos (by rw [z.1, z.2]), z.1, z.2]
        · rw [if_neg fun y => z (by have := kP_inj _ _ y; injection this with y1 y2; exact ⟨y1, y2⟩)]
          refine hk a e ?_
          rcases h with h | ⟨h1, h2⟩
          · exact .inl h
          · exact .inr ⟨h1, by omega⟩
      · obtain ⟨y6, kvs, rfl, sm, ed, kl, hk⟩ := hI
        rw [tn] at kl hk
        refine ⟨_, _, kvs, rfl, sm, ed, by omega, fun a e ha he => hk a e ?_⟩
        rcases Nat.lt_or_ge a i with z | z
        · exact .inl ⟨z, he⟩
        · exact .inr ⟨by omega, he⟩
    obtain ⟨y5, y6, kvs, rfl, sm, ed, kl, hk⟩ := hI
    rw [tn] at kl hk
    have F0 : Far x.cps.size M H H1 d (fun a e => !decide (V.bl (M.acc.getD a false) = V.bl (M.acc.getD e false))) := ⟨sm, hd, ⟨kvs, ed, by omega, fun a e ha he => hk a e ha he⟩, fun a e ha he h => ⟨[], fun _ h => (by cases h), fun z => by
      have z' : M.acc.getD a false = M.acc.getD e false := z
      rw [z', decide_eq_true rfl] at h
      cases h⟩⟩
    have C0 : ∀ a e, a < M.acc.length → e < M.acc.length → Cp x.cps.size M 0 (fun a e => !decide (V.bl (M.acc.getD a false) = V.bl (M.acc.getD e false))) a e := fun a e ha he v ok hl ne => by
      obtain rfl := List.eq_nil_of_length_eq_zero (Nat.le_zero.mp hl)
      have : ¬ V.bl (M.acc.getD a false) = V.bl (M.acc.getD e false) := fun z => ne (V.bl.inj z)
      show (!decide _) = true
      rw [decide_eq_false this]
      rfl
    generalize (fun a e => !decide (V.bl (M.acc.getD a false) = V.bl (M.acc.getD e false))) = f0 at F0 C0
    clear hk kl ed sm
    -- the turns
    have kl0 : x.cps.size ≤ 2 := L.few
    refine ⟨_, rfl, _, rfl, by omega, by omega, for_by (wk_range 0 _) (fun T σ H1 => ∃ (y5 y6 y7 y8 : Option V) (f : Nat → Nat → Bool), σ = [some (.str x), some (.ref ac), some (.ref t), some (nV M.acc.length), some (.ref d), y5, y6, y7, y8, none, none, none, none, none] ∧ Far x.cps.size M H H1 d f ∧ ∀ a e, a < M.acc.length → e < M.acc.length → Cp x.cps.size M T f a e)
      ⟨_, _, none, none, f0, rfl, F0, C0⟩ (fun _ _ _ _ _ => trivial) (fun T v σ H1 hT hv hI => ?_) (fun σ H1 hI => ?_)⟩
    · obtain ⟨y5, y6, y7, y8, f, rfl, F, hC⟩ := hI
      refine ⟨_, rfl, _, rfl, by omega, by omega, for_by (wk_range 0 _) (fun i σ H1 => ∃ (y5 y6 y8 : Option V) (f : Nat → Nat → Bool), σ = [some (.str x), some (.ref ac), some (.ref t), some (nV M.acc.length), some (.ref d), y5, y6, some v, y8, none, none, none, none, none] ∧ Far x.cps.size M H H1 d f ∧ (∀ a e, a < M.acc.length → e < M.acc.length → Cp x.cps.size M T f a e) ∧ ∀ a e, a < i → e < M.acc.length → Cp x.cps.size M (T + 1) f a e)
        ⟨_, _, _, f, rfl, F, hC, fun a e h => absurd h (Nat.not_lt_zero _)⟩ (fun _ _ _ _ _ => trivial) (fun i v1 σ H1 hi hv1 hI => ?_) (fun σ H1 hI => ?_)⟩
      · obtain ⟨y5, y6, y8, f, rfl, F, hC, hD⟩ := hI
        have hv2 : v1 = nV i := by
          rw [hv1]
          show V.int (0 + (i : Int)) = V.int (i : Int)
          rw [Int.zero_add]
        subst hv2
        have hi2 : i < M.acc.length := by omega
        refine ⟨_, rfl, _, rfl, by omega, by omega, for_by (wk_range 0 _) (fun j σ H1 => ∃ (y6 y8 : Option V) (f : Nat → Nat → Bool), σ = [some (.str x), some (.ref ac), some (.ref t), some (nV M.acc.length), some (.ref d), some (nV i), y6, some v, y8, none, none, none, none, none] ∧ Far x.cps.size M H H1 d f ∧ (∀ a e, a < M.acc.length → e < M.acc.length → Cp x.cps.size M T f a e) ∧ (∀ a e, a < i → e < M.acc.length → Cp x.cps.size M (T + 1) f a e) ∧ ∀ e, e < j → Cp x.cps.size M (T + 1) f i e)
          ⟨_, _, f, rfl, F, hC, hD, fun e h => absurd h (Nat.not_lt_zero _)⟩ (fun _ _ _ _ _ => trivial) (fun j v1 σ H1 hj hv1 hI => ?_) (fun σ H1 hI => ?_)⟩
        · obtain ⟨y6, y8, f, rfl, F, hC, hD, hE⟩ := hI
          have hv2 : v1 = nV j := by
            rw [hv1]
            show V.int (0 + (j : Int)) = V.int (j : Int)
            rw [Int.zero_add]
          subst hv2
          have hj2 : j < M.acc.length := by omega
          have tk : ((x.length : Nat) : Int).toNat = x.cps.size := Int.toNat_natCast _
          have xl : x.length = x.cps.size := rfl
          obtain ⟨rs1, r1, row1, a1, a2, a3, a4, a5, a6⟩ := hP.tab.row W.tb hi2
          obtain ⟨rs2, r2, row2, b1, b2, b3, b4, b5, b6⟩ := hP.tab.row W.tb hj2
          refine ⟨_, rfl, _, rfl, by show x.cps.size ≤ sizeLine; rw [sizeLine_eq]; omega, _, rfl, by omega, by omega, for_by (wk_range 0 _) (fun c σ H1 => ∃ (y8 : Option V) (f : Nat → Nat → Bool), σ = [some (.str x), some (.ref ac), some (.ref t), some (nV M.acc.length), some (.ref d), some (nV i), some (nV j), some v, y8, none, none, none, none, none] ∧ Far x.cps.size M H H1 d f ∧ (∀ a e, a < M.acc.length → e < M.acc.length → Cp x.cps.size M T f a e) ∧ (∀ a e, a < i → e < M.acc.length → Cp x.cps.size M (T + 1) f a e) ∧ (∀ e, e < j → Cp x.cps.size M (T + 1) f i e) ∧ ∀ c', c' < c → ∀ u, okW x.cps.size u → u.length ≤ T → accT M (nxt M.tab i c') u ≠ accT M (nxt M.tab j c') u → f i j = true)
            ⟨_, f, rfl, F, hC, hD, hE, fun c' h => absurd h (Nat.not_lt_zero _)⟩ (fun _ _ _ _ _ => trivial) (fun c v1 σ H1 hc hv1 hI => ?_) (fun σ H1 hI => ?_)⟩
          · obtain ⟨y8, f, rfl, F, hC, hD, hE, hG⟩ := hI
            have hv2 : v1 = nV c := by
              rw [hv1]
              show V.int (0 + (c : Int)) = V.int (c : Int)
              rw [Int.zero_add]
            subst hv2
            rw [tk] at hc
            have n1 := W.tb.lt hi2 hc
            have n2 := W.tb.lt hj2 hc
            refine ⟨_, rfl, _, rfl, _, rfl, b, t, _, _, _, rfl, rfl, a1.same F.sm, atI_nat a2, _, rfl, b, r1, _, _, _, rfl, rfl, a3.same F.sm, atI_nat (by rw [List.getElem?_map, a6 c hc]; rfl), _, rfl, _, rfl, b, t, _, _, _, rfl, rfl, b1.same F.sm, atI_nat b2, _, rfl, b, r2, _, _, _, rfl, rfl, b3.same F.sm, atI_nat (by rw [List.getElem?_map, b6 c hc]; rfl), by show 2 ≤ sizeLine; decide, fun p hp => ?_⟩
            have ep2 : upd H1 p (.tup [nV (nxt M.tab i c), nV (nxt M.tab j c)]) p = some (.tup [nV (nxt M.tab i c), nV (nxt M.tab j c)]) := upd_same
            have F2 := F.keep (same_upd (o := .tup [nV (nxt M.tab i c), nV (nxt M.tab j c)]) hp)
            generalize upd H1 p (.tup [nV (nxt M.tab i c), nV (nxt M.tab j c)]) = H2 at ep2 F2 ⊢
            refine ⟨d, _, rfl, F2.get ep2 n1 n2, _, rfl, ?_⟩
            cases hf : f (nxt M.tab i c) (nxt M.tab j c) with
            | false =>
              refine iteF ⟨_, f, rfl, F2, hC, hD, hE, fun c' h u ok hl ne => ?_⟩
              rcases Nat.lt_or_ge c' c with z | z
              · exact hG c' z u ok hl ne
              · have e : c' = c := by omega
                rw [e] at ne
                have := hC _ _ n1 n2 u ok hl ne
                rw [hf] at this
                cases this
            | true =>
              refine iteT ⟨_, rfl, _, rfl, _, rfl, by show 2 ≤ sizeLine; decide, fun p3 hp3 => ?_⟩
              have F3 := F2.keep (same_upd (o := .tup [nV i, nV j]) hp3)
              have ep3 : upd H2 p3 (.tup [nV i, nV j]) p3 = some (.tup [nV i, nV j]) := upd_same
              obtain ⟨u, ok, ne⟩ := F2.snd _ _ n1 n2 hf
              obtain ⟨H4, dp, F4⟩ := F3.put ep3 hi2 hj2 ⟨c :: u, fun y hy => by
                rcases List.mem_cons.mp hy with z | z
                · rw [z]; exact hc
                · exact ok y z, ne⟩
              refine ⟨d, H4, rfl, dp, _, upF f i j, rfl, F4, fun a e ha he => (hC a e ha he).up, fun a e ha he => (hD a e ha he).up, fun e he => (hE e he).up, fun c' _ u _ _ _ => ?_⟩
              unfold upF
              exact if_pos ⟨rfl, rfl⟩
          · obtain ⟨y8, f, rfl, F, hC, hD, hE, hG⟩ := hI
            rw [tk] at hG
            refine ⟨_, _, f, rfl, F, hC, hD, fun e he => ?_⟩
            rcases Nat.lt_or_ge e j with z | z
            · exact hE e z
            · have ee : e = j := by omega
              rw [ee]
              exact (hC i j hi2 hj2).next fun c hc u ok hl ne => hG c hc u ok hl ne
        · obtain ⟨y6, y8, f, rfl, F, hC, hD, hE⟩ := hI
          rw [tn] at hE
          refine ⟨_, _, _, f, rfl, F, hC, fun a e ha he => ?_⟩
          rcases Nat.lt_or_ge a i with z | z
          · exact hD a e z he
          · have ee : a = i := by omega
            rw [ee]
            exact hE e he
      · obtain ⟨y5, y6, y8, f, rfl, F, hC, hD⟩ := hI
        rw [tn] at hD
        exact ⟨_, _, _, _, f, rfl, F, fun a e ha he => hD a e ha he⟩
    obtain ⟨y5, y6, y7, y8, f, rfl, F, hC⟩ := hI
    rw [tn] at hC
    have fe : ∀ {a e : Nat}, a < M.acc.length → e < M.acc.length → (f a e = false ↔ Eqv x.cps.size M a e) := fun ha he => far_eqv W F hC ha he
    clear hC F0 C0
    -- the order
    refine ⟨by show 1 ≤ sizeLine; decide, fun O hO => ?_⟩
    have nO0 : H O = none := by
      cases z : H O with
      | none => rfl
      | some o => rw [F.sm _ _ z] at hO; cases hO
    have ntab : ∀ {q c : Nat}, q < M.acc.length → c < x.cps.size → nxt M.tab q c < M.acc.length := fun h1 h2 => W.tb.lt h1 h2
    have nOd : d ≠ O := by
      obtain ⟨kvs, h1, _⟩ := F.ex
      exact ne_of_none h1 hO
    have I0 : OrdI x.cps.size M H (upd H1 O (.lst [.int 0])) d O f [0] 0 0 := ⟨F.other nO0 nOd, upd_same, fun q h => by rw [List.mem_singleton.mp h]; exact npos, _, BfsL.start _ _⟩
    generalize upd H1 O (.lst [.int 0]) = H2 at I0 ⊢
    have tk : ((x.length : Nat) : Int).toNat = x.cps.size := Int.toNat_natCast _
    have xl : x.length = x.cps.size := rfl
    refine ⟨_, rfl, _, rfl, by omega, by omega, for_by (wk_range 0 _) (fun T σ H1 => ∃ (y5 y6 y7 y8 y10 : Option V) (os : List Nat) (fr : Nat), σ = [some (.str x), some (.ref ac), some (.ref t), some (nV M.acc.length), some (.ref d), y5, y6, y7, y8, some (.ref O), y10, none, none, none] ∧ OrdI x.cps.size M H H1 d O f os fr 0 ∧ fr ≤ os.length ∧ (fr = os.length ∨ T ≤ fr))
      ⟨_, _, _, _, none, [0], 0, rfl, I0, Nat.zero_le _, .inr (Nat.le_refl _)⟩ (fun _ _ _ _ _ => trivial) (fun T v σ H1 hT hv hI => ?_) (fun σ H1 hI => ?_)⟩
    · obtain ⟨y5, y6, y7, y8, y10, os0, fr0, rfl, I, hfr, hT2⟩ := hI
      refine ⟨_, rfl, O, _, rfl, .inl (SqL.of I.eO), fun C hC => ?_⟩
      have I1 := I.keep (same_upd (o := .lst (os0.map nV)) hC)
      have eC1 : upd H1 C (.lst (os0.map nV)) C = some (.lst (os0.map nV)) := upd_same
      have nCO : C ≠ O := fun z => by rw [z, I.eO] at hC; cases hC
      generalize upd H1 C (.lst (os0.map nV)) = H3 at I1 eC1 ⊢
      refine ⟨C, true, rfl, ⟨_, .lst eC1⟩, for_by (wk_seq true K C (os0.map nV)) (fun i σ H4 => ∃ (y8 y10 : Option V) (os z : List Nat), σ = [some (.str x), some (.ref ac), some (.ref t), some (nV M.acc.length), some (.ref d), y5, y6, some v, y8, some (.ref O), y10, none, none, none] ∧ H4 C = some (.lst (os0.map nV)) ∧ os = os0 ++ z ∧ (i ≤ fr0 → z = []) ∧ OrdI x.cps.size M H H4 d O f os (max i fr0) 0)
        ⟨_, _, os0, [], rfl, eC1, by simp, fun _ => rfl, by rw [Nat.zero_max]; exact I1⟩ (fun i σ H4 _ hI => ?_) (fun i v1 σ H4 hi hv1 hI => ?_) (fun σ H4 hI => ?_)⟩
      · obtain ⟨_, _, _, _, _, h, _⟩ := hI
        exact .lst h
      · obtain ⟨y8, y10, os, z, rfl, eC, hz, hzi, I4⟩ := hI
        rw [List.length_map] at hi
        have hq0 := List.getElem?_eq_getElem hi
        rw [List.getElem?_map, hq0] at hv1
        cases hv1
        have hosi : os[i]? = some os0[i] := by rw [hz]; exact get_app hq0
        have hqn := I4.lt _ (List.mem_of_getElem? hosi)
        generalize os0[i] = qs at hq0 hosi hqn
        have hmx : max i fr0 = if i < fr0 then fr0 else i := by
          by_cases c : i < fr0
          · rw [if_pos c]; omega
          · rw [if_neg c]; omega
        rw [hmx] at I4
        refine ⟨_, rfl, _, rfl, by show x.cps.size ≤ sizeLine; rw [sizeLine_eq]; omega, _, rfl, by omega, by omega, for_by (wk_range 0 _) (fun c σ H5 => ∃ (y8 : Option V) (os z : List Nat), σ = [some (.str x), some (.ref ac), some (.ref t), some (nV M.acc.length), some (.ref d), y5, y6, some v, y8, some (.ref O), some (nV qs), none, none, none] ∧ H5 C = some (.lst (os0.map nV)) ∧ os = os0 ++ z ∧ (i < fr0 → z = []) ∧ OrdI x.cps.size M H H5 d O f os (if i < fr0 then fr0 else i) (if i < fr0 then 0 else c))
          ⟨_, os, z, rfl, eC, hz, fun h => hzi (by omega), by rw [ite_self]; exact I4⟩ (fun _ _ _ _ _ => trivial) (fun c v1 σ H5 hc hv1 hI => ?_) (fun σ H5 hI => ?_)⟩
        · clear hosi I4 hz hzi
          obtain ⟨y8, os, z, rfl, eC, hz, hzi, I5⟩ := hI
          rw [tk] at hc
          have hv2 : v1 = nV c := by
            rw [hv1]
            show V.int (0 + (c : Int)) = V.int (c : Int)
            rw [Int.zero_add]
          subst hv2
          have hosi : os[i]? = some qs := by rw [hz]; exact get_app hq0
          have nq := W.tb.lt hqn hc
          have few := I5.nd
          obtain ⟨rs1, r1, row1, a1, a2, a3, a4, a5, a6⟩ := hP.tab.row W.tb hqn
          have hli : (os.map (resL x.cps.size M))[i]? = some (resL x.cps.size M qs) := by rw [List.getElem?_map, hosi]; rfl
          have hstp : stpL (resL x.cps.size M qs) c = resL x.cps.size M (nxt M.tab qs c) := resL_step hc
          have hmem : stpL (resL x.cps.size M qs) c ∈ os.map (resL x.cps.size M) ↔ ∃ e ∈ os, f (nxt M.tab qs c) e = false := by
            rw [hstp, List.mem_map]
            constructor
            · rintro ⟨e, he, h⟩
              exact ⟨e, he, (fe nq (I5.lt e he)).mpr (resL_eq.mp h.symm)⟩
            · rintro ⟨e, he, h⟩
              exact ⟨e, he, (resL_eq.mpr ((fe nq (I5.lt e he)).mp h)).symm⟩
          refine ⟨_, rfl, O, true, rfl, ⟨_, .lst I5.eO⟩, fun E hE => lc_byT (wk_seq true K O (os.map nV)) (fun j H6 => Same H5 H6 ∧ H6 E = some (.lst (((os.take j).filter fun e => !f (nxt M.tab qs c) e).map nV))) ⟨same_upd hE, by rw [upd_same]; rfl⟩ (fun j H6 _ hP2 => .lst (hP2.1 _ _ I5.eO)) (fun j v3 H6 hj hv3 hP2 => ?_) (fun H6 hP2 => ?_)⟩
          · obtain ⟨s6, eE⟩ := hP2
            rw [List.length_map] at hj
            have hoj := List.getElem?_eq_getElem hj
            rw [List.getElem?_map, hoj] at hv3
            cases hv3
            have hen := I5.lt _ (List.getElem_mem hj)
            generalize os[j] = e at hoj hen
            have sm6 := I5.F.sm.trans s6
            refine ⟨rfl, _, rfl, _, rfl, _, rfl, b, t, _, _, _, rfl, rfl, a1.same sm6, atI_nat a2, _, rfl, b, r1, _, _, _, rfl, rfl, a3.same sm6, atI_nat (by rw [List.getElem?_map, a6 c hc]; rfl), _, rfl, by show 2 ≤ sizeLine; decide, fun p hp => ?_⟩
            have ep : upd H6 p (.tup [nV (nxt M.tab qs c), nV e]) p = some (.tup [nV (nxt M.tab qs c), nV e]) := upd_same
            have s7 := s6.trans (same_upd (o := .tup [nV (nxt M.tab qs c), nV e]) hp)
            have eE7 := same_upd (o := .tup [nV (nxt M.tab qs c), nV e]) hp _ _ eE
            generalize upd H6 p (.tup [nV (nxt M.tab qs c), nV e]) = H7 at ep s7 eE7 ⊢
            have F7 := I5.F.keep s7
            refine ⟨d, _, rfl, F7.get ep nq hen, _, rfl, ?_⟩
            have ft : (os.take (j + 1)).filter (fun e => !f (nxt M.tab qs c) e) = (os.take j).filter (fun e => !f (nxt M.tab qs c) e) ++ (if (!f (nxt M.tab qs c) e) = true then [e] else []) := by
              rw [List.take_add_one, hoj, List.filter_append, Option.toList_some, List.filter_cons, List.filter_nil]
            refine ite2 (fun hf => ?_) (fun hf => ?_)
            · refine ⟨_, rfl, _, eE7, ?_, ?_, ?_⟩
              · rw [List.length_map, sizeLine_eq]
                have := List.length_filter_le (fun e => !f (nxt M.tab qs c) e) (os.take j)
                rw [List.length_take] at this
                omega
              · exact fun b' o h => by
                  rw [upd_ne (ne_of_none h hE)]
                  exact s7 _ _ h
              · rw [upd_same, ft, if_pos hf, List.map_append]
                rfl
            · exact ⟨s7, by rw [eE7, ft, if_neg hf, List.append_nil]⟩
          · obtain ⟨s6, eE⟩ := hP2
            rw [List.length_map, List.take_length] at eE
            have I6 := I5.keep s6
            have eC6 := s6 _ _ eC
            refine ⟨by show 0 ≤ sizeLine; decide, fun Z hZ => ?_⟩
            have I7 := I6.keep (same_upd (o := .lst []) hZ)
            have eC7 := same_upd (o := .lst []) hZ _ _ eC6
            have eE7 := same_upd (o := .lst []) hZ _ _ eE
            have eZ7 : upd H6 Z (.lst []) Z = some (.lst []) := upd_same
            generalize upd H6 Z (.lst []) = H7 at I7 eC7 eE7 eZ7 ⊢
            refine ⟨_, _, .lst (SqL.of eE7) (dpAll_nV _), .lst (SqL.of eZ7) .nil, shaped_nats _, shaped_nats [], _, rfl, ?_⟩
            rw [eqv_nil]
            have hemp : ((os.filter fun e => !f (nxt M.tab qs c) e).isEmpty = true) ↔ stpL (resL x.cps.size M qs) c ∉ os.map (resL x.cps.size M) := by
              rw [hmem, List.isEmpty_iff, List.filter_eq_nil_iff]
              constructor
              · rintro h ⟨e, he, hf⟩
                exact h e he (by rw [hf]; rfl)
              · intro h e he hf
                exact h ⟨e, he, by simpa using hf⟩
            obtain ⟨tx, B⟩ := I7.B
            refine ite2 (fun hf => ?_) (fun hf => ?_)
            · have hnew := hemp.mp hf
              have hlt : ¬ i < fr0 := fun h => by
                rw [if_pos h, if_pos h] at B
                exact hnew (B.seen (.inl h) hc hli)
              rw [if_neg hlt, if_neg hlt] at B
              obtain ⟨tx', B'⟩ := B.new hc hli hnew
              refine ⟨_, rfl, .inl ⟨rfl, _, SqL.of I7.eO⟩, _, rfl, _, rfl, b, t, _, _, _, rfl, rfl, a1.same I7.F.sm, atI_nat a2, _, rfl, b, r1, _, _, nV (nxt M.tab qs c), rfl, rfl, a3.same I7.F.sm, atI_nat (by rw [List.getElem?_map, a6 c hc]; rfl), O, _, _, rfl, rfl, I7.eO, by rw [List.length_map, sizeLine_eq]; omega, _, os ++ [nxt M.tab qs c], z ++ [nxt M.tab qs c], rfl, (upd_ne nCO).trans eC7, by rw [hz, List.append_assoc], fun h => absurd h hlt, I7.F.other nO0 I7.nO, by rw [upd_same, List.map_append]; rfl, fun e he => ?_, tx', ?_⟩
              · rcases List.mem_append.mp he with y | y
                · exact I7.lt e y
                · rw [List.mem_singleton.mp y]
                  exact nq
              · rw [if_neg hlt, if_neg hlt, List.map_append]
                rw [hstp] at B'
                exact B'
            · refine ⟨_, os, z, rfl, eC7, hz, hzi, I7.F, I7.eO, I7.lt, tx, ?_⟩
              by_cases hlt : i < fr0
              · rw [if_pos hlt, if_pos hlt] at B ⊢
                exact B
              · rw [if_neg hlt, if_neg hlt] at B ⊢
                exact B.old hli (Classical.not_not.mp fun z => hf (hemp.mpr z))
        · obtain ⟨y8, os, z, rfl, eC, hz, hzi, I5⟩ := hI
          rw [tk] at I5
          refine ⟨_, _, os, z, rfl, eC, hz, fun h => hzi (by omega), I5.F, I5.eO, I5.lt, ?_⟩
          obtain ⟨tx, B⟩ := I5.B
          by_cases hlt : i < fr0
          · rw [if_pos hlt, if_pos hlt] at B
            rw [show max (i + 1) fr0 = fr0 by omega]
            exact ⟨tx, B⟩
          · rw [if_neg hlt, if_neg hlt] at B
            rw [show max (i + 1) fr0 = i + 1 by omega]
            exact ⟨tx, B.next⟩
      · obtain ⟨y8, y10, os, z, rfl, eC, hz, hzi, I4⟩ := hI
        rw [List.length_map] at hzi I4
        rw [show max os0.length fr0 = os0.length by omega] at I4
        refine ⟨_, _, _, _, _, os, os0.length, rfl, I4, by rw [hz, List.length_append]; omega, ?_⟩
        rcases hT2 with h | h
        · have := hzi (by omega)
          rw [hz, this, List.append_nil]
          exact .inl rfl
        · rcases Nat.lt_or_ge fr0 os0.length with y | y
          · exact .inr (by omega)
          · have := hzi (by omega)
            rw [hz, this, List.append_nil]
            exact .inl rfl
    obtain ⟨y5, y6, y7, y8, y10, os, fr, rfl, I, hfr, hT2⟩ := hI
    rw [tn] at hT2
    have few := I.nd
    have efr : fr = os.length := by omega
    have hcan : Canon x.cps.size (resL x.cps.size M 0) (os.map (resL x.cps.size M)) := by
      obtain ⟨tx, B⟩ := I.B
      rw [efr, ← List.length_map (resL x.cps.size M)] at B
      exact B.canon
    -- the rows
    refine ⟨by show 0 ≤ sizeLine; decide, fun R hR => ?_⟩
    have nR0 : H R = none := by
      cases z : H R with
      | none => rfl
      | some o => rw [I.F.sm _ _ z] at hR; cases hR
    have nRO : O ≠ R := ne_of_none I.eO hR
    have nRd : d ≠ R := by
      obtain ⟨kvs, h1, _⟩ := I.F.ex
      exact ne_of_none h1 hR
    have I1 := I.keep (same_upd (o := .lst []) hR)
    have eR1 : upd H1 R (.lst []) R = some (.lst []) := upd_same
    clear I
    generalize upd H1 R (.lst []) = H3 at I1 eR1 ⊢
    refine ⟨_, rfl, O, true, rfl, ⟨_, .lst I1.eO⟩, for_by (wk_seq true K O (os.map nV)) (fun i σ H4 => ∃ (y10 : Option V) (rs : List Addr) (tab : List (List Nat)), σ = [some (.str x), some (.ref ac), some (.ref t), some (nV M.acc.length), some (.ref d), y5, y6, y7, y8, some (.ref O), y10, some (.ref R), none, none] ∧ OrdI x.cps.size M H H4 d O f os fr 0 ∧ H4 R = some (.lst (rs.map V.ref)) ∧ rs.length = i ∧ tab.length = i ∧ R ∉ rs ∧ (∀ (j : Nat) r0 row, rs[j]? = some r0 → tab[j]? = some row → H4 r0 = some (.tup (row.map nV))) ∧ ∀ (j : Nat) row e, tab[j]? = some row → os[j]? = some e → row.length = x.cps.size ∧ PRow x.cps.size M os e row)
      ⟨_, [], [], rfl, I1, eR1, rfl, rfl, fun h => (by cases h), fun j r0 row e => by simp at e, fun j row e h => by simp at h⟩ (fun i σ H4 _ hI => ?_) (fun i v1 σ H4 hi hv1 hI => ?_) (fun σ H4 hI => ?_)⟩
    · obtain ⟨_, _, _, _, I4, _⟩ := hI
      exact .lst I4.eO
    · obtain ⟨y10, rs, tab, rfl, I4, eR, hl1, hl2, nin, ers, hrow⟩ := hI
      rw [List.length_map] at hi
      have hq0 := List.getElem?_eq_getElem hi
      rw [List.getElem?_map, hq0] at hv1
      cases hv1
      have hqn := I4.lt _ (List.getElem_mem hi)
      have hqm := List.getElem_mem hi
      generalize os[i] = qs at hq0 hqn hqm
      obtain ⟨rs1, r1, row1, a1, a2, a3, a4, a5, a6⟩ := hP.tab.row W.tb hqn
      have sm4 := I4.F.sm
      refine ⟨_, rfl, .inl ⟨rfl, _, SqL.of eR⟩, _, rfl, _, rfl, b, t, _, _, _, rfl, rfl, a1.same sm4, atI_nat a2, r1, b, rfl, ⟨_, a3.same sm4⟩, fun E hE => lc_by (wk_seq b K r1 (row1.map nV)) (fun a H6 => Same H4 H6 ∧ ∃ ix : List Nat, H6 E = some (.lst (ix.map nV)) ∧ ix.length = a ∧ PRow x.cps.size M os qs ix) ⟨same_upd hE, [], by rw [upd_same]; rfl, rfl, fun a h => absurd h (Nat.not_lt_zero _)⟩ (fun a H6 _ hP2 => (a3.same sm4).same hP2.1) (fun a v3 H6 ha hv3 hP2 => ?_) (fun H6 hP2 => ?_)⟩
      · obtain ⟨s6, ix, eE, hl3, hpr⟩ := hP2
        rw [List.length_map, a4] at ha
        rw [List.getElem?_map, a6 a ha] at hv3
        cases hv3
        have nq := W.tb.lt hqn ha
        have I6 := I4.keep s6
        have hstp : stpL (resL x.cps.size M qs) a = resL x.cps.size M (nxt M.tab qs a) := resL_step ha
        have om : ((os.map nV).length : Int).toNat = os.length := by rw [List.length_map]; exact Int.toNat_natCast _
        have om2 : ((os.map nV).length : Int) ≤ 20 := by rw [List.length_map]; omega
        refine ⟨rfl, _, rfl, true, O, _, rfl, .lst I6.eO, _, rfl, by omega, by omega, fun G hG => lc_byT (wk_range 0 _) (fun j H7 => Same H6 H7 ∧ H7 G = some (.lst (((List.range j).filter fun e => !f (nxt M.tab qs a) (os.getD e 0)).map nV))) ⟨same_upd hG, by rw [upd_same]; rfl⟩ (fun _ _ _ _ => trivial) (fun j v4 H7 hj hv4 hP3 => ?_) (fun H7 hP3 => ?_)⟩
        · obtain ⟨s7, eG⟩ := hP3
          rw [om] at hj
          have hv5 : v4 = nV j := by
            rw [hv4]
            show V.int (0 + (j : Int)) = V.int (j : Int)
            rw [Int.zero_add]
          subst hv5
          have hoj := List.getElem?_eq_getElem hj
          have hod : os.getD j 0 = os[j] := getD_of hoj
          have hen := I4.lt _ (List.getElem_mem hj)
          refine ⟨rfl, _, rfl, _, rfl, _, rfl, _, rfl, true, O, _, _, _, rfl, rfl, .lst (s7 _ _ I6.eO), atI_nat (by rw [List.getElem?_map, hoj]; rfl), by show 2 ≤ sizeLine; decide, fun p hp => ?_⟩
          have ep : upd H7 p (.tup [nV (nxt M.tab qs a), nV os[j]]) p = some (.tup [nV (nxt M.tab qs a), nV os[j]]) := upd_same
          have s8 := s7.trans (same_upd (o := .tup [nV (nxt M.tab qs a), nV os[j]]) hp)
          have eG8 := same_upd (o := .tup [nV (nxt M.tab qs a), nV os[j]]) hp _ _ eG
          generalize upd H7 p (.tup [nV (nxt M.tab qs a), nV os[j]]) = H8 at ep s8 eG8 ⊢
          have F8 := I6.F.keep s8
          refine ⟨d, _, rfl, F8.get ep nq hen, _, rfl, ?_⟩
          have ft : (List.range (j + 1)).filter (fun e => !f (nxt M.tab qs a) (os.getD e 0)) = (List.range j).filter (fun e => !f (nxt M.tab qs a) (os.getD e 0)) ++ (if (!f (nxt M.tab qs a) os[j]) = true then [j] else []) := by
            rw [List.range_succ, List.filter_append, List.filter_cons, List.filter_nil, hod]
          refine ite2 (fun hf => ?_) (fun hf => ?_)
          · refine ⟨_, rfl, _, eG8, ?_, ?_, ?_⟩
            · rw [List.length_map, sizeLine_eq]
              have := List.length_filter_le (fun e => !f (nxt M.tab qs a) (os.getD e 0)) (List.range j)
              rw [List.length_range] at this
              omega
            · exact fun b' o h => by
                rw [upd_ne (ne_of_none h hG)]
                exact s8 _ _ h
            · rw [upd_same, ft, if_pos hf, List.map_append]
              rfl
          · exact ⟨s8, by rw [eG8, ft, if_neg hf, List.append_nil]⟩
        · obtain ⟨s7, eG⟩ := hP3
          rw [om] at eG
          have hex := hcan.cl (List.mem_map.mpr ⟨qs, hqm, rfl⟩) ha
          rw [hstp] at hex
          obtain ⟨e0, he0, hr0⟩ := List.mem_map.mp hex
          obtain ⟨j0, hj0⟩ := List.mem_iff_getElem?.mp he0
          have hj0l := (List.getElem?_eq_some_iff.mp hj0).1
          have hin : j0 ∈ (List.range os.length).filter (fun e => !f (nxt M.tab qs a) (os.getD e 0)) := by
            rw [List.mem_filter]
            refine ⟨List.mem_range.mpr hj0l, ?_⟩
            rw [getD_of hj0, (fe nq (I4.lt e0 he0)).mpr (resL_eq.mp hr0.symm)]
            rfl
          cases hfl : (List.range os.length).filter (fun e => !f (nxt M.tab qs a) (os.getD e 0)) with
          | nil => rw [hfl] at hin; cases hin
          | cons j1 rest =>
            rw [hfl] at eG
            have hj1 : j1 ∈ (List.range os.length).filter (fun e => !f (nxt M.tab qs a) (os.getD e 0)) := by rw [hfl]; exact List.mem_cons_self
            obtain ⟨h1, h2⟩ := List.mem_filter.mp hj1
            have h1' := List.mem_range.mp h1
            have hoj := List.getElem?_eq_getElem h1'
            rw [getD_of hoj] at h2
            have hres : resL x.cps.size M os[j1] = stpL (resL x.cps.size M qs) a := by
              rw [hstp]
              exact (resL_eq.mpr ((fe nq (I4.lt _ (List.getElem_mem h1'))).mp (by simpa using h2))).symm
            have hat0 : atI (List.map nV (j1 :: rest)) 0 = some (nV j1) := atI_nat (j := 0) rfl
            refine ⟨true, G, _, 0, nV j1, rfl, rfl, .lst eG, hat0, _, s7 _ _ eE, by rw [List.length_map, sizeLine_eq]; omega, ?_, ix ++ [j1], by rw [upd_same, List.map_append]; rfl, by rw [List.length_append, hl3]; rfl, fun a' ha' => ?_⟩
            · exact fun b' o h => by
                rw [upd_ne (ne_of_none h hE)]
                exact s7 _ _ (s6 _ _ h)
            · rw [List.length_append, List.length_singleton] at ha'
              rcases Nat.lt_or_ge a' ix.length with y | y
              · obtain ⟨j, e1, e2⟩ := hpr a' y
                exact ⟨j, app_l e1, e2⟩
              · have ea : a' = ix.length := by omega
                rw [ea]
                refine ⟨j1, app_r, ?_⟩
                rw [List.getElem?_map, hoj, Option.map_some, hres, hl3]
      · obtain ⟨s6, ix, eE, hl3, hpr⟩ := hP2
        rw [List.length_map, a4] at hl3
        have I6 := I4.keep s6
        have eR6 := s6 _ _ eR
        refine ⟨E, _, rfl, .inl ⟨SqL.of eE, fun t0 ht0 => ?_⟩⟩
        have I7 := I6.keep (same_upd (o := .tup (ix.map nV)) ht0)
        have s7 := s6.trans (same_upd (o := .tup (ix.map nV)) ht0)
        have eR7 := same_upd (o := .tup (ix.map nV)) ht0 _ _ eR6
        have et7 : upd H6 t0 (.tup (ix.map nV)) t0 = some (.tup (ix.map nV)) := upd_same
        generalize upd H6 t0 (.tup (ix.map nV)) = H7 at I7 s7 eR7 et7 ⊢
        have nt0 : t0 ≠ R := ne_of et7 eR7 fun z => by cases z
        refine ⟨R, _, _, rfl, rfl, eR7, by rw [List.length_map, hl1, sizeLine_eq]; omega, _, rs ++ [t0], tab ++ [ix], rfl, I7.other nR0 nRd nRO, by rw [upd_same, List.map_append]; rfl, by rw [List.length_append, hl1]; rfl, by rw [List.length_append, hl2]; rfl, fun z => ?_, fun j r0 row e1 e2 => ?_, fun j row e e1 e2 => ?_⟩
        · rcases List.mem_append.mp z with y | y
          · exact nin y
          · exact nt0 (List.mem_singleton.mp y).symm
        · rcases app_at e1 with ⟨z, e1⟩ | ⟨z, rfl⟩
          · rcases app_at e2 with ⟨_, e2⟩ | ⟨y, _⟩
            · rw [upd_ne (fun y => nin (by rw [← y]; exact List.mem_of_getElem? e1))]
              exact s7 _ _ (ers j r0 row e1 e2)
            · omega
          · rcases app_at e2 with ⟨y, _⟩ | ⟨_, rfl⟩
            · omega
            · rw [upd_ne nt0]
              exact et7
        · rcases app_at e1 with ⟨z, e1⟩ | ⟨z, rfl⟩
          · exact hrow j row e e1 e2
          · rw [z, hl2, hq0] at e2
            cases e2
            exact ⟨hl3, hpr⟩
    · obtain ⟨y10, rs, tab, rfl, I4, eR, hl1, hl2, nin, ers, hrow⟩ := hI
      rw [List.length_map] at hl1 hl2
      have sm4 := I4.F.sm
      refine ⟨_, rfl, .ref O, rfl, O, true, rfl, ⟨_, .lst I4.eO⟩, fun G hG => lc_pure (wk_seq true K O (os.map nV)) (fun i => .bl (M.acc.getD (os.getD i 0) false)) (by rw [List.length_map]; omega) (fun i acc _ => .lst (same_upd hG _ _ I4.eO)) (fun i v2 acc hi hv2 H5 e5 => ?_) ?_ (fun σ H Q Q' m q => ?_) (fun _ _ _ _ _ m q => m _ _ q)⟩
      · rw [List.length_map] at hi
        have hoi := List.getElem?_eq_getElem hi
        rw [List.getElem?_map, hoi] at hv2
        cases hv2
        have hen := I4.lt _ (List.getElem_mem hi)
        have s5 : Same H4 H5 := by rw [e5]; exact same_upd hG
        rw [getD_of hoi]
        exact ⟨rfl, _, rfl, _, rfl, b, ac, _, _, _, rfl, rfl, accA (sm4.trans s5), atI_nat (acc_at hen), e5, rfl⟩
      · rw [List.length_map]
        have eA : (List.range os.length).map (fun i => V.bl (M.acc.getD (os.getD i 0) false)) = (picL x.cps.size (os.map (resL x.cps.size M))).acc.map V.bl := by
          rw [pic_acc, List.map_map, List.map_map]
          apply List.ext_getElem?
          intro i
          rw [List.getElem?_map, List.getElem?_map]
          by_cases h : i < os.length
          · rw [List.getElem?_range h, List.getElem?_eq_getElem h, Option.map_some, Option.map_some, getD_of (List.getElem?_eq_getElem h)]
            show some (V.bl _) = some (V.bl (resL x.cps.size M os[i] []))
            rw [resL_ok fun _ h => (by cases h)]
            rfl
          · rw [List.getElem?_eq_none (by simpa using h), List.getElem?_eq_none (by simpa using h)]
            rfl
        rw [eA]
        refine ⟨G, _, rfl, .inl ⟨SqL.of upd_same, fun t1 ht1 => ?_⟩⟩
        have s6 := (same_upd (o := .lst ((picL x.cps.size (os.map (resL x.cps.size M))).acc.map V.bl)) hG).trans (same_upd (o := .tup ((picL x.cps.size (os.map (resL x.cps.size M))).acc.map V.bl)) ht1)
        have et1 : upd (upd H4 G (.lst ((picL x.cps.size (os.map (resL x.cps.size M))).acc.map V.bl))) t1 (.tup ((picL x.cps.size (os.map (resL x.cps.size M))).acc.map V.bl)) t1 = some (.tup ((picL x.cps.size (os.map (resL x.cps.size M))).acc.map V.bl)) := upd_same
        generalize upd (upd H4 G (.lst ((picL x.cps.size (os.map (resL x.cps.size M))).acc.map V.bl))) t1 (.tup ((picL x.cps.size (os.map (resL x.cps.size M))).acc.map V.bl)) = H6 at s6 et1 ⊢
        refine ⟨_, rfl, R, _, rfl, .inl ⟨SqL.of (s6 _ _ eR), fun t2 ht2 => ⟨by show 3 ≤ sizeLine; decide, fun p hp => ?_⟩⟩⟩
        have s7 := s6.trans ((same_upd (o := .tup (rs.map V.ref)) ht2).trans (same_upd (o := .tup [.str x, .ref t1, .ref t2]) hp))
        have tabE : (picL x.cps.size (os.map (resL x.cps.size M))).tab = tab := by
          apply List.ext_getElem?
          intro j
          by_cases h : j < os.length
          · have htj := List.getElem?_eq_getElem (show j < tab.length by omega)
            have hoj := List.getElem?_eq_getElem h
            obtain ⟨r1, r2⟩ := hrow j _ _ htj hoj
            rw [htj]
            refine pic_row2 hcan.nd (by rw [List.getElem?_map, hoj]; rfl) r1 fun a ha => r2 a (by omega)
          · rw [List.getElem?_eq_none (by rw [pic_len, List.length_map]; omega), List.getElem?_eq_none (by omega)]
        have hpf : H p = none := by
          cases z : H p with
          | none => rfl
          | some o =>
            obtain ⟨h1, _⟩ := upd_none hp
            rw [s6 _ _ (sm4 _ _ z)] at h1
            cases h1
        have sF := (same_upd (o := .tup (rs.map V.ref)) ht2).trans (same_upd (o := .tup [.str x, .ref t1, .ref t2]) hp)
        refine q _ p t1 t2 (os.map (resL x.cps.size M)) (sm4.trans s7) hpf upd_same ⟨.tup (sF _ _ et1), rs, .tup (by rw [upd_ne (upd_none hp).2.symm]; exact upd_same), by rw [tabE, hl1, hl2], fun j r0 row e1 e2 => .tup (s7 _ _ (ers j r0 row e1 (by rw [← tabE]; exact e2)))⟩ hcan (by rw [List.length_map]; exact few)
      · obtain ⟨v1, e1, v2, e2, b', p', xs, i', z, e3, e4, e5, e6, e7⟩ := q
        exact ⟨v1, e1, v2, e2, b', p', xs, i', z, e3, e4, e5, e6, m _ _ e7⟩
end
end K46
set_option Elab.async false
set_option linter.all false
set_option maxRecDepth 100000
set_option maxHeartbeats 1600000
namespace K46
open PySem PySem.Spec PyProof.Rows L2
/-! ### list < list, of whole numbers -/
def rLtL (K : PySem.W.Frag) : R2 := fun x y H Q => ∃ (a b : Addr) (u v : List Nat), x = .ref a ∧ y = .ref b ∧ SqL K H a (u.map nV) ∧ SqL K H b (v.map nV) ∧ Q (.bl (decide ((u.map fun i => ((i : Nat) : Int)) < (v.map fun i => ((i : Nat) : Int))))) H
theorem op_ltL {X : Cx} (K : PySem.W.Frag) (hu : X.A.units + 64 < cLine) (hK : X.K = K := by rfl) : OpR X (compareOp .Lt) (rLtL K) := by
  subst hK
  intro pins s σ H x y v u Q I rx ry h
  obtain ⟨a, b, l, m, rfl, rfl, ha, hb, q⟩ := h
  obtain ⟨as, ra⟩ := Dp.reads I _ _ _ (Dp.lst ha (dpAll_nV l)) rx
  obtain ⟨bs, rb⟩ := Dp.reads I _ _ _ (Dp.lst hb (dpAll_nV m)) ry
  have e1 : (l.map fun n => PyData.int ((n : Nat) : Int)) = (l.map fun i => ((i : Nat) : Int)).map PyData.int := by rw [List.map_map]; rfl
  have e2 : (m.map fun n => PyData.int ((n : Nat) : Int)) = (m.map fun i => ((i : Nat) : Int)).map PyData.int := by rw [List.map_map]; rfl
  have al : PySem.W.alike (.list (l.map fun n => PyData.int ((n : Nat) : Int))) (.list (m.map fun n => PyData.int ((n : Nat) : Int))) = true := by
    rw [e1, e2, PySem.W.alike]
    exact PySem.W.alike_ints _ _
  have dp := SeqAt.depth_of_shaped (shaped_nats l)
  refine PySem.W.lt_data ra rb al (fun z => by cases z) (by
    have := Nat.min_le_left (PyData.depth (.list (l.map fun n => PyData.int ((n : Nat) : Int)))) (PyData.depth (.list (m.map fun n => PyData.int ((n : Nat) : Int))))
    omega) ?_
  have e3 : PySem.W.dataLt (.list (l.map fun n => PyData.int ((n : Nat) : Int))) (.list (m.map fun n => PyData.int ((n : Nat) : Int))) = decide ((l.map fun i => ((i : Nat) : Int)) < (m.map fun i => ((i : Nat) : Int))) := by
    rw [PySem.W.dataLt_list, e1, e2]
    exact PySem.W.dataLt_ints _ _
  rw [e3]
  exact ⟨.bl _, H, I, rfl, q⟩
section
variable {P : Program} {w : World} {K : PySem.W.Frag} {mg : Str → Option Value} {base : Heap}
/-! ### _law_before -/
abbrev nmBefore : List Str := ["_law_letters_here", "_law_one", "_law_two", "_law_letter"]
theorem scBefore : FnScope nmBefore ["_law_letters_here", "_law_one", "_law_two"] (defScope (topS 37)) := C8.fnScope_by (by decide +kernel)
def spBefore : Sp := fun vs H Q _ => ∃ (x : Str) (u v : List Nat), vs = [.str x, .str (txt x u), .str (txt x v)] ∧ Ltr x ∧ okW x.cps.size u ∧ okW x.cps.size v ∧ u.length ≤ 1000 ∧ v.length ≤ 1000 ∧ slx u v ∧ ∀ H', Same H H' → Q (.bl true) H'
theorem cal_before (T : Tx K mg) : C8.Cal P w K mg base 1 "_law_before" spBefore [] := by
  refine cal_of T (i := 37) 25 rfl (by decide +kernel) scBefore (fun _ _ _ _ _ _ us hl => match us, hl with | [_, _, _], _ => rfl) (fun vs H Q E h => ?_) (fun f cdv A outer s H vs Q E hr h => ?_)
  · obtain ⟨x, u, v, rfl, _⟩ := h
    rfl
  · obtain ⟨x, u, v, rfl, L, ou, ov, lu, lv, hlt, q⟩ := h
    have hu64 := hr.units
    refine ⟨_, pss_cons (ps_if (pt_cmpR op_ne (pe_callB call_len_str (by rfl) (T.b "len" (by decide +kernel)) PySem.boot_len (pa_cons (pv 1) pa_nil)) (pe_callB call_len_str (by rfl) (T.b "len" (by decide +kernel)) PySem.boot_len (pa_cons (pv 2) pa_nil)) (nomark _))
        (pss_one (ps_ret (pe_cmpR op_lt (pe_callB call_len_str (by rfl) (T.b "len" (by decide +kernel)) PySem.boot_len (pa_cons (pv 1) pa_nil)) (pe_callB call_len_str (by rfl) (T.b "len" (by decide +kernel)) PySem.boot_len (pa_cons (pv 2) pa_nil)) (by rfl)))) pss_nil)
      (pss_one (ps_ret (pe_cmpR (op_ltL K hu64)
        (pe_lc (own := [("_law_letter", 3)]) (g := gName 3) (tt := tYes) rfl scBefore.nd (pi_str (pv 1)) (blkOk_by (N := nmBefore) (sc := defScope (topS 37)) (by decide +kernel))
          (fun _ _ _ _ _ => pg_name (i := 3) scBefore.nd rfl (Or.inl rfl)) (fun _ _ _ _ _ => pts_nil) (fun _ _ _ _ _ => pe_m1 PySem.F.slot_str_index PySem.F.type_str_index mt_sindex (pv 0) (pv 3)))
        (pe_lc (own := [("_law_letter", 3)]) (g := gName 3) (tt := tYes) rfl scBefore.nd (pi_str (pv 2)) (blkOk_by (N := nmBefore) (sc := defScope (topS 37)) (by decide +kernel))
          (fun _ _ _ _ _ => pg_name (i := 3) scBefore.nd rfl (Or.inl rfl)) (fun _ _ _ _ _ => pts_nil) (fun _ _ _ _ _ => pe_m1 PySem.F.slot_str_index PySem.F.type_str_index mt_sindex (pv 0) (pv 3))) (by rfl)))), ?_⟩
    have t1 : (txt x u).length ≤ sizeLine := by rw [txt_len, sizeLine_eq]; omega
    have t2 : (txt x v).length ≤ sizeLine := by rw [txt_len, sizeLine_eq]; omega
    refine ⟨_, rfl, _, rfl, t1, _, rfl, _, rfl, t2, rfl, _, rfl, ite2 (fun c => ?_) (fun c => ?_)⟩
    · have c1 : ¬ ((txt x u).length : Int) = ((txt x v).length : Int) := fun z => by
        rw [z, decide_eq_true rfl] at c
        cases c
      rw [txt_len, txt_len] at c1
      have hl : u.length < v.length := by
        rcases hlt with h | ⟨h, _⟩
        · exact h
        · exact absurd (by omega) c1
      refine ⟨_, rfl, _, rfl, t1, _, rfl, _, rfl, t2, _, _, rfl, rfl, ?_⟩
      have e : decide (((txt x u).length : Int) < ((txt x v).length : Int)) = true := by
        rw [txt_len, txt_len]
        exact decide_eq_true (by omega)
      have q1 := q H (Same.refl H)
      rw [← e] at q1
      exact q1
    · have c1 : ((txt x u).length : Int) = ((txt x v).length : Int) := by
        apply Classical.byContradiction
        intro z
        have z' : ¬ V.int ((txt x u).length : Int) = V.int ((txt x v).length : Int) := fun y => z (V.int.inj y)
        exact c (by rw [decide_eq_false z']; rfl)
      rw [txt_len, txt_len] at c1
      have hl : u.length = v.length := by omega
      have hx : lx u v := by
        rcases hlt with h | ⟨_, h⟩
        · omega
        · exact h
      have body : ∀ (ws : List Nat), okW x.cps.size ws → ∀ (H1 : Hp) (i : Nat) (c0 : Nat), (txt x ws).cps[i]? = some c0 → ∃ k, ws.getD i 0 = k ∧ Builtin.Str.occurrences x ⟨#[c0]⟩ 0 x.length 1 = k :: [] := fun ws hw H1 i c0 hc => by
        obtain ⟨k, hk, rfl⟩ := txt_at hc
        exact ⟨k, getD_of hk, L.at (ltr_get (hw k (List.mem_of_getElem? hk)))⟩
      refine ⟨_, rfl, _, rfl, fun D hD => lc_pure (wk_str _) (fun i => nV (u.getD i 0)) (by rw [txt_size]; omega) (fun _ _ _ => trivial) (fun i v1 acc hi hv H1 e1 => ?_) ?_ (fun σ H Q Q' m q => ?_) (fun _ _ _ _ _ m q => m _ _ q)⟩
      · obtain ⟨c0, hc, rfl⟩ := hv
        obtain ⟨k, e2, e3⟩ := body u ou H1 i c0 hc
        exact ⟨rfl, _, rfl, ⟨_, rfl⟩, _, rfl, _, _, k, [], rfl, rfl, e3, e1, by rw [e2]; rfl⟩
      · rw [txt_size, range_nV]
        refine ⟨_, rfl, _, rfl, fun D2 hD2 => lc_pure (wk_str _) (fun i => nV (v.getD i 0)) (by rw [txt_size]; omega) (fun _ _ _ => trivial) (fun i v1 acc hi hv H1 e1 => ?_) ?_ (fun σ H Q Q' m q => ?_) (fun _ _ _ _ _ m q => m _ _ q)⟩
        · obtain ⟨c0, hc, rfl⟩ := hv
          obtain ⟨k, e2, e3⟩ := body v ov H1 i c0 hc
          exact ⟨rfl, _, rfl, ⟨_, rfl⟩, _, rfl, _, _, k, [], rfl, rfl, e3, e1, by rw [e2]; rfl⟩
        · rw [txt_size, range_nV]
          refine ⟨D, D2, u, v, rfl, rfl, SqL.of (same_upd hD2 _ _ upd_same), SqL.of upd_same, ?_⟩
          rw [decide_eq_true ((lt_lx hl).mpr hx)]
          exact q _ ((same_upd hD).trans (same_upd hD2))
        · obtain ⟨v2, e1, ⟨a1, e2⟩, v3, e3, a, b, i, rest, h1, h2, h3, h4⟩ := q
          exact ⟨v2, e1, ⟨a1, e2⟩, v3, e3, a, b, i, rest, h1, h2, h3, m _ _ h4⟩
      · obtain ⟨v2, e1, ⟨a1, e2⟩, v3, e3, a, b, i, rest, h1, h2, h3, h4⟩ := q
        exact ⟨v2, e1, ⟨a1, e2⟩, v3, e3, a, b, i, rest, h1, h2, h3, m _ _ h4⟩
end
end K46
set_option Elab.async false
set_option linter.all false
set_option maxRecDepth 100000
set_option maxHeartbeats 1600000
namespace K46
open PySem PySem.Spec PyProof.Rows L2
section
variable {P : Program} {w : World} {K : PySem.W.Frag} {mg : Str → Option Value} {base : Heap}
/-! ### _law_agree -/
abbrev nmAgree : List Str := ["_law_picture", "_law_parts_here", "_law_rows", "_law_letters_here", "_law_text"]
theorem scAgree : FnScope nmAgree ["_law_picture", "_law_parts_here", "_law_rows"] (defScope (topS 40)) := C8.fnScope_by (by decide +kernel)
def spAgree (K : PySem.W.Frag) : Sp := fun vs H Q _ => ∃ (x : Str) (p q r a' t' a t : Addr) (b1 b2 : Bool) (Mp Mq : Mach) (L : List (List Nat)), vs = [.ref p, .ref q, .ref r] ∧ SqT K H p [.str x, .ref a', .ref t'] ∧ SqT K H q [.ref a, .ref t] ∧ PartsH b1 K H a' t' Mp ∧ PartsH b2 K H a t Mq ∧ SqL K H r (L.map fun u => V.str (txt x u)) ∧ Wf x.cps.size Mp ∧ Wf x.cps.size Mq ∧ Ltr x ∧ (∀ u ∈ L, okW x.cps.size u) ∧
  ((∀ u ∈ L, accT Mp 0 u = accT Mq 0 u) → Q (.bl true) H) ∧ Q (.bl false) H
theorem cal_agree (T : Tx K mg) : C8.Cal P w K mg base 2 "_law_agree" (spAgree K) [] := by
  refine cal_of T (i := 40) 28 rfl (by decide +kernel) scAgree (fun _ _ _ _ _ _ us hl => match us, hl with | [_, _, _], _ => rfl) (fun vs H Q E h => ?_) (fun f cdv A outer s H vs Q E hr h => ?_)
  · obtain ⟨x, p, q, r, a', t', a, t, b1, b2, Mp, Mq, L, rfl, _⟩ := h
    rfl
  · obtain ⟨x, p, q, r, a', t', a, t, b1, b2, Mp, Mq, L, rfl, hp, hq, hPp, hPq, hr', Wp, Wq, Lt, ok, q1, q2⟩ := h
    refine ⟨_, pss_cons (ps_set (i := 3) scAgree.nd rfl (.inl rfl) (pe_ix (ixB K) (pv 0) pe_int (fun _ _ => rfl)))
      (pss_cons (ps_for PassesOwn.never rfl (piB K (pv 2)) (pg_name (i := 4) scAgree.nd rfl (.inl rfl))
        (pss_one (ps_if (pt_cmpR op_ne (C8.pe_c (cal_accepts T) hr (by decide) (by rfl) (pa_cons (pv 3) (pa_cons (pe_ix (ixB K) (pv 0) pe_int (fun _ _ => rfl)) (pa_cons (pe_ix (ixB K) (pv 0) pe_int (fun _ _ => rfl)) (pa_cons (pv 4) pa_nil))))) (C8.pe_c (cal_accepts T) hr (by decide) (by rfl) (pa_cons (pv 3) (pa_cons (pe_ix (ixB K) (pv 1) pe_int (fun _ _ => rfl)) (pa_cons (pe_ix (ixB K) (pv 1) pe_int (fun _ _ => rfl)) (pa_cons (pv 4) pa_nil))))) (nomark _))
          (pss_one (ps_ret pe_bl)) pss_nil)))
      (pss_one (ps_ret pe_bl))), ?_⟩
    refine ⟨_, rfl, false, p, _, 0, _, rfl, rfl, hp, rfl, _, rfl, r, true, rfl, ⟨_, hr'⟩, for_by (wk_seq true K r (L.map fun u => V.str (txt x u))) (fun i σ H1 => ∃ y4, σ = [some (.ref p), some (.ref q), some (.ref r), some (.str x), y4] ∧ H1 = H ∧ ∀ u ∈ L.take i, accT Mp 0 u = accT Mq 0 u) ⟨none, rfl, rfl, fun u h => by simp at h⟩ (fun i σ H1 _ hI => by obtain ⟨_, _, rfl, _⟩ := hI; exact hr') (fun i v σ H1 hi hv hI => ?_) (fun σ H1 hI => ?_)⟩
    · obtain ⟨y4, rfl, rfl, hall⟩ := hI
      rw [List.length_map] at hi
      have hli := List.getElem?_eq_getElem hi
      rw [List.getElem?_map, hli] at hv
      cases hv
      have hok := ok _ (List.getElem_mem hi)
      generalize L[i] = u at hli hok
      refine ⟨_, rfl, _, rfl, false, p, _, 1, _, rfl, rfl, hp, rfl, _, rfl, false, p, _, 2, _, rfl, rfl, hp, rfl, _, rfl, ⟨b1, x, a', t', Mp, u, rfl, hPp, Wp, Lt, hok, ?_⟩⟩
      refine ⟨_, rfl, _, rfl, false, q, _, 0, _, rfl, rfl, hq, rfl, _, rfl, false, q, _, 1, _, rfl, rfl, hq, rfl, _, rfl, ⟨b2, x, a, t, Mq, u, rfl, hPq, Wq, Lt, hok, rfl, _, rfl, ite2 (fun c => q2) (fun c => ⟨_, rfl, rfl, fun u' hu' => ?_⟩)⟩⟩
      rcases (take_mem hli).mp hu' with z | z
      · exact hall u' z
      · rw [z]
        apply Classical.byContradiction
        intro ne
        have ne' : ¬ V.bl (accT Mp 0 u) = V.bl (accT Mq 0 u) := fun y => ne (V.bl.inj y)
        exact c (by rw [decide_eq_false ne']; rfl)
    · obtain ⟨y4, rfl, rfl, hall⟩ := hI
      rw [List.length_map, List.take_length] at hall
      exact q1 hall
end
end K46
set_option Elab.async false
set_option linter.all false
set_option maxRecDepth 100000
set_option maxHeartbeats 1600000
namespace K46
open PySem PySem.Spec PyProof.Rows L2
/-- the datum of a tuple of whole numbers -/
def tD (v : List Nat) : PyData := .tuple (v.map fun n => PyData.int ((n : Nat) : Int))
theorem dp_tD {K : PySem.W.Frag} {H : Hp} {a : Addr} {v : List Nat} (h : SqT K H a (v.map nV)) : Dp K H (.ref a) (tD v) := .tup h (dpAll_nV v)
theorem dpAll_tD {K : PySem.W.Frag} {H : Hp} : ∀ {ts : List Addr} {tv : List (List Nat)}, ts.length = tv.length → (∀ (i : Nat) a v, ts[i]? = some a → tv[i]? = some v → SqT K H a (v.map nV)) → DpAll K H (ts.map V.ref) (tv.map tD)
  | [], [], _, _ => .nil
  | a :: ts, v :: tv, hl, h => .cons (dp_tD (h 0 a v rfl rfl)) (dpAll_tD (by simpa using hl) fun i a' v' e1 e2 => h (i + 1) a' v' (by simpa using e1) (by simpa using e2))
theorem eqvAll_nats : ∀ u v : List Nat, PyData.eqvAll (u.map fun n => PyData.int ((n : Nat) : Int)) (v.map fun n => PyData.int ((n : Nat) : Int)) = decide (u = v)
  | [], [] => by simp [PyData.eqvAll]
  | [], _ :: _ => by simp [PyData.eqvAll]
  | _ :: _, [] => by simp [PyData.eqvAll]
  | a :: u, b :: v => by
    rw [List.map_cons, List.map_cons, PyData.eqvAll, eqvAll_nats u v]
    by_cases h : a = b
    · subst h
      simp [PyData.eqv]
    · have h' : ¬ ((a : Nat) : Int) = ((b : Nat) : Int) := by omega
      simp [PyData.eqv, h, h']
theorem eqv_tD (u v : List Nat) : PyData.eqv (tD u) (tD v) = decide (u = v) := by
  unfold tD
  rw [PyData.eqv]
  exact eqvAll_nats u v
theorem any_tD (l : List (List Nat)) (v : List Nat) : ((l.map tD).any fun z => PyData.eqv z (tD v)) = decide (v ∈ l) := by
  induction l with
  | nil => simp
  | cons a l ih =>
    rw [List.map_cons, List.any_cons, ih, eqv_tD]
    by_cases h : a = v
    · subst h
      simp
    · have h' : ¬ v = a := fun e => h e.symm
      simp [h, h']
theorem depth_tD (v : List Nat) : (tD v).depth ≤ 2 := by
  have := PySem.W.depthAll_ints (v.map fun n => ((n : Nat) : Int))
  rw [List.map_map] at this
  unfold tD
  simp only [PyData.depth]
  show PyData.depthAll (v.map (PyData.int ∘ fun n => ((n : Nat) : Int))) + 1 ≤ 2
  omega
theorem canLay_tD (v : List Nat) : (tD v).canLay0 = true := by
  have := PySem.W.canLayAll0_ints (v.map fun n => ((n : Nat) : Int))
  rw [List.map_map] at this
  unfold tD
  simp only [PyData.canLay0]
  exact this
theorem shaped_tD (v : List Nat) : SeqAt.shaped (tD v) = true := by
  have h := depth_tD v
  show ((tD v).canLay0 && decide ((tD v).depth ≤ 64)) = true
  rw [canLay_tD, decide_eq_true (by omega)]
  rfl
theorem shaped_tDs (l : List (List Nat)) : SeqAt.shaped (.list (l.map tD)) = true := by
  have h1 : PyData.canLayAll0 (l.map tD) = true := by
    induction l with
    | nil => simp [PyData.canLayAll0]
    | cons a l ih => rw [List.map_cons, PyData.canLayAll0, canLay_tD, ih]; rfl
  have h2 : PyData.depthAll (l.map tD) ≤ 3 := by
    induction l with
    | nil => simp [PyData.depthAll]
    | cons a l ih =>
      have h := depth_tD a
      have h1' : PyData.canLayAll0 (l.map tD) = true := by
        rw [List.map_cons, PyData.canLayAll0, canLay_tD] at h1
        simpa using h1
      have := ih h1'
      rw [List.map_cons, PyData.depthAll]
      omega
  show (PyData.canLay0 (.list (l.map tD)) && decide ((PyData.list (l.map tD)).depth ≤ 64)) = true
  rw [Bool.and_eq_true]
  refine ⟨by simp only [PyData.canLay0]; exact h1, decide_eq_true ?_⟩
  simp only [PyData.depth]
  omega
end K46
set_option Elab.async false
set_option linter.all false
set_option maxRecDepth 100000
set_option maxHeartbeats 1600000
namespace K46
open PySem PySem.Spec PyProof.Rows L2
section
variable {P : Program} {w : World} {K : PySem.W.Frag} {mg : Str → Option Value} {base : Heap}
/-! ### _law_least_text -/
abbrev nmLT : List Str := ["_law_letters_here", "_law_table", "_law_judge", "_law_states", "_law_texts_here", "_law_at", "_law_k", "_law_following", "_law_state_here"]
theorem scLT : FnScope nmLT ["_law_letters_here", "_law_table", "_law_judge"] (defScope (topS 38)) := C8.fnScope_by (by decide +kernel)
/-- a step of several states at once -/
def stpT (M : Mach) (s : List Nat) (a : Nat) : List Nat := s.map fun q => nxt M.tab q a
theorem sqT_upd {K : PySem.W.Frag} {H : Hp} {a B : Addr} {xs ys : List V} {o : HO} (h : SqT K H a xs) (e : H B = some (.lst ys)) : SqT K (upd H B o) a xs := by
  rcases h with (h | ⟨o', h⟩) | h
  · exact .inl (.inl ((upd_ne (ne_of h e fun z => by cases z)).trans h))
  · exact .inl (.inr ⟨o', (upd_ne (ne_of h e fun z => by cases z)).trans h⟩)
  · exact .inr h
theorem fixed_len {l : List (List Nat)} {m n : Nat} (hm : m ≤ 2) (hn : 0 < n) (nd : l.Nodup) (h : ∀ v ∈ l, v.length = m ∧ ∀ q ∈ v, q < n) : l.length ≤ n * n := by
  have get : ∀ v ∈ l, ∀ i, v.getD i 0 < n := fun v hv i => by
    by_cases c : i < v.length
    · rw [getD_of (List.getElem?_eq_getElem c)]
      exact (h v hv).2 _ (List.getElem_mem c)
    · rw [List.getD_eq_getElem?_getD, List.getElem?_eq_none (by omega)]
      exact hn
  have inj : ∀ u ∈ l, ∀ v ∈ l, (u.getD 0 0, u.getD 1 0) = (v.getD 0 0, v.getD 1 0) → u = v := fun u hu v hv e => by
    injection e with e1 e2
    apply List.ext_getElem?
    intro i
    have l1 := (h u hu).1
    have l2 := (h v hv).1
    by_cases c : i < m
    · have c1 : i < u.length := by omega
      have c2 : i < v.length := by omega
      rw [List.getElem?_eq_getElem c1, List.getElem?_eq_getElem c2]
      have g1 := getD_of (d := 0) (List.getElem?_eq_getElem c1)
      have g2 := getD_of (d := 0) (List.getElem?_eq_getElem c2)
      rw [← g1, ← g2]
      match i, c with
      | 0, _ => rw [e1]
      | 1, _ => rw [e2]
      | i + 2, c => omega
    · rw [List.getElem?_eq_none (by omega), List.getElem?_eq_none (by omega)]
  have nd2 : (l.map fun v => (v.getD 0 0, v.getD 1 0)).Nodup := by
    have gen : ∀ m : List (List Nat), m.Nodup → (∀ v ∈ m, v ∈ l) → (m.map fun v => (v.getD 0 0, v.getD 1 0)).Nodup := by
      intro m
      induction m with
      | nil => exact fun _ _ => List.nodup_nil
      | cons a m ih =>
        intro hn hs
        obtain ⟨n1, n2⟩ := List.nodup_cons.mp hn
        rw [List.map_cons, List.nodup_cons]
        refine ⟨fun z => ?_, ih n2 fun v hv => hs v (List.mem_cons_of_mem _ hv)⟩
        obtain ⟨b, hb, e⟩ := List.mem_map.mp z
        have := inj b (hs b (List.mem_cons_of_mem _ hb)) a (hs a List.mem_cons_self) e
        rw [this] at hb
        exact n1 hb
    exact gen l nd fun v hv => hv
  have := pairs_len nd2 (n := n) (m := n) fun s hs => by
    obtain ⟨v, hv, rfl⟩ := List.mem_map.mp hs
    exact ⟨get v hv 0, get v hv 1⟩
  rwa [List.length_map] at this
/-- while it searches -/
structure LtI (K : PySem.W.Frag) (x : Str) (M : Mach) (st : List Nat) (H0 H : Hp) (SA XA : Addr) (l : List (List Nat)) (tx : List (List Nat)) (rs : List Addr) (at_ a : Nat) : Prop where
  sm : Same H0 H
  fS : H0 SA = none
  fX : H0 XA = none
  ne : SA ≠ XA
  eS : H SA = some (.lst (rs.map V.ref))
  tl : rs.length = l.length
  tr : ∀ (i : Nat) a v, rs[i]? = some a → l[i]? = some v → SqT K H a (v.map nV)
  eX : H XA = some (.lst (tx.map fun u => V.str (txt x u)))
  B : Bfs x.cps.size (stpT M) st l tx at_ a
  ln : ∀ (j : Nat) u, tx[j]? = some u → u.length ≤ j
  lt : ∀ v ∈ l, v.length = st.length ∧ ∀ q ∈ v, q < M.acc.length
theorem LtI.keep {K : PySem.W.Frag} {x : Str} {M : Mach} {st : List Nat} {H0 H H' : Hp} {SA XA : Addr} {l tx : List (List Nat)} {rs : List Addr} {at_ a : Nat} (I : LtI K x M st H0 H SA XA l tx rs at_ a) (s : Same H H') : LtI K x M st H0 H' SA XA l tx rs at_ a := ⟨I.sm.trans s, I.fS, I.fX, I.ne, s _ _ I.eS, I.tl, fun i a v e1 e2 => same_seqT s (I.tr i a v e1 e2), s _ _ I.eX, I.B, I.ln, I.lt⟩
theorem LtI.few {K : PySem.W.Frag} {x : Str} {M : Mach} {st : List Nat} {H0 H : Hp} {SA XA : Addr} {l tx : List (List Nat)} {rs : List Addr} {at_ a : Nat} (I : LtI K x M st H0 H SA XA l tx rs at_ a) (h2 : st.length ≤ 2) (hp : 0 < M.acc.length) (hn : M.acc.length ≤ 20) : l.length ≤ 400 := by
  have := fixed_len h2 hp I.B.nd I.lt
  have h3 : M.acc.length * M.acc.length ≤ 20 * 20 := Nat.mul_le_mul hn hn
  omega
theorem LtI.old {K : PySem.W.Frag} {x : Str} {M : Mach} {st : List Nat} {H0 H : Hp} {SA XA : Addr} {l tx : List (List Nat)} {rs : List Addr} {at_ a : Nat} {s : List Nat} (I : LtI K x M st H0 H SA XA l tx rs at_ a) (hs : l[at_]? = some s) (hm : stpT M s a ∈ l) : LtI K x M st H0 H SA XA l tx rs at_ (a + 1) := ⟨I.sm, I.fS, I.fX, I.ne, I.eS, I.tl, I.tr, I.eX, I.B.old hs hm, I.ln, I.lt⟩
theorem LtI.next {K : PySem.W.Frag} {x : Str} {M : Mach} {st : List Nat} {H0 H : Hp} {SA XA : Addr} {l tx : List (List Nat)} {rs : List Addr} {at_ : Nat} (I : LtI K x M st H0 H SA XA l tx rs at_ x.cps.size) : LtI K x M st H0 H SA XA l tx rs (at_ + 1) 0 := ⟨I.sm, I.fS, I.fX, I.ne, I.eS, I.tl, I.tr, I.eX, I.B.next, I.ln, I.lt⟩
theorem LtI.new {K : PySem.W.Frag} {x : Str} {M : Mach} {st : List Nat} {H0 H : Hp} {SA XA : Addr} {l tx : List (List Nat)} {rs : List Addr} {at_ a : Nat} {s t : List Nat} {p : Addr} (I : LtI K x M st H0 H SA XA l tx rs at_ a) (W : Wf x.cps.size M) (ha : a < x.cps.size) (hs : l[at_]? = some s) (ht : tx[at_]? = some t) (hm : stpT M s a ∉ l) (hp : SqT K H p ((stpT M s a).map nV)) :
    LtI K x M st H0 (upd (upd H SA (.lst ((rs ++ [p]).map V.ref))) XA (.lst ((tx ++ [t ++ [a]]).map fun u => V.str (txt x u)))) SA XA (l ++ [stpT M s a]) (tx ++ [t ++ [a]]) (rs ++ [p]) at_ (a + 1) where
  sm := same_store (same_store I.sm I.fS) I.fX
  fS := I.fS
  fX := I.fX
  ne := I.ne
  eS := (upd_ne I.ne).trans upd_same
  tl := by rw [List.length_append, List.length_append, I.tl]; rfl
  tr := fun i b v e1 e2 => by
    have eX1 : upd H SA (.lst ((rs ++ [p]).map V.ref)) XA = some (.lst (tx.map fun u => V.str (txt x u))) := (upd_ne I.ne.symm).trans I.eX
    have go : ∀ {b : Addr} {v : List Nat}, SqT K H b (v.map nV) → SqT K (upd (upd H SA (.lst ((rs ++ [p]).map V.ref))) XA (.lst ((tx ++ [t ++ [a]]).map fun u => V.str (txt x u)))) b (v.map nV) := fun h => sqT_upd (sqT_upd h I.eS) eX1
    rcases app_at e1 with ⟨z, e1⟩ | ⟨z, rfl⟩
    · rcases app_at e2 with ⟨_, e2⟩ | ⟨y, _⟩
      · exact go (I.tr i b v e1 e2)
      · have := I.tl; omega
    · rcases app_at e2 with ⟨y, _⟩ | ⟨_, rfl⟩
      · have := I.tl; omega
      · exact go hp
  eX := upd_same
  B := I.B.new ha hs ht hm
  ln := fun j u h => by
    rcases app_at h with ⟨_, h⟩ | ⟨rfl, rfl⟩
    · exact I.ln j u h
    · have h1 := I.ln at_ t ht
      have h2 := (List.getElem?_eq_some_iff.mp ht).1
      rw [List.length_append, List.length_singleton]
      omega
  lt := fun v hv => by
    rcases List.mem_append.mp hv with z | z
    · exact I.lt v z
    · rw [List.mem_singleton.mp z]
      obtain ⟨h1, h2⟩ := I.lt s (List.mem_of_getElem? hs)
      refine ⟨by unfold stpT; rw [List.length_map]; exact h1, fun q hq => ?_⟩
      obtain ⟨q0, hq0, rfl⟩ := List.mem_map.mp hq
      exact W.tb.lt (h2 q0 hq0) ha
def spLT (K : PySem.W.Frag) : Sp := fun vs H Q _ => ∃ (x : Str) (t j s0 tg : Addr) (b : Bool) (M : Mach) (st : List Nat) (ts : List Addr) (tv : List (List Nat)), vs = [.str x, .ref t, .ref j] ∧ TabK b K H t M.tab ∧ Wf x.cps.size M ∧ Ltr x ∧ SqT K H j [.ref s0, .ref tg] ∧ SqT K H s0 (st.map nV) ∧ (∀ q ∈ st, q < M.acc.length) ∧ st.length ≤ 2 ∧ M.acc.length ≤ 20 ∧
  SqL K H tg (ts.map V.ref) ∧ ts.length = tv.length ∧ (∀ (i : Nat) a v, ts[i]? = some a → tv[i]? = some v → SqT K H a (v.map nV)) ∧ (∃ u, okW x.cps.size u ∧ runS (stpT M) st u ∈ tv) ∧
  ∀ H' u, Same H H' → First x.cps.size (fun u => runS (stpT M) st u ∈ tv) u → u.length ≤ 400 → Q (.str (txt x u)) H'
theorem cal_lt (T : Tx K mg) : C8.Cal P w K mg base 1 "_law_least_text" (spLT K) [] := by
  refine cal_of T (i := 38) 26 rfl (by decide +kernel) scLT (fun _ _ _ _ _ _ us hl => match us, hl with | [_, _, _], _ => rfl) (fun vs H Q E h => ?_) (fun f cdv A outer s H vs Q E hr h => ?_)
  · obtain ⟨x, t, j, s0, tg, b, M, st, ts, tv, rfl, _⟩ := h
    rfl
  · obtain ⟨x, t, j, s0, tg, b, M, st, ts, tv, rfl, hT, W, L, hj, hs0, hst, hl2, hn, htg, htl, hts, ⟨u0, ok0, hu0⟩, q⟩ := h
    have hu64 := hr.units
    have hu65 : (A.deeper (envOfC "_law_least_text" (defScope (topS 38)) s.heap.objs.size f cdv)).units + 65 < cLine := by have := hr.un; omega
    refine ⟨_, pss_cons (ps_set (i := 3) scLT.nd rfl (.inl rfl) (pe_lst (pa_cons (pe_ix (ixB K) (pv 2) pe_int (fun _ _ => rfl)) pa_nil)))
      (pss_cons (ps_set (i := 4) scLT.nd rfl (.inl rfl) (pe_lst (pa_cons pe_str pa_nil)))
      (pss_cons (ps_set (i := 5) scLT.nd rfl (.inl rfl) pe_int)
      (pss_cons (ps_while PassesOwn.never (pt_cmpR op_lt (pv 5) (pe_callB (lenB K) (by rfl) (T.b "len" (by decide +kernel)) PySem.boot_len (pa_cons (pv 3) pa_nil)) (nomark _))
        (pss_cons (ps_if (pt_cmpR (op_inD hu65) (pe_ix (ixB K) (pv 3) (pv 5) (fun _ _ => rfl)) (pe_ix (ixB K) (pv 2) pe_int (fun _ _ => rfl)) (by rfl)) (pss_one (ps_ret (pe_ix (ixB K) (pv 4) (pv 5) (fun _ _ => rfl)))) pss_nil)
        (pss_cons (ps_for PassesOwn.never rfl (pi_range1 (by rfl) (T.b "range" (by decide +kernel)) (pa_cons (pe_callB call_len_str (by rfl) (T.b "len" (by decide +kernel)) PySem.boot_len (pa_cons (pv 0) pa_nil)) pa_nil)) (pg_name (i := 6) scLT.nd rfl (.inr rfl))
          (pss_cons (ps_set (i := 7) scLT.nd rfl (.inl rfl) (pe_callTy (T := "tuple") (tupB K) (by rfl) (T.b "tuple" (by decide +kernel)) (by decide +kernel) (pa_cons
              (pe_lc (own := [("_law_state_here", 8)]) (g := gName 8) (tt := tYes) rfl scLT.nd (piB K (pe_ix (ixB K) (pv 3) (pv 5) (fun _ _ => rfl))) (blkOk_by (N := nmLT) (sc := defScope (topS 38)) (by decide +kernel))
                (fun _ _ _ _ _ => pg_name (i := 8) scLT.nd rfl (Or.inl rfl)) (fun _ _ _ _ _ => pts_nil) (fun _ _ _ _ _ => pe_ix (ixB K) (pe_ix (ixB K) (pv 1) (pv 8) (fun _ _ => rfl)) (pv 6) (fun _ _ => rfl))) pa_nil)))
          (pss_one (ps_if (pt_cmpR (op_notInD hu65) (pv 7) (pv 3) (by rfl))
            (pss_cons (ps_expr (pe_bm PySem.F.plainAttrs_list PySem.F.slot_list_append PySem.F.type_list_append mt_append (pv 3) (pa_cons (pv 7) pa_nil)))
              (pss_one (ps_expr (pe_bm PySem.F.plainAttrs_list PySem.F.slot_list_append PySem.F.type_list_append mt_append (pv 4) (pa_cons (pe_op op_add_str (pe_ix (ixB K) (pv 4) (pv 5) (fun _ _ => rfl)) (pe_ix ix_str (pv 0) (pv 6) (fun _ _ => rfl))) pa_nil))))) pss_nil))))
        (pss_one (ps_set (i := 5) scLT.nd rfl (.inl rfl) (pe_op op_add (pv 5) pe_int))))))
      (pss_one (ps_ret pe_non))))), ?_⟩
    have npos := W.pos
    refine ⟨_, rfl, false, j, _, 0, .ref s0, rfl, rfl, hj, rfl, by show 1 ≤ sizeLine; decide, fun SA hSA => ⟨by show 1 ≤ sizeLine; decide, fun XA hXA => ?_⟩⟩
    have nXS : XA ≠ SA := (upd_none hXA).2
    have sm0 : Same H (upd (upd H SA (.lst [.ref s0])) XA (.lst [.str ""])) := (same_upd hSA).trans (same_upd hXA)
    have I0 : LtI K x M st H (upd (upd H SA (.lst [.ref s0])) XA (.lst [.str ""])) SA XA [st] [[]] [s0] 0 0 := {
      sm := sm0
      fS := hSA
      fX := (upd_none hXA).1
      ne := nXS.symm
      eS := (upd_ne nXS.symm).trans upd_same
      tl := rfl
      tr := fun i a v e1 e2 => by
        cases i with
        | zero =>
          cases e1
          cases e2
          exact same_seqT sm0 hs0
        | succ i => simp at e1
      eX := upd_same
      B := .start _ _ _
      ln := fun j u h => by
        cases j with
        | zero => cases h; exact Nat.le_refl _
        | succ j => simp at h
      lt := fun v h => by rw [List.mem_singleton.mp h]; exact ⟨rfl, hst⟩ }
    generalize upd (upd H SA (.lst [.ref s0])) XA (.lst [.str ""]) = H1 at I0 ⊢
    have tk : ((x.length : Nat) : Int).toNat = x.cps.size := Int.toNat_natCast _
    have xl : x.length = x.cps.size := rfl
    have kf := L.few
    refine while_by (fun σ H1 => ∃ (l tx : List (List Nat)) (rs : List Addr) (at_ : Nat) (y6 y7 : Option V), σ = [some (.str x), some (.ref t), some (.ref j), some (.ref SA), some (.ref XA), some (nV at_), y6, y7, none] ∧ LtI K x M st H H1 SA XA l tx rs at_ 0 ∧ at_ ≤ l.length ∧ ∀ i s, i < at_ → l[i]? = some s → s ∉ tv)
      (fun σ _ => 401 - (sI 5 σ).toNat) ⟨_, _, _, 0, none, none, rfl, I0, Nat.zero_le _, fun i s h => absurd h (Nat.not_lt_zero _)⟩ (fun σ H1 hP => ?_) (fun σ H Q Q' m q => ?_)
    · obtain ⟨l, tx, rs, at_, y6, y7, rfl, I, hat, hno⟩ := hP
      have few := I.few hl2 npos hn
      refine ⟨_, rfl, _, rfl, true, _, _, rfl, .lst I.eS, _, _, rfl, rfl, _, rfl, ?_⟩
      rw [List.length_map, I.tl]
      refine ite2 (fun c => ?_) (fun c => ?_)
      · have c1 : at_ < l.length := by
          have : (at_ : Int) < (l.length : Int) := of_decide_eq_true c
          omega
        have hs := List.getElem?_eq_getElem c1
        obtain ⟨svl, svn⟩ := I.lt _ (List.getElem_mem c1)
        generalize l[at_] = sv at hs svl svn
        have c2 : at_ < tx.length := by rw [I.B.len]; exact c1
        have ht := List.getElem?_eq_getElem c2
        generalize tx[at_] = tt at ht
        have c3 : at_ < rs.length := by rw [I.tl]; exact c1
        have hr3 := List.getElem?_eq_getElem c3
        generalize rs[at_] = ra at hr3
        have hra := I.tr at_ ra sv hr3 hs
        have tlen := I.ln at_ tt ht
        refine ⟨_, rfl, _, rfl, true, SA, _, _, _, rfl, rfl, .lst I.eS, atI_nat (by rw [List.getElem?_map, hr3]; rfl), _, rfl, false, j, _, 1, .ref tg, rfl, rfl, same_seqT I.sm hj, rfl, tD sv, tv.map tD, dp_tD hra, .lst (I.sm.seq htg) (dpAll_tD htl fun i a v e1 e2 => same_seqT I.sm (hts i a v e1 e2)), shaped_tD sv, shaped_tDs tv, _, rfl, ?_⟩
        rw [any_tD]
        refine ite2 (fun ca => ?_) (fun ca => ?_)
        · refine ⟨_, rfl, _, rfl, true, XA, _, _, _, rfl, rfl, .lst I.eX, atI_nat (by rw [List.getElem?_map, ht]; rfl), q H1 tt I.sm (I.B.first (p := fun s => s ∈ tv) hs ht hno (of_decide_eq_true ca)) (by omega)⟩
        · have hnt : sv ∉ tv := fun z => ca (decide_eq_true z)
          refine ⟨_, rfl, _, rfl, by show x.cps.size ≤ sizeLine; rw [sizeLine_eq]; omega, _, rfl, by omega, by omega, for_by (wk_range 0 _) (fun a σ H2 => ∃ (l2 tx2 : List (List Nat)) (rs2 : List Addr) (y6 y7 : Option V), σ = [some (.str x), some (.ref t), some (.ref j), some (.ref SA), some (.ref XA), some (nV at_), y6, y7, none] ∧ LtI K x M st H H2 SA XA l2 tx2 rs2 at_ a ∧ l2[at_]? = some sv ∧ tx2[at_]? = some tt ∧ rs2[at_]? = some ra ∧ ∃ z, l2 = l ++ z)
            ⟨l, tx, rs, _, _, rfl, I, hs, ht, hr3, [], by simp⟩ (fun _ _ _ _ _ => trivial) (fun a v1 σ H2 ha hv1 hI => ?_) (fun σ H2 hI => ?_)⟩
          · obtain ⟨l2, tx2, rs2, y6, y7, rfl, I2, hs2, ht2, hr2, z, hz⟩ := hI
            have hv2 : v1 = nV a := by
              rw [hv1]
              show V.int (0 + (a : Int)) = V.int (a : Int)
              rw [Int.zero_add]
            subst hv2
            rw [tk] at ha
            have few2 := I2.few hl2 npos hn
            have hra2 := I2.tr at_ ra sv hr2 hs2
            refine ⟨_, rfl, _, rfl, true, SA, _, _, _, rfl, rfl, .lst I2.eS, atI_nat (by rw [List.getElem?_map, hr2]; rfl), ra, false, rfl, ⟨_, hra2⟩, fun E hE => lc_pure (wk_seq false K ra (sv.map nV)) (fun i => nV (nxt M.tab (sv.getD i 0) a)) (by rw [List.length_map]; omega) (fun i acc _ => same_seqT (same_upd hE) hra2) (fun i v3 acc hi hv3 H5 e5 => ?_) ?_ (fun σ H Q Q' m q => ?_) (fun _ _ _ _ _ m q => m _ _ q)⟩
            · rw [List.length_map] at hi
              have hvi := List.getElem?_eq_getElem hi
              rw [List.getElem?_map, hvi] at hv3
              cases hv3
              have hqn := svn _ (List.getElem_mem hi)
              rw [getD_of hvi]
              generalize sv[i] = q0 at hqn
              obtain ⟨rs1, r1, row1, a1, a2, a3, a4, a5, a6⟩ := hT.row W.tb hqn
              have s5 : Same H H5 := by rw [e5]; exact I2.sm.trans (same_upd hE)
              exact ⟨rfl, _, rfl, _, rfl, b, t, _, _, _, rfl, rfl, a1.same s5, atI_nat a2, _, rfl, b, r1, _, _, _, rfl, rfl, a3.same s5, atI_nat (by rw [List.getElem?_map, a6 a ha]; rfl), e5, rfl⟩
            · rw [List.length_map]
              have eS3 : (List.range sv.length).map (fun i => nV (nxt M.tab (sv.getD i 0) a)) = (stpT M sv a).map nV := by
                have := range_nV (stpT M sv a)
                unfold stpT at this ⊢
                rw [List.length_map] at this
                rw [← this]
                apply List.map_congr_left
                intro i hi
                have hi2 := List.mem_range.mp hi
                rw [getD_of (List.getElem?_eq_getElem hi2), getD_of (show (sv.map fun q => nxt M.tab q a)[i]? = some (nxt M.tab sv[i] a) by rw [List.getElem?_map, List.getElem?_eq_getElem hi2]; rfl)]
              rw [eS3]
              refine ⟨E, _, rfl, .inl ⟨SqL.of upd_same, fun p hp => ?_⟩⟩
              have I4 := I2.keep ((same_upd (o := .lst ((stpT M sv a).map nV)) hE).trans (same_upd (o := .tup ((stpT M sv a).map nV)) hp))
              have ep : SqT K (upd (upd H2 E (.lst ((stpT M sv a).map nV))) p (.tup ((stpT M sv a).map nV))) p ((stpT M sv a).map nV) := SqT.of upd_same
              generalize upd (upd H2 E (.lst ((stpT M sv a).map nV))) p (.tup ((stpT M sv a).map nV)) = H4 at I4 ep ⊢
              refine ⟨_, rfl, _, rfl, tD (stpT M sv a), l2.map tD, dp_tD ep, .lst (SqL.of I4.eS) (dpAll_tD I4.tl I4.tr), shaped_tD _, shaped_tDs l2, _, rfl, ?_⟩
              rw [any_tD]
              by_cases hm : stpT M sv a ∈ l2
              · rw [decide_eq_true hm]
                exact iteF ⟨l2, tx2, rs2, _, _, rfl, I4.old hs2 hm, hs2, ht2, hr2, z, hz⟩
              · rw [decide_eq_false hm]
                obtain ⟨c0, hc0⟩ : ∃ c0, x.cps[a]? = some c0 := ⟨x.cps[a], Array.getElem?_eq_getElem ha⟩
                have hat : atI x.cps.toList (a : Int) = some c0 := atI_nat (by rw [Array.getElem?_toList]; exact hc0)
                have I5 := I4.new W ha hs2 ht2 hm ep
                have eX5 : upd H4 SA (.lst (rs2.map V.ref ++ [.ref p])) XA = some (.lst (tx2.map fun u => V.str (txt x u))) := (upd_ne I4.ne.symm).trans I4.eX
                have tlen2 := I4.ln at_ tt ht2
                have lenT := I4.B.len
                refine iteT ⟨_, rfl, .inl ⟨rfl, _, SqL.of I4.eS⟩, _, rfl, SA, _, _, rfl, rfl, I4.eS, by rw [List.length_map, I4.tl, sizeLine_eq]; omega, ?_⟩
                refine ⟨_, rfl, .inl ⟨rfl, _, SqL.of eX5⟩, _, rfl, _, rfl, true, XA, _, _, _, rfl, rfl, .lst eX5, atI_nat (by rw [List.getElem?_map, ht2]; rfl), _, rfl, _, rfl, x, _, c0, rfl, rfl, by show x.cps.size ≤ sizeLine; rw [sizeLine_eq]; omega, hat, _, _, rfl, rfl, ?_, ?_⟩
                · show (txt x tt).length + 1 ≤ sizeLine
                  rw [txt_len, sizeLine_eq]
                  omega
                · rw [txt_one hc0, txt_app]
                  rw [List.map_append, List.map_append] at I5
                  exact ⟨XA, _, _, rfl, rfl, eX5, by rw [List.length_map, lenT, sizeLine_eq]; omega, _, _, _, _, _, rfl, I5, app_l hs2, app_l ht2, app_l hr2, z ++ [stpT M sv a], by rw [hz, List.append_assoc]⟩
            · obtain ⟨w1, e1, w2, e2, b', p', xs, i', z', e3, e4, e5, e6, w3, e7, b2, p2, xs2, i2, z2, g3, g4, g5, g6, e8⟩ := q
              exact ⟨w1, e1, w2, e2, b', p', xs, i', z', e3, e4, e5, e6, w3, e7, b2, p2, xs2, i2, z2, g3, g4, g5, g6, m _ _ e8⟩
          · obtain ⟨l2, tx2, rs2, y6, y7, rfl, I2, hs2, ht2, hr2, z, hz⟩ := hI
            rw [tk] at I2
            have len2 : l.length ≤ l2.length := by rw [hz, List.length_append]; omega
            refine ⟨_, rfl, _, _, rfl, rfl, ⟨l2, tx2, rs2, at_ + 1, _, _, rfl, I2.next, by omega, fun i s hi his => ?_⟩, ?_⟩
            · rcases Nat.lt_or_ge i at_ with y | y
              · rw [hz, List.getElem?_append_left (by omega)] at his
                exact hno i s y his
              · have ei : i = at_ := by omega
                subst ei
                rw [hs2] at his
                cases his
                exact hnt
            · show 401 - ((at_ : Int) + 1).toNat < 401 - ((at_ : Int)).toNat
              omega
      · exfalso
        have c1 : ¬ (at_ : Int) < (l.length : Int) := fun z => c (decide_eq_true z)
        have ea : at_ = l.length := by omega
        subst ea
        refine I.B.none (p := fun s => s ∈ tv) (fun s hs => ?_) u0 ok0 hu0
        obtain ⟨i, hi⟩ := List.mem_iff_getElem?.mp hs
        exact hno i s (List.getElem?_eq_some_iff.mp hi).1 hi
    · obtain ⟨v1, e1, v2, e2, b, p, ys, e3, e4, i, j, e5, e6, c, e7, h⟩ := q
      exact ⟨v1, e1, v2, e2, b, p, ys, e3, e4, i, j, e5, e6, c, e7, m _ _ h⟩
end
end K46
set_option Elab.async false
set_option linter.all false
set_option maxRecDepth 100000
set_option maxHeartbeats 1600000
namespace K46
open PySem PySem.Spec PyProof.Rows L2
/-! ### lists of texts as data -/
def sD (x : Str) (u : List Nat) : PyData := .str (txt x u)
theorem Rg.ok {x : Str} (h : Rg x) : PyData.strOk x = true := by
  unfold PyData.strOk
  rw [← Array.all_toList, List.all_eq_true]
  exact fun c hc => decide_eq_true (h c hc)
theorem Rg.txt {x : Str} (h : Rg x) (u : List Nat) : Rg (txt x u) := fun c hc => by
  unfold K46.txt at hc
  simp only [List.mem_map] at hc
  obtain ⟨i, _, rfl⟩ := hc
  by_cases hi : i < x.cps.toList.length
  · rw [List.getD_eq_getElem?_getD, List.getElem?_eq_getElem hi]
    exact h _ (List.getElem_mem hi)
  · rw [List.getD_eq_getElem?_getD, List.getElem?_eq_none (by omega)]
    exact (by decide : (0 : Nat) < 0x110000)
theorem dpAll_str {K : PySem.W.Frag} {H : Hp} (x : Str) : ∀ L : List (List Nat), DpAll K H (L.map fun u => V.str (txt x u)) (L.map (sD x))
  | [] => .nil
  | _ :: l => .cons (.str _) (dpAll_str x l)
theorem shaped_strs {x : Str} (h : Rg x) (L : List (List Nat)) : SeqAt.shaped (.list (L.map (sD x))) = true := by
  have h1 : PyData.canLayAll0 (L.map (sD x)) = true := by
    induction L with
    | nil => simp [PyData.canLayAll0]
    | cons a l ih =>
      rw [List.map_cons, PyData.canLayAll0, ih]
      show ((PyData.str (K46.txt x a)).canLay0 && true) = true
      rw [PyData.canLay0, (h.txt a).ok]
      rfl
  have h2 : PyData.depthAll (L.map (sD x)) ≤ 1 := by
    clear h1
    induction L with
    | nil => simp [PyData.depthAll]
    | cons a l ih =>
      rw [List.map_cons, PyData.depthAll]
      have : (sD x a).depth ≤ 1 := by
        show (PyData.str (K46.txt x a)).depth ≤ 1
        rw [PyData.depth]
        first | omega | (intro; simp) | simp
      omega
  show (PyData.canLay0 (.list (L.map (sD x))) && decide ((PyData.list (L.map (sD x))).depth ≤ 64)) = true
  rw [Bool.and_eq_true]
  refine ⟨by simp only [PyData.canLay0]; exact h1, decide_eq_true ?_⟩
  simp only [PyData.depth]
  omega
theorem eqv_strs_nil (x : Str) (L : List (List Nat)) : PyData.eqv (.list (L.map (sD x))) (.list []) = L.isEmpty := by
  cases L <;> simp [PyData.eqv, PyData.eqvAll]
theorem eqv_shaped {d : PyData} (h : SeqAt.shaped d = true) : PyData.eqv d d = true := by
  have h' : (d.canLay0 && decide (d.depth ≤ 64)) = true := h
  rw [Bool.and_eq_true] at h'
  exact PySem.SeqAt.eqv_refl_plain d (PyData.plain_of_canLay0 d h'.1)
theorem flat_strs (x : Str) (L : List (List Nat)) : (L.map fun u => V.str (txt x u)).all flatV = true := by
  rw [List.all_eq_true]
  intro v hv
  obtain ⟨u, _, rfl⟩ := List.mem_map.mp hv
  rfl
theorem inV_strs {x : Str} (Lt : Ltr x) {L : List (List Nat)} {u : List Nat} (hL : ∀ v ∈ L, okW x.cps.size v) (hu : okW x.cps.size u) : inV (.str (txt x u)) (L.map fun u => V.str (txt x u)) = decide (u ∈ L) := by
  have e : ∀ v, v ∈ L → (eqV (.str (txt x v)) (.str (txt x u)) = true ↔ v = u) := fun v hv => by
    show ((txt x v == txt x u) = true) ↔ _
    rw [beq_iff_eq]
    exact ⟨fun h => txt_inj Lt (hL v hv) hu h, fun h => by rw [h]⟩
  by_cases h : u ∈ L
  · rw [decide_eq_true h]
    unfold inV
    rw [List.any_eq_true]
    exact ⟨_, List.mem_map_of_mem h, (e u h).mpr rfl⟩
  · rw [decide_eq_false h]
    unfold inV
    rw [List.any_eq_false]
    intro v hv
    obtain ⟨w, hw, rfl⟩ := List.mem_map.mp hv
    intro z
    exact h ((e w hw).mp z ▸ hw)
end K46
set_option Elab.async false
set_option linter.all false
set_option maxRecDepth 100000
set_option maxHeartbeats 1600000
namespace K46
open PySem PySem.Spec PyProof.Rows L2
theorem runS_T (M : Mach) : ∀ (u : List Nat) (s : List Nat), runS (stpT M) s u = s.map fun q => runT M.tab q u
  | [], s => by
    show s = s.map fun q => q
    rw [List.map_id']
  | a :: u, s => by
    show runS (stpT M) (stpT M s a) u = _
    rw [runS_T M u]
    unfold stpT
    rw [List.map_map]
    rfl
theorem SameB.fresh {p : Addr} {H H' : Hp} (s : SameB p H H') (h : H p = none) : Same H H' := fun b o e => s b o (fun z => by rw [z, h] at e; cases e) e
theorem pick_if {c : Prop} [Decidable c] {ta tb : TE} {σ : L2.St} {H1 : Hp} {Q : VK} (R : V → Hp → Prop) (ha : c → ∀ Q' : VK, (∀ v H, R v H → Q' v H) → ta σ H1 Q') (hb : ¬ c → ∀ Q' : VK, (∀ v H, R v H → Q' v H) → tb σ H1 Q') (hq : ∀ v H, R v H → Q v H) : if c then ta σ H1 Q else tb σ H1 Q := by
  by_cases h : c
  · rw [if_pos h]
    exact ha h Q hq
  · rw [if_neg h]
    exact hb h Q hq
/-- while the words are gathered in a list -/
structure DuI (x : Str) (H5 H : Hp) (U : Addr) (cnt : Nat) (A : List Nat → Prop) (Lw : List (List Nat)) : Prop where
  sm : SameB U H5 H
  eU : H U = some (.lst (Lw.map fun u => V.str (txt x u)))
  nd : Lw.Nodup
  len : Lw.length ≤ cnt
  ok : ∀ u ∈ Lw, okW x.cps.size u
  mem : ∀ u, u ∈ Lw ↔ A u
theorem DuI.iff {x : Str} {H5 H : Hp} {U : Addr} {c c' : Nat} {A A' : List Nat → Prop} {Lw : List (List Nat)} (I : DuI x H5 H U c A Lw) (hc : c ≤ c') (h : ∀ u, A u ↔ A' u) : DuI x H5 H U c' A' Lw := ⟨I.sm, I.eU, I.nd, Nat.le_trans I.len hc, I.ok, fun u => (I.mem u).trans (h u)⟩
theorem DuI.same {x : Str} {H5 H H' : Hp} {U : Addr} {c : Nat} {A : List Nat → Prop} {Lw : List (List Nat)} (I : DuI x H5 H U c A Lw) (s : Same H H') : DuI x H5 H' U c A Lw := ⟨I.sm.trans (.of s), s _ _ I.eU, I.nd, I.len, I.ok, I.mem⟩
theorem DuI.old {x : Str} {H5 H : Hp} {U : Addr} {c : Nat} {A : List Nat → Prop} {Lw : List (List Nat)} {u : List Nat} (I : DuI x H5 H U c A Lw) (hm : u ∈ Lw) : DuI x H5 H U (c + 1) (fun v => A v ∨ v = u) Lw := I.iff (by omega) fun v => ⟨.inl, fun h => h.elim id fun e => by rw [e]; exact (I.mem u).mp hm⟩
theorem DuI.add {x : Str} {H5 H : Hp} {U : Addr} {c : Nat} {A : List Nat → Prop} {Lw : List (List Nat)} {u : List Nat} (I : DuI x H5 H U c A Lw) (hm : u ∉ Lw) (ok : okW x.cps.size u) : DuI x H5 (upd H U (.lst ((Lw.map fun u => V.str (txt x u)) ++ [.str (txt x u)]))) U (c + 1) (fun v => A v ∨ v = u) (Lw ++ [u]) where
  sm := I.sm.trans sameB_upd
  eU := by rw [upd_same, List.map_append]; rfl
  nd := nodup_snoc I.nd hm
  len := by
    rw [List.length_append, List.length_singleton]
    exact Nat.succ_le_succ I.len
  ok := fun v hv => by
    rcases List.mem_append.mp hv with z | z
    · exact I.ok v z
    · rw [List.mem_singleton.mp z]
      exact ok
  mem := fun v => by
    rw [List.mem_append, List.mem_singleton, I.mem]
section
variable {P : Program} {w : World} {K : PySem.W.Frag} {mg : Str → Option Value} {base : Heap}
/-! ### _law_due -/
abbrev nmDue : List Str := ["_law_letters_here", "_law_picture", "_law_extra", "_law_accepting", "_law_table", "_law_many", "_law_heads", "_law_far", "_law_a", "_law_b", "_law_tails", "_law_found", "_law_head", "_law_middle", "_law_tail", "_law_state_here"]
theorem scDue : FnScope nmDue ["_law_letters_here", "_law_picture", "_law_extra"] (defScope (topS 39)) := C8.fnScope_by (by decide +kernel)
def spDue (K : PySem.W.Frag) : Sp := fun vs H Q _ => ∃ (x : Str) (p a t : Addr) (M : Mach) (ex : Nat), vs = [.str x, .ref p, nV ex] ∧ SqT K H p [.str x, .ref a, .ref t] ∧ PartsH false K H a t M ∧ Min x.cps.size M ∧ Ltr x ∧ Rg x ∧ M.acc.length ≤ 7 ∧ ex ≤ 3 ∧
  ∀ H' pf (L : List (List Nat)), Same H H' → H pf = none → H' pf = some (.lst (L.map fun u => V.str (txt x u))) → L.Nodup → (∀ u, u ∈ L ↔ SuiteW x.cps.size M ex u) → Q (.ref pf) H'
theorem cal_due (T : Tx K mg) : C8.Cal P w K mg base 2 "_law_due" (spDue K) [] := by
  refine cal_of T (i := 39) 27 rfl (by decide +kernel) scDue (fun _ _ _ _ _ _ us hl => match us, hl with | [_, _, _], _ => rfl) (fun vs H Q E h => ?_) (fun f cdv A outer s H vs Q E hr h => ?_)
  · obtain ⟨x, p, a, t, M, ex, rfl, _⟩ := h
    rfl
  · obtain ⟨x, p, a, t, M, ex, rfl, hp, hP, hMin, L, Rgx, hn, hex, q⟩ := h
    have hu := hu_of hr
    have hu64 := hr.units
    refine ⟨_, pss_cons (ps_asg (g := gTup K 2 (gCons (gName 3) (gCons (gName 4) gNil))) (pe_tup (pa_cons (pe_ix (ixB K) (pv 1) pe_int (fun _ _ => rfl)) (pa_cons (pe_ix (ixB K) (pv 1) pe_int (fun _ _ => rfl)) pa_nil))) (pg_tup rfl (pgs_cons (pg_name (i := 3) scDue.nd rfl (Or.inr rfl)) (pgs_cons (pg_name (i := 4) scDue.nd rfl (Or.inr rfl)) pgs_nil))))
      (pss_cons (ps_set (i := 5) scDue.nd rfl (.inl rfl) (pe_callB (lenB K) (by rfl) (T.b "len" (by decide +kernel)) PySem.boot_len (pa_cons (pv 3) pa_nil)))
      (pss_cons (ps_setLc (i := 6) (own := [("_law_state_here", 15)]) (g := gName 15) (tt := tYes) rfl scDue.nd rfl rfl (sw_true rfl rfl rfl (by decide +kernel)) (pi_range1 (by rfl) (T.b "range" (by decide +kernel)) (pa_cons (pv 5) pa_nil)) (blkOk_by (N := nmDue) (sc := defScope (topS 39)) (by decide +kernel))
          (fun _ _ _ _ _ => pg_name (i := 15) scDue.nd rfl (Or.inl rfl)) (fun _ _ _ _ _ => pts_nil) (fun _ _ _ _ _ => C8.pe_c (cal_lt T) hr (by decide) (by rfl) (pa_cons (pv 0) (pa_cons (pv 4) (pa_cons (pe_tup (pa_cons (pe_tup (pa_cons pe_int pa_nil)) (pa_cons (pe_lst (pa_cons (pe_tup (pa_cons (pv 15) pa_nil)) pa_nil)) pa_nil))) pa_nil)))))
      (pss_cons (ps_set (i := 7) scDue.nd rfl (.inl rfl) (pe_lst pa_nil))
      (pss_cons (ps_for PassesOwn.never rfl (pi_range1 (by rfl) (T.b "range" (by decide +kernel)) (pa_cons (pv 5) pa_nil)) (pg_name (i := 8) scDue.nd rfl (.inr rfl))
        (pss_one (ps_set (i := 7) scDue.nd rfl (.inl rfl) (pe_op op_cat (pv 7) (pe_lc (own := [("_law_b", 9)]) (g := gName 9) rfl scDue.nd (pi_range1 (by rfl) (T.b "range" (by decide +kernel)) (pa_cons (pv 5) pa_nil)) (blkOk_by (N := nmDue) (sc := defScope (topS 39)) (by decide +kernel))
          (fun _ _ _ _ _ => pg_name (i := 9) scDue.nd rfl (Or.inl rfl)) (fun _ _ _ _ _ => pts_one (pt_cmpR op_ne (pe_ix (ixB K) (pv 3) (pv 8) (fun _ _ => rfl)) (pe_ix (ixB K) (pv 3) (pv 9) (fun _ _ => rfl)) (by rfl))) (fun _ _ _ _ _ => pe_tup (pa_cons (pv 8) (pa_cons (pv 9) pa_nil))))))))
      (pss_cons (ps_set (i := 10) scDue.nd rfl (.inl rfl) (pe_lst pa_nil))
      (pss_cons (ps_for PassesOwn.never rfl (pi_range1 (by rfl) (T.b "range" (by decide +kernel)) (pa_cons (pv 5) pa_nil)) (pg_name (i := 8) scDue.nd rfl (.inr rfl))
        (pss_one (ps_for PassesOwn.never rfl (pi_range1 (by rfl) (T.b "range" (by decide +kernel)) (pa_cons (pv 8) pa_nil)) (pg_name (i := 9) scDue.nd rfl (.inl rfl))
          (pss_one (ps_expr (pe_bm PySem.F.plainAttrs_list PySem.F.slot_list_append PySem.F.type_list_append mt_append (pv 10) (pa_cons (C8.pe_c (cal_lt T) hr (by decide) (by rfl) (pa_cons (pv 0) (pa_cons (pv 4) (pa_cons (pe_tup (pa_cons (pe_tup (pa_cons (pv 8) (pa_cons (pv 9) pa_nil))) (pa_cons (pv 7) pa_nil))) pa_nil)))) pa_nil)))))))
      (pss_cons (ps_set (i := 11) scDue.nd rfl (.inl rfl) (pe_lst pa_nil))
      (pss_cons (ps_for PassesOwn.never rfl (piB K (pv 6)) (pg_name (i := 12) scDue.nd rfl (.inl rfl))
        (pss_one (ps_for PassesOwn.never rfl (piB K (C8.pe_c (cal_ltexts T) hr (by decide) (by rfl) (pa_cons (pv 0) (pa_cons (pe_op op_add (pv 2) pe_int) pa_nil)))) (pg_name (i := 13) scDue.nd rfl (.inl rfl))
          (pss_one (ps_for PassesOwn.never rfl (piB K (pe_ifExp (pt_cmpR (op_neD hu64) (pv 10) (pe_lst pa_nil) (by rfl)) (pv 10) (pe_lst (pa_cons pe_str pa_nil)))) (pg_name (i := 14) scDue.nd rfl (.inl rfl))
            (pss_one (ps_if (pt_cmpR op_notIn_seq (pe_op op_add_str (pe_op op_add_str (pv 12) (pv 13)) (pv 14)) (pv 11) (by rfl))
              (pss_one (ps_expr (pe_bm PySem.F.plainAttrs_list PySem.F.slot_list_append PySem.F.type_list_append mt_append (pv 11) (pa_cons (pe_op op_add_str (pe_op op_add_str (pv 12) (pv 13)) (pv 14)) pa_nil)))) pss_nil)))))))
      (pss_one (ps_ret (pv 11))))))))))), ?_⟩
    have W := hMin.wf
    have npos := W.pos
    have tn : ((M.acc.length : Nat) : Int).toNat = M.acc.length := Int.toNat_natCast _
    refine ⟨_, rfl, false, p, _, 1, .ref a, rfl, rfl, hp, rfl, _, rfl, false, p, _, 2, .ref t, rfl, rfl, hp, rfl, by show 2 ≤ sizeLine; decide, fun p1 hp1 => ⟨p1, _, rfl, SqT.of upd_same, rfl, _, _, rfl, _, _, rfl, rfl, ?_⟩⟩
    have sm1 : Same H (upd H p1 (.tup [.ref a, .ref t])) := same_upd hp1
    generalize upd H p1 (.tup [.ref a, .ref t]) = H1 at sm1 ⊢
    refine ⟨_, rfl, false, a, _, rfl, hP.acc.same sm1, ?_⟩
    rw [List.length_map]
    -- heads
    refine ⟨_, rfl, _, rfl, by omega, by omega, fun D hD => ?_⟩
    have nD0 : H D = none := by
      cases z : H D with
      | none => rfl
      | some o => rw [sm1 _ _ z] at hD; cases hD
    refine lc_by (wk_range 0 _) (fun i H2 => Same H1 H2 ∧ ∃ hs : List (List Nat), H2 D = some (.lst (hs.map fun u => V.str (txt x u))) ∧ hs.length = i ∧ ∀ (j : Nat) h, hs[j]? = some h → First x.cps.size (fun v => runT M.tab 0 v = j) h ∧ h.length ≤ 400) ⟨same_upd hD, [], upd_same, rfl, fun j h e => by simp at e⟩ (fun _ _ _ _ => trivial) (fun i v H2 hi hv hI => ?_) (fun H2 hI => ?_)
    · obtain ⟨s2, hs, eD, hl, hh⟩ := hI
      rw [tn] at hi
      have hv2 : v = nV i := by
        rw [hv]
        show V.int (0 + (i : Int)) = V.int (i : Int)
        rw [Int.zero_add]
      subst hv2
      refine ⟨rfl, _, rfl, _, rfl, by show 1 ≤ sizeLine; decide, fun q0 hq0 => ⟨_, rfl, by show 1 ≤ sizeLine; decide, fun q1 hq1 => ⟨by show 1 ≤ sizeLine; decide, fun q2 hq2 => ⟨by show 2 ≤ sizeLine; decide, fun q3 hq3 => ?_⟩⟩⟩⟩
      have t0 : Same H2 (upd H2 q0 (.tup [.int 0])) := same_upd hq0
      have t1 : Same _ (upd (upd H2 q0 (.tup [.int 0])) q1 (.tup [nV i])) := same_upd hq1
      have t2 : Same _ (upd (upd (upd H2 q0 (.tup [.int 0])) q1 (.tup [nV i])) q2 (.lst [.ref q1])) := same_upd hq2
      have t3 : Same _ (upd (upd (upd (upd H2 q0 (.tup [.int 0])) q1 (.tup [nV i])) q2 (.lst [.ref q1])) q3 (.tup [.ref q0, .ref q2])) := same_upd hq3
      have e0 := t3 _ _ (t2 _ _ (t1 _ _ (upd_same : upd H2 q0 (.tup [.int 0]) q0 = _)))
      have e1 := t3 _ _ (t2 _ _ (upd_same : upd (upd H2 q0 (.tup [.int 0])) q1 (.tup [nV i]) q1 = _))
      have e2 := t3 _ _ (upd_same : upd (upd (upd H2 q0 (.tup [.int 0])) q1 (.tup [nV i])) q2 (.lst [.ref q1]) q2 = _)
      have e3 : upd (upd (upd (upd H2 q0 (.tup [.int 0])) q1 (.tup [nV i])) q2 (.lst [.ref q1])) q3 (.tup [.ref q0, .ref q2]) q3 = _ := upd_same
      have sA := ((t0.trans t1).trans t2).trans t3
      have eD3 := sA _ _ eD
      generalize upd (upd (upd (upd H2 q0 (.tup [.int 0])) q1 (.tup [nV i])) q2 (.lst [.ref q1])) q3 (.tup [.ref q0, .ref q2]) = H3 at e0 e1 e2 e3 sA eD3 ⊢
      have sH := (sm1.trans s2).trans sA
      have conv : ∀ u, (runS (stpT M) [0] u ∈ [[i]]) ↔ runT M.tab 0 u = i := fun u => by
        rw [runS_T, List.mem_singleton]
        show [runT M.tab 0 u] = [i] ↔ _
        constructor
        · intro h
          injection h
        · intro h
          rw [h]
      obtain ⟨u0, ok0, hu0⟩ := hMin.rea i hi
      refine ⟨x, t, q3, q0, q2, false, M, [0], [q1], [[i]], rfl, hP.tab.same sH, W, L, SqT.of e3, SqT.of e0, fun q h => by rw [List.mem_singleton.mp h]; exact npos, by decide, by omega, SqL.of e2, rfl, fun j a' v' h1 h2 => ?_, ⟨u0, ok0, (conv u0).mpr hu0⟩, fun H4 u s4 hF hul => ⟨_, s4 _ _ eD3, by rw [List.length_map, hl, sizeLine_eq]; omega, ?_, hs ++ [u], by rw [upd_same, List.map_append]; rfl, by rw [List.length_append, hl]; rfl, fun j h e => ?_⟩⟩
      · cases j with
        | zero =>
          cases h1
          cases h2
          exact SqT.of e1
        | succ j => simp at h1
      · exact fun b' o h => by
          rw [upd_ne (ne_of_none h hD)]
          exact s4 _ _ (sA _ _ (s2 _ _ h))
      · rcases app_at e with ⟨_, e⟩ | ⟨z, rfl⟩
        · exact hh j h e
        · rw [z, hl]
          exact ⟨hF.imp fun u _ => conv u, hul⟩
    obtain ⟨s2, hs, eD, hl, hh⟩ := hI
    rw [tn] at hl
    have sm2 := sm1.trans s2
    -- far
    refine ⟨by show 0 ≤ sizeLine; decide, fun F1 hF1 => ?_⟩
    have eD3 := same_upd (o := .lst []) hF1 _ _ eD
    have s3 := sm2.trans (same_upd (o := .lst []) hF1)
    have eF3 : upd H2 F1 (.lst []) F1 = some (.lst []) := upd_same
    generalize upd H2 F1 (.lst []) = H3 at eD3 s3 eF3 ⊢
    refine ⟨_, rfl, _, rfl, by omega, by omega, for_by (wk_range 0 _) (fun i σ H4 => ∃ (F : Addr) (ts : List Addr) (tv : List (List Nat)) (y8 : Option V), σ = [some (.str x), some (.ref p), some (nV ex), some (.ref a), some (.ref t), some (nV M.acc.length), some (.ref D), some (.ref F), y8, none, none, none, none, none, none, none] ∧ Same H3 H4 ∧ H4 F = some (.lst (ts.map V.ref)) ∧ ts.length = tv.length ∧ tv.length ≤ i * 7 ∧ (∀ (j : Nat) c v, ts[j]? = some c → tv[j]? = some v → H4 c = some (.tup (v.map nV))) ∧ ∀ v, v ∈ tv ↔ ∃ a' b', a' < i ∧ b' < M.acc.length ∧ M.acc.getD a' false ≠ M.acc.getD b' false ∧ v = [a', b'])
      ⟨F1, [], [], none, rfl, Same.refl _, eF3, rfl, Nat.zero_le _, fun j c v e => by simp at e, fun v => ⟨fun h => (by cases h), fun ⟨_, _, h, _⟩ => absurd h (Nat.not_lt_zero _)⟩⟩ (fun _ _ _ _ _ => trivial) (fun i v σ H4 hi hv hI => ?_) (fun σ H4 hI => ?_)⟩
    · obtain ⟨F, ts, tv, y8, rfl, s4, eF, hl3, hl4, hts, htv⟩ := hI
      rw [tn] at hi
      have hv2 : v = nV i := by
        rw [hv]
        show V.int (0 + (i : Int)) = V.int (i : Int)
        rw [Int.zero_add]
      subst hv2
      refine ⟨_, rfl, _, rfl, _, rfl, by omega, by omega, fun E hE => lc_byT (wk_range 0 _) (fun j H5 => Same H4 H5 ∧ ∃ (cs : List Addr) (cv : List (List Nat)), H5 E = some (.lst (cs.map V.ref)) ∧ cs.length = cv.length ∧ cv.length ≤ j ∧ (∀ (k : Nat) c v, cs[k]? = some c → cv[k]? = some v → H5 c = some (.tup (v.map nV))) ∧ ∀ v, v ∈ cv ↔ ∃ b', b' < j ∧ M.acc.getD i false ≠ M.acc.getD b' false ∧ v = [i, b']) ⟨same_upd hE, [], [], upd_same, rfl, Nat.le_refl _, fun k c v e => by simp at e, fun v => ⟨fun h => (by cases h), fun ⟨_, h, _⟩ => absurd h (Nat.not_lt_zero _)⟩⟩ (fun _ _ _ _ => trivial) (fun j v H5 hj hv hI => ?_) (fun H5 hI => ?_)⟩
      · obtain ⟨s5, cs, cv, eE, k1, k2, k3, k4⟩ := hI
        rw [tn] at hj
        have hv2 : v = nV j := by
          rw [hv]
          show V.int (0 + (j : Int)) = V.int (j : Int)
          rw [Int.zero_add]
        subst hv2
        have sA := (s3.trans s4).trans s5
        refine ⟨rfl, _, rfl, _, rfl, false, a, _, _, _, rfl, rfl, hP.acc.same sA, atI_nat (acc_at hi), _, rfl, _, rfl, false, a, _, _, _, rfl, rfl, hP.acc.same sA, atI_nat (acc_at hj), rfl, _, rfl, ite2 (fun c => ?_) (fun c => ?_)⟩
        · have ne : M.acc.getD i false ≠ M.acc.getD j false := fun z => by
            rw [z, decide_eq_true rfl] at c
            cases c
          refine ⟨_, rfl, _, rfl, by show 2 ≤ sizeLine; decide, fun q0 hq0 => ⟨_, same_upd hq0 _ _ eE, by rw [List.length_map, k1, sizeLine_eq]; omega, ?_, cs ++ [q0], cv ++ [[i, j]], by rw [upd_same, List.map_append]; rfl, by rw [List.length_append, List.length_append, k1]; rfl, by rw [List.length_append, List.length_singleton]; omega, fun k c0 v0 e1 e2 => ?_, fun v0 => ?_⟩⟩
          · exact fun b' o h => by
              rw [upd_ne (ne_of_none h hE)]
              exact same_upd hq0 _ _ (s5 _ _ h)
          · have nE : c0 ≠ E → True := fun _ => trivial
            rcases app_at e1 with ⟨z, e1⟩ | ⟨z, rfl⟩
            · rcases app_at e2 with ⟨_, e2⟩ | ⟨y, _⟩
              · have old := k3 k c0 v0 e1 e2
                rw [upd_ne (ne_of old eE fun z => by cases z)]
                exact same_upd hq0 _ _ old
              · omega
            · rcases app_at e2 with ⟨y, _⟩ | ⟨_, rfl⟩
              · omega
              · have eq0 : upd H5 c0 (.tup [nV i, nV j]) c0 = some (.tup [nV i, nV j]) := upd_same
                rw [upd_ne (ne_of eq0 (same_upd hq0 _ _ eE) fun z => by cases z)]
                exact eq0
          · rw [List.mem_append, List.mem_singleton, k4]
            constructor
            · rintro (⟨b', h1, h2, h3⟩ | h)
              · exact ⟨b', by omega, h2, h3⟩
              · exact ⟨j, by omega, ne, h⟩
            · rintro ⟨b', h1, h2, h3⟩
              rcases Nat.lt_or_ge b' j with y | y
              · exact .inl ⟨b', y, h2, h3⟩
              · have e : b' = j := by omega
                rw [e] at h3
                exact .inr h3
        · have eq : M.acc.getD i false = M.acc.getD j false := by
            apply Classical.byContradiction
            intro z
            have z' : ¬ V.bl (M.acc.getD i false) = V.bl (M.acc.getD j false) := fun y => z (V.bl.inj y)
            exact c (by rw [decide_eq_false z']; rfl)
          refine ⟨s5, cs, cv, eE, k1, by omega, k3, fun v0 => (k4 v0).trans ?_⟩
          constructor
          · rintro ⟨b', h1, h2, h3⟩
            exact ⟨b', by omega, h2, h3⟩
          · rintro ⟨b', h1, h2, h3⟩
            rcases Nat.lt_or_ge b' j with y | y
            · exact ⟨b', y, h2, h3⟩
            · have e : b' = j := by omega
              rw [e] at h2
              exact absurd eq h2
      · obtain ⟨s5, cs, cv, eE, k1, k2, k3, k4⟩ := hI
        rw [tn] at k2 k4
        have eF5 := s5 _ _ eF
        refine ⟨F, E, _, _, rfl, rfl, eF5, eE, by rw [List.length_map, List.length_map, hl3, k1, sizeLine_eq]; have : i * 7 ≤ 7 * 7 := Nat.mul_le_mul_right _ (by omega); omega, fun G hG => ⟨G, ts ++ cs, tv ++ cv, _, rfl, (s4.trans s5).trans (same_upd hG), by rw [upd_same, List.map_append], by rw [List.length_append, List.length_append, hl3, k1], by rw [List.length_append]; omega, fun j c v e1 e2 => ?_, fun v => ?_⟩⟩
        · by_cases hj : j < ts.length
          · rw [List.getElem?_append_left hj] at e1
            rw [List.getElem?_append_left (by omega)] at e2
            exact same_upd hG _ _ (s5 _ _ (hts j c v e1 e2))
          · rw [List.getElem?_append_right (by omega)] at e1
            rw [List.getElem?_append_right (by omega), ← hl3] at e2
            exact same_upd hG _ _ (k3 _ c v e1 e2)
        · rw [List.mem_append, htv, k4]
          constructor
          · rintro (⟨a', b', h1, h2⟩ | ⟨b', h1, h2, h3⟩)
            · exact ⟨a', b', by omega, h2⟩
            · exact ⟨i, b', by omega, h1, h2, h3⟩
          · rintro ⟨a', b', h1, h2, h3, h4⟩
            rcases Nat.lt_or_ge a' i with y | y
            · exact .inl ⟨a', b', y, h2, h3, h4⟩
            · have e : a' = i := by omega
              rw [e] at h3 h4
              exact .inr ⟨b', h2, h3, h4⟩
    obtain ⟨F, ts, tv, y8, rfl, s4, eF, hl3, hl4, hts, htv⟩ := hI
    rw [tn] at hl4 htv
    have s34 := s3.trans s4
    have eD4 := s4 _ _ eD3
    -- tails
    have kf := L.few
    have conv : ∀ i j, i < M.acc.length → j < M.acc.length → ∀ u, okW x.cps.size u → ((runS (stpT M) [i, j] u ∈ tv) ↔ accT M i u ≠ accT M j u) := fun i j hi hj u ok => by
      rw [runS_T, htv]
      constructor
      · rintro ⟨a', b', h1, h2, h3, h4⟩
        have h4 : [runT M.tab i u, runT M.tab j u] = [a', b'] := h4
        injection h4 with y1 y2
        injection y2 with y2 _
        show M.acc.getD (runT M.tab i u) false ≠ M.acc.getD (runT M.tab j u) false
        rw [y1, y2]
        exact h3
      · intro h
        exact ⟨_, _, W.tb.run hi ok, W.tb.run hj ok, h, rfl⟩
    have diff : ∀ i j, i < M.acc.length → j < M.acc.length → i ≠ j → ∃ u, okW x.cps.size u ∧ accT M i u ≠ accT M j u := fun i j hi hj ne => Classical.byContradiction fun z => ne (hMin.red i j hi hj fun v ok => Classical.byContradiction fun y => z ⟨v, ok, y⟩)
    refine ⟨by show 0 ≤ sizeLine; decide, fun G hG => ⟨_, rfl, _, rfl, by omega, by omega, for_by (wk_range 0 _) (fun i σ H5 => ∃ (Ts : List (List Nat)) (y8 y9 : Option V), σ = [some (.str x), some (.ref p), some (nV ex), some (.ref a), some (.ref t), some (nV M.acc.length), some (.ref D), some (.ref F), y8, y9, some (.ref G), none, none, none, none, none] ∧ Same H4 H5 ∧ H5 G = some (.lst (Ts.map fun u => V.str (txt x u))) ∧ Ts.length ≤ i * 7 ∧ (∀ u ∈ Ts, okW x.cps.size u ∧ u.length ≤ 400) ∧ ∀ u, u ∈ Ts ↔ ∃ a' b', a' < i ∧ b' < a' ∧ First x.cps.size (fun v => accT M a' v ≠ accT M b' v) u)
      ⟨[], _, none, rfl, same_upd hG, upd_same, Nat.zero_le _, fun u h => (by cases h), fun u => ⟨fun h => (by cases h), fun ⟨_, _, h, _⟩ => absurd h (Nat.not_lt_zero _)⟩⟩ (fun _ _ _ _ _ => trivial) (fun i v σ H5 hi hv hI => ?_) (fun σ H5 hI => ?_)⟩⟩
    · obtain ⟨Ts, y8, y9, rfl, s5, eG, hl5, ok5, m5⟩ := hI
      rw [tn] at hi
      have ti : ((i : Nat) : Int).toNat = i := Int.toNat_natCast _
      have hv2 : v = nV i := by
        rw [hv]
        show V.int (0 + (i : Int)) = V.int (i : Int)
        rw [Int.zero_add]
      subst hv2
      refine ⟨_, rfl, _, rfl, by omega, by omega, for_by (wk_range 0 _) (fun j σ H6 => ∃ (Ts : List (List Nat)) (y9 : Option V), σ = [some (.str x), some (.ref p), some (nV ex), some (.ref a), some (.ref t), some (nV M.acc.length), some (.ref D), some (.ref F), some (nV i), y9, some (.ref G), none, none, none, none, none] ∧ Same H4 H6 ∧ H6 G = some (.lst (Ts.map fun u => V.str (txt x u))) ∧ Ts.length ≤ i * 7 + j ∧ (∀ u ∈ Ts, okW x.cps.size u ∧ u.length ≤ 400) ∧ ∀ u, u ∈ Ts ↔ ∃ a' b', (a' < i ∨ (a' = i ∧ b' < j)) ∧ b' < a' ∧ First x.cps.size (fun v => accT M a' v ≠ accT M b' v) u)
        ⟨Ts, y9, rfl, s5, eG, by omega, ok5, fun u => (m5 u).trans ⟨fun ⟨a', b', h1, h2⟩ => ⟨a', b', .inl h1, h2⟩, fun ⟨a', b', h1, h2⟩ => ⟨a', b', h1.elim id fun h => absurd h.2 (Nat.not_lt_zero _), h2⟩⟩⟩ (fun _ _ _ _ _ => trivial) (fun j v σ H6 hj hv hI => ?_) (fun σ H6 hI => ?_)⟩
      · obtain ⟨Ts, y9, rfl, s6, eG, hl6, ok6, m6⟩ := hI
        rw [ti] at hj
        have hv2 : v = nV j := by
          rw [hv]
          show V.int (0 + (j : Int)) = V.int (j : Int)
          rw [Int.zero_add]
        subst hv2
        refine ⟨_, rfl, .inl ⟨rfl, _, SqL.of eG⟩, _, rfl, _, rfl, _, rfl, _, rfl, by show 2 ≤ sizeLine; decide, fun q0 hq0 => ⟨_, rfl, by show 2 ≤ sizeLine; decide, fun q1 hq1 => ?_⟩⟩
        have t0 : Same H6 (upd H6 q0 (.tup [nV i, nV j])) := same_upd hq0
        have t1 : Same _ (upd (upd H6 q0 (.tup [nV i, nV j])) q1 (.tup [.ref q0, .ref F])) := same_upd hq1
        have e0 := t1 _ _ (upd_same : upd H6 q0 (.tup [nV i, nV j]) q0 = _)
        have e1 : upd (upd H6 q0 (.tup [nV i, nV j])) q1 (.tup [.ref q0, .ref F]) q1 = _ := upd_same
        have sA := t0.trans t1
        have eG7 := sA _ _ eG
        generalize upd (upd H6 q0 (.tup [nV i, nV j])) q1 (.tup [.ref q0, .ref F]) = H7 at e0 e1 sA eG7 ⊢
        have s47 := s6.trans sA
        have sH := s34.trans s47
        obtain ⟨u0, ok0, ne0⟩ := diff i j hi (by omega) (by omega)
        refine ⟨x, t, q1, q0, F, false, M, [i, j], ts, tv, rfl, hP.tab.same sH, W, L, SqT.of e1, SqT.of e0, fun q h => ?_, Nat.le_refl 2, by omega, SqL.of (s47 _ _ eF), hl3, fun j a v e1 e2 => SqT.of (s47 _ _ (hts j a v e1 e2)), ⟨u0, ok0, (conv i j hi (by omega) u0 ok0).mpr ne0⟩, fun H8 u s8 hF hul => ⟨G, _, _, rfl, rfl, s8 _ _ eG7, ?_, Ts ++ [u], _, rfl, ?_, by rw [upd_same, List.map_append]; rfl, by rw [List.length_append, List.length_singleton]; omega, fun v hv => ?_, fun v => ?_⟩⟩
        · rcases List.mem_cons.mp h with z | z
          · omega
          · have := List.mem_singleton.mp z
            omega
        · rw [List.length_map, sizeLine_eq]
          have : i * 7 ≤ 7 * 7 := Nat.mul_le_mul_right _ (by omega)
          omega
        · exact same_store (s47.trans s8) hG
        · rcases List.mem_append.mp hv with z | z
          · exact ok6 v z
          · rw [List.mem_singleton.mp z]
            exact ⟨hF.1, hul⟩
        · have hF2 := hF.imp fun v ok => conv i j hi (by omega) v ok
          rw [List.mem_append, List.mem_singleton, m6]
          constructor
          · rintro (⟨a', b', h1, h2, h3⟩ | h)
            · exact ⟨a', b', by omega, h2, h3⟩
            · exact ⟨i, j, by omega, by omega, by rw [h]; exact hF2⟩
          · rintro ⟨a', b', h1, h2, h3⟩
            by_cases z : a' = i ∧ b' = j
            · obtain ⟨rfl, rfl⟩ := z
              exact .inr (h3.uniq hF2)
            · exact .inl ⟨a', b', by omega, h2, h3⟩
      · obtain ⟨Ts, y9, rfl, s6, eG, hl6, ok6, m6⟩ := hI
        rw [ti] at hl6 m6
        refine ⟨Ts, _, y9, rfl, s6, eG, by omega, ok6, fun u => (m6 u).trans ?_⟩
        constructor
        · rintro ⟨a', b', h1, h2⟩
          exact ⟨a', b', by omega, h2⟩
        · rintro ⟨a', b', h1, h2⟩
          exact ⟨a', b', by omega, h2⟩
    obtain ⟨Ts, y8, y9, rfl, s5, eG, hl5, ok5, m5⟩ := hI
    rw [tn] at hl5 m5
    have eD5 := s5 _ _ eD4
    have s35 := s34.trans s5
    -- the tails as they are used
    obtain ⟨Tw, hTw, okT, lenT, mT⟩ : ∃ Tw : List (List Nat), Tw = (if Ts = [] then [[]] else Ts) ∧ (∀ u ∈ Tw, okW x.cps.size u ∧ u.length ≤ 400) ∧ Tw.length ≤ 49 ∧ ∀ u, u ∈ Tw ↔ TailW x.cps.size M u := by
      refine ⟨_, rfl, ?_, ?_, fun u => ?_⟩
      · by_cases z : Ts = []
        · rw [if_pos z]
          intro u hu
          rw [List.mem_singleton.mp hu]
          exact ⟨fun _ h => (by cases h), Nat.zero_le _⟩
        · rw [if_neg z]
          exact ok5
      · by_cases z : Ts = []
        · rw [if_pos z]
          decide
        · rw [if_neg z]
          have : M.acc.length * 7 ≤ 7 * 7 := Nat.mul_le_mul_right _ hn
          omega
      · have swap : ∀ (a' b' : Nat) (u : List Nat), First x.cps.size (fun v => accT M a' v ≠ accT M b' v) u → First x.cps.size (fun v => accT M b' v ≠ accT M a' v) u := fun a' b' u h => h.imp fun v _ => ne_comm
        by_cases z : Ts = []
        · rw [if_pos z, List.mem_singleton]
          have n1 : M.acc.length ≤ 1 := by
            apply Classical.byContradiction
            intro y
            obtain ⟨u0, ok0, ne0⟩ := diff 1 0 (by omega) (by omega) (by decide)
            obtain ⟨u1, h1⟩ := first_ex (p := fun v => accT M 1 v ≠ accT M 0 v) ⟨u0, ok0, ne0⟩
            have := (m5 u1).mpr ⟨1, 0, by omega, by decide, h1⟩
            rw [z] at this
            cases this
          constructor
          · intro h
            exact .inl ⟨n1, h⟩
          · rintro (⟨_, h⟩ | ⟨i, j, h1, h2, _⟩)
            · exact h
            · omega
        · rw [if_neg z, m5]
          have n2 : ¬ M.acc.length ≤ 1 := fun y => z (List.eq_nil_iff_forall_not_mem.mpr fun u hu => by
            obtain ⟨a', b', h1, h2, _⟩ := (m5 u).mp hu
            omega)
          constructor
          · rintro ⟨a', b', h1, h2, h3⟩
            exact .inr ⟨b', a', h2, h1, swap _ _ _ h3⟩
          · rintro (⟨h, _⟩ | ⟨i, j, h1, h2, h3⟩)
            · exact absurd h n2
            · exact ⟨j, i, h2, h1, swap _ _ _ h3⟩
    -- the words
    refine ⟨by show 0 ≤ sizeLine; decide, fun U hU => ?_⟩
    have I0 : DuI x H5 (upd H5 U (.lst [])) U 0 (fun _ => False) [] := ⟨.of (same_upd hU), upd_same, List.nodup_nil, Nat.le_refl _, fun u h => (by cases h), fun u => ⟨fun h => (by cases h), fun h => h.elim⟩⟩
    have ofU : ∀ {H' : Hp} {c A Lw} {b : Addr} {o : HO}, DuI x H5 H' U c A Lw → H5 b = some o → H' b = some o := fun I e => I.sm _ _ (ne_of_none e hU) e
    let A1 : Nat → List Nat → Prop := fun i u => ∃ s h, s < i ∧ hs[s]? = some h ∧ ∃ mw, (okW x.cps.size mw ∧ mw.length ≤ ex + 1) ∧ ∃ t, t ∈ Tw ∧ u = h ++ mw ++ t
    have p2 : (2 : Nat) ^ (ex + 1 + 1) ≤ 2 ^ 5 := Nat.pow_le_pow_right (by decide) (by omega)
    refine ⟨_, rfl, D, true, rfl, ⟨_, .lst (ofU I0 eD5)⟩, for_by (wk_seq true K D (hs.map fun u => V.str (txt x u))) (fun i σ H6 => ∃ (Lw : List (List Nat)) (y12 y13 y14 : Option V), σ = [some (.str x), some (.ref p), some (nV ex), some (.ref a), some (.ref t), some (nV M.acc.length), some (.ref D), some (.ref F), y8, y9, some (.ref G), some (.ref U), y12, y13, y14, none] ∧ DuI x H5 H6 U (i * 1600) (A1 i) Lw)
      ⟨[], none, none, none, rfl, I0.iff (Nat.zero_le _) fun u => ⟨False.elim, fun ⟨_, _, h, _⟩ => absurd h (Nat.not_lt_zero _)⟩⟩ (fun i σ H6 _ hI => ?_) (fun i v σ H6 hi hv hI => ?_) (fun σ H6 hI => ?_)⟩
    · obtain ⟨_, _, _, _, _, I⟩ := hI
      exact .lst (ofU I eD5)
    · obtain ⟨Lw, y12, y13, y14, rfl, I⟩ := hI
      rw [List.length_map] at hi
      have hi0 := List.getElem?_eq_getElem hi
      rw [List.getElem?_map, hi0] at hv
      cases hv
      obtain ⟨hF1, hF2⟩ := hh i _ hi0
      generalize hs[i] = hd at hi0 hF1 hF2
      refine ⟨_, rfl, _, rfl, _, _, rfl, rfl, x, ex + 1, rfl, L, by omega, fun H7 mp Ws s7 nmp eM mW lW => ⟨mp, true, rfl, ⟨_, .lst eM⟩, ?_⟩⟩
      have I7 := I.same s7
      have mpU : mp ≠ U := fun z => by rw [z, I.eU] at nmp; cases nmp
      have wl : Ws.length ≤ 31 := by omega
      refine for_by (wk_seq true K mp (Ws.map fun u => V.str (txt x u))) (fun j σ H6 => ∃ (Lw : List (List Nat)) (y13 y14 : Option V), σ = [some (.str x), some (.ref p), some (nV ex), some (.ref a), some (.ref t), some (nV M.acc.length), some (.ref D), some (.ref F), y8, y9, some (.ref G), some (.ref U), some (.str (txt x hd)), y13, y14, none] ∧ H6 mp = some (.lst (Ws.map fun u => V.str (txt x u))) ∧ DuI x H5 H6 U (i * 1600 + j * 50) (fun u => A1 i u ∨ ∃ mw, mw ∈ Ws.take j ∧ ∃ t, t ∈ Tw ∧ u = hd ++ mw ++ t) Lw)
        ⟨Lw, _, _, rfl, eM, I7.iff (by omega) fun u => ⟨.inl, fun h => h.elim id fun ⟨_, h, _⟩ => by simp at h⟩⟩ (fun j σ H6 _ hI => ?_) (fun j v σ H6 hj hv hI => ?_) (fun σ H6 hI => ?_)
      · obtain ⟨_, _, _, _, e, _⟩ := hI
        exact .lst e
      · obtain ⟨Lw, y13, y14, rfl, eM6, I⟩ := hI
        rw [List.length_map] at hj
        have hmj := List.getElem?_eq_getElem hj
        rw [List.getElem?_map, hmj] at hv
        cases hv
        obtain ⟨mok, mlen⟩ := (mW _).mp (List.getElem_mem hj)
        generalize Ws[j] = mw at hmj mok mlen
        refine ⟨_, rfl, by show 0 ≤ sizeLine; decide, fun E hE => ?_⟩
        have sE : Same H6 (upd H6 E (.lst [])) := same_upd hE
        have IE := I.same sE
        refine ⟨_, _, .lst (SqL.of (ofU IE eG)) (dpAll_str x Ts), .lst (SqL.of upd_same) .nil, shaped_strs Rgx Ts, shaped_strs Rgx [], _, rfl, ?_⟩
        rw [eqv_strs_nil]
        have eM7 := sE _ _ eM6
        generalize upd H6 E (.lst []) = H7 at sE IE eM7 ⊢
        refine pick_if (fun v H8 => ∃ TA, v = .ref TA ∧ TA ≠ U ∧ H8 TA = some (.lst (Tw.map fun u => V.str (txt x u))) ∧ Same H7 H8) (fun c Q' hq => ?_) (fun c Q' hq => ?_) (fun v H8 hR => ?_)
        · have z : Ts ≠ [] := fun z => by rw [z] at c; cases c
          rw [if_neg z] at hTw
          rw [hTw] at hq
          exact ⟨_, rfl, hq _ _ ⟨G, rfl, fun z => (by rw [z] at eG; rw [hU] at eG; cases eG), ofU IE eG, Same.refl _⟩⟩
        · have z : Ts = [] := by
            cases Ts with
            | nil => rfl
            | cons _ _ => exact absurd rfl c
          rw [if_pos z] at hTw
          rw [hTw] at hq
          exact ⟨by show 1 ≤ sizeLine; decide, fun TA hTA => hq _ _ ⟨TA, rfl, fun z => (by rw [z, IE.eU] at hTA; cases hTA), upd_same, same_upd hTA⟩⟩
        obtain ⟨TA, rfl, nTU, eT, s8⟩ := hR
        have I8 := IE.same s8
        have eM8 := s8 _ _ eM7
        refine ⟨TA, true, rfl, ⟨_, .lst eT⟩, for_by (wk_seq true K TA (Tw.map fun u => V.str (txt x u))) (fun c σ H9 => ∃ (Lw : List (List Nat)) (y14 : Option V), σ = [some (.str x), some (.ref p), some (nV ex), some (.ref a), some (.ref t), some (nV M.acc.length), some (.ref D), some (.ref F), y8, y9, some (.ref G), some (.ref U), some (.str (txt x hd)), some (.str (txt x mw)), y14, none] ∧ H9 mp = some (.lst (Ws.map fun u => V.str (txt x u))) ∧ H9 TA = some (.lst (Tw.map fun u => V.str (txt x u))) ∧ DuI x H5 H9 U (i * 1600 + j * 50 + c) (fun u => (A1 i u ∨ ∃ mw, mw ∈ Ws.take j ∧ ∃ t, t ∈ Tw ∧ u = hd ++ mw ++ t) ∨ ∃ t, t ∈ Tw.take c ∧ u = hd ++ mw ++ t) Lw)
          ⟨Lw, _, rfl, eM8, eT, I8.iff (by omega) fun u => ⟨.inl, fun h => h.elim id fun ⟨_, h, _⟩ => by simp at h⟩⟩ (fun c σ H9 _ hI => ?_) (fun c v σ H9 hc hv hI => ?_) (fun σ H9 hI => ?_)⟩
        · obtain ⟨_, _, _, _, e, _⟩ := hI
          exact .lst e
        · obtain ⟨Lw, y14, rfl, eM9, eT9, I⟩ := hI
          rw [List.length_map] at hc
          have htc := List.getElem?_eq_getElem hc
          rw [List.getElem?_map, htc] at hv
          cases hv
          obtain ⟨tok1, tlen1⟩ := okT _ (List.getElem_mem hc)
          generalize Tw[c] = tw at htc tok1 tlen1
          have okU : okW x.cps.size (hd ++ mw ++ tw) := (hF1.1.app mok).app tok1
          have l1 : (txt x hd).length + (txt x mw).length ≤ sizeLine := by
            rw [txt_len, txt_len, sizeLine_eq]
            omega
          have l2 : (txt x hd ++ txt x mw).length + (txt x tw).length ≤ sizeLine := by
            rw [txt_app, txt_len, txt_len, sizeLine_eq, List.length_append]
            omega
          have e : inV (.str (txt x hd ++ txt x mw ++ txt x tw)) (Lw.map fun u => V.str (txt x u)) = decide (hd ++ mw ++ tw ∈ Lw) := by
            rw [txt_app, txt_app]
            exact inV_strs L I.ok okU
          have fin : ∀ u, ((A1 i u ∨ ∃ mw, mw ∈ Ws.take j ∧ ∃ t, t ∈ Tw ∧ u = hd ++ mw ++ t) ∨ ∃ t, t ∈ Tw.take c ∧ u = hd ++ mw ++ t) ∨ u = hd ++ mw ++ tw ↔ (A1 i u ∨ ∃ mw, mw ∈ Ws.take j ∧ ∃ t, t ∈ Tw ∧ u = hd ++ mw ++ t) ∨ ∃ t, t ∈ Tw.take (c + 1) ∧ u = hd ++ mw ++ t := fun u => by
            constructor
            · rintro ((h | ⟨t, h1, h2⟩) | h)
              · exact .inl h
              · exact .inr ⟨t, (take_mem htc).mpr (.inl h1), h2⟩
              · exact .inr ⟨tw, (take_mem htc).mpr (.inr rfl), h⟩
            · rintro (h | ⟨t, h1, h2⟩)
              · exact .inl (.inl h)
              · rcases (take_mem htc).mp h1 with z | z
                · exact .inl (.inr ⟨t, z, h2⟩)
                · rw [z] at h2
                  exact .inr h2
          refine ⟨_, rfl, _, rfl, _, _, rfl, rfl, l1, _, rfl, _, _, rfl, rfl, l2, _, rfl, U, _, rfl, .inl (SqL.of I.eU), rfl, flat_strs x Lw, _, rfl, ite2 (fun cc => ?_) (fun cc => ?_)⟩
          · have nm : hd ++ mw ++ tw ∉ Lw := fun z => by
              have c' : (!inV (.str (txt x hd ++ txt x mw ++ txt x tw)) (Lw.map fun u => V.str (txt x u))) = true := cc
              rw [e, decide_eq_true z] at c'
              cases c'
            refine ⟨_, rfl, .inl ⟨rfl, _, SqL.of I.eU⟩, _, rfl, _, rfl, _, _, rfl, rfl, l1, _, rfl, _, _, rfl, rfl, l2, U, _, _, rfl, rfl, I.eU, ?_, ?_⟩
            · rw [List.length_map, sizeLine_eq]
              have := I.len
              have : i * 1600 ≤ 7 * 1600 := Nat.mul_le_mul_right _ (by omega)
              have : j * 50 ≤ 31 * 50 := Nat.mul_le_mul_right _ (by omega)
              omega
            · rw [txt_app, txt_app]
              exact ⟨Lw ++ [hd ++ mw ++ tw], _, rfl, by rw [upd_ne mpU]; exact eM9, by rw [upd_ne nTU]; exact eT9, (I.add nm okU).iff (Nat.le_refl _) fin⟩
          · have mm : hd ++ mw ++ tw ∈ Lw := Classical.byContradiction fun z => by
              have c' : ¬ (!inV (.str (txt x hd ++ txt x mw ++ txt x tw)) (Lw.map fun u => V.str (txt x u))) = true := cc
              rw [e, decide_eq_false z] at c'
              exact c' rfl
            exact ⟨Lw, _, rfl, eM9, eT9, (I.old mm).iff (Nat.le_refl _) fin⟩
        · obtain ⟨Lw, y14, rfl, eM9, eT9, I⟩ := hI
          rw [List.length_map, List.take_length] at I
          refine ⟨Lw, _, _, rfl, eM9, I.iff (by omega) fun u => ?_⟩
          constructor
          · rintro ((h | ⟨m1, h1, h2⟩) | h)
            · exact .inl h
            · exact .inr ⟨m1, (take_mem hmj).mpr (.inl h1), h2⟩
            · exact .inr ⟨mw, (take_mem hmj).mpr (.inr rfl), h⟩
          · rintro (h | ⟨m1, h1, h2⟩)
            · exact .inl (.inl h)
            · rcases (take_mem hmj).mp h1 with z | z
              · exact .inl (.inr ⟨m1, z, h2⟩)
              · rw [z] at h2
                exact .inr h2
      · obtain ⟨Lw, y13, y14, rfl, eM9, I⟩ := hI
        rw [List.length_map, List.take_length] at I
        refine ⟨Lw, _, _, _, rfl, I.iff (by omega) fun u => ?_⟩
        constructor
        · rintro (⟨s, h, h1, h2⟩ | ⟨mw, h1, h2⟩)
          · exact ⟨s, h, by omega, h2⟩
          · exact ⟨i, hd, by omega, hi0, mw, (mW mw).mp h1, h2⟩
        · rintro ⟨s, h, h1, h2, mw, h3, h4⟩
          rcases Nat.lt_or_ge s i with z | z
          · exact .inl ⟨s, h, z, h2, mw, h3, h4⟩
          · have es : s = i := by omega
            rw [es, hi0] at h2
            cases h2
            exact .inr ⟨mw, (mW mw).mpr h3, h4⟩
    · obtain ⟨Lw, y12, y13, y14, rfl, I⟩ := hI
      rw [List.length_map] at I
      refine ⟨_, rfl, q H6 U Lw (s35.trans (I.sm.fresh hU)) ?_ I.eU I.nd fun u => (I.mem u).trans ?_⟩
      · cases z : H U with
        | none => rfl
        | some o => rw [s35 _ _ z] at hU; cases hU
      · constructor
        · rintro ⟨s, h, h1, h2, mw, ⟨h3, h4⟩, t', h5, h6⟩
          exact ⟨s, h, mw, t', by omega, (hh s h h2).1, h3, h4, (mT t').mp h5, h6⟩
        · rintro ⟨s, h', mw, t', h1, h2, h3, h4, h5, h6⟩
          have hs2 := List.getElem?_eq_getElem (l := hs) (i := s) (by omega)
          refine ⟨s, hs[s], by omega, hs2, mw, ⟨h3, h4⟩, t', (mT t').mpr h5, ?_⟩
          rw [(hh s _ hs2).1.uniq h2]
          exact h6
end
end K46
set_option Elab.async false
set_option linter.all false
set_option maxRecDepth 100000
set_option maxHeartbeats 1600000
namespace K46
open PySem PySem.Spec PyProof.Rows L2
/-! ### what stands while a list of others grows -/
theorem SqB.but {b : Bool} {K : PySem.W.Frag} {H H' : Hp} {R a : Addr} {xs ys : List V} (h : SqB b K H a xs) (e : H R = some (.lst ys)) (n : a ≠ R ∨ xs ≠ ys) (s : SameB R H H') : SqB b K H' a xs := by
  cases b with
  | true =>
    rcases h with (h | ⟨o, h⟩) | h
    · refine .inl (.inl (s _ _ (fun z => ?_) h))
      rcases n with n | n
      · exact n z
      · rw [z, e] at h
        injection h with h
        injection h with h
        exact n h.symm
    · exact .inl (.inr ⟨o, s _ _ (fun z => by rw [z, e] at h; cases h) h⟩)
    · exact .inr h
  | false =>
    rcases h with (h | ⟨o, h⟩) | h
    · exact .inl (.inl (s _ _ (fun z => by rw [z, e] at h; cases h) h))
    · exact .inl (.inr ⟨o, s _ _ (fun z => by rw [z, e] at h; cases h) h⟩)
    · exact .inr h
theorem bl_ref {bs : List Bool} {rs : List Addr} (h : 0 < bs.length) : bs.map V.bl ≠ rs.map V.ref := fun z => by
  match bs, rs, h, z with
  | b :: bs, [], _, z => cases z
  | b :: bs, r :: rs, _, z => rw [List.map_cons, List.map_cons] at z; injection z with z; cases z
theorem nV_ref {l : List Nat} {rs : List Addr} (h : 0 < l.length) : l.map nV ≠ rs.map V.ref := fun z => by
  match l, rs, h, z with
  | b :: bs, [], _, z => cases z
  | b :: bs, r :: rs, _, z => rw [List.map_cons, List.map_cons] at z; injection z with z; cases z
/-- parts of a machine, held in a tuple -/
def Prt (K : PySem.W.Frag) (k N : Nat) (R : Addr) (H : Hp) (r : Addr) : Prop := ∃ a t M, H r = some (.tup [.ref a, .ref t]) ∧ PartsH true K H a t M ∧ Wf k M ∧ M.acc.length ≤ N ∧ t ≠ R
theorem Prt.st {K : PySem.W.Frag} {k N : Nat} {R S r : Addr} {H H' : Hp} (h : Prt K k N R H r) (st : St H S) (s : SameB S H H') : Prt K k N R H' r := by
  obtain ⟨a, t, M, h1, h2, h3⟩ := h
  exact ⟨a, t, M, s _ _ (st.ne h1 fun N p z => by cases z) h1, h2.st st s, h3⟩
theorem Prt.but {K : PySem.W.Frag} {k N : Nat} {R r : Addr} {H H' : Hp} {rs : List Addr} (h : Prt K k N R H r) (hk : 0 < k) (e : H R = some (.lst (rs.map V.ref))) (s : SameB R H H') : Prt K k N R H' r := by
  obtain ⟨a, t, M, h1, ⟨hA, rs', t1, t2, t3⟩, W, h4, h5⟩ := h
  refine ⟨a, t, M, s _ _ (fun z => by rw [z, e] at h1; cases h1) h1, ⟨hA.but e (.inr (bl_ref W.pos)) s, rs', t1.but e (.inl h5) s, t2, fun i r row e1 e2 => (t3 i r row e1 e2).but e (.inr (nV_ref ?_)) s⟩, W, h4, h5⟩
  rw [(W.row row (List.mem_of_getElem? e2)).1]
  exact hk
structure RowsI (K : PySem.W.Frag) (k N : Nat) (S R : Addr) (H0 H : Hp) (rs : List Addr) : Prop where
  sb : SameB S H0 H
  st : St H S
  f0 : H0 R = none
  nS : R ≠ S
  eR : H R = some (.lst (rs.map V.ref))
  prt : ∀ r ∈ rs, Prt K k N R H r
theorem RowsI.next {K : PySem.W.Frag} {k N : Nat} {S R : Addr} {H0 H H' : Hp} {rs : List Addr} (I : RowsI K k N S R H0 H rs) (s : SameB S H H') (st : St H' S) : RowsI K k N S R H0 H' rs := ⟨I.sb.trans s, st, I.f0, I.nS, s _ _ I.nS I.eR, fun r hr => (I.prt r hr).st I.st s⟩
theorem RowsI.same {K : PySem.W.Frag} {k N : Nat} {S R : Addr} {H0 H H' : Hp} {rs : List Addr} (I : RowsI K k N S R H0 H rs) (s : Same H H') : RowsI K k N S R H0 H' rs := I.next (.of s) (I.st.same s)
theorem RowsI.add {K : PySem.W.Frag} {k N : Nat} {S R r : Addr} {H0 H : Hp} {rs : List Addr} (I : RowsI K k N S R H0 H rs) (hk : 0 < k) (hl : rs.length < 240) (h : Prt K k N R H r) : RowsI K k N S R H0 (upd H R (.lst (rs.map V.ref ++ [.ref r]))) (rs ++ [r]) where
  sb := fun b o nb e => by
    rw [upd_ne (ne_of_none e I.f0)]
    exact I.sb _ _ nb e
  st := I.st.put I.eR (by rw [List.length_map]; exact hl) I.nS
  f0 := I.f0
  nS := I.nS
  eR := by rw [upd_same, List.map_append]; rfl
  prt := fun r' hr' => by
    have h' : Prt K k N R H r' := by
      rcases List.mem_append.mp hr' with z | z
      · exact I.prt r' z
      · rw [List.mem_singleton.mp z]
        exact h
    exact h'.but hk I.eR sameB_upd
/-! ### a machine's parts while they are changed -/
structure MutI (k N : Nat) (S : Addr) (Hb H : Hp) (A T : Addr) (bs : List Bool) (cs : List Addr) : Prop where
  sb : SameB S Hb H
  st : St H S
  fA : Hb A = none
  fT : Hb T = none
  nA : A ≠ S
  nT : T ≠ S
  nAT : A ≠ T
  eA : H A = some (.lst (bs.map V.bl))
  eT : H T = some (.lst (cs.map V.ref))
  pos : 0 < bs.length
  few : bs.length ≤ N
  row : ∀ c ∈ cs, Hb c = none ∧ c ≠ S ∧ c ≠ A ∧ c ≠ T ∧ ∃ l : List Nat, H c = some (.lst (l.map nV)) ∧ l.length = k ∧ ∀ q ∈ l, q < bs.length
theorem MutI.next {k N : Nat} {S A T : Addr} {Hb H H' : Hp} {bs : List Bool} {cs : List Addr} (I : MutI k N S Hb H A T bs cs) (s : SameB S H H') (st : St H' S) : MutI k N S Hb H' A T bs cs := ⟨I.sb.trans s, st, I.fA, I.fT, I.nA, I.nT, I.nAT, s _ _ I.nA I.eA, s _ _ I.nT I.eT, I.pos, I.few, fun c hc => by
  obtain ⟨h1, h2, h3, h4, l, h5, h6⟩ := I.row c hc
  exact ⟨h1, h2, h3, h4, l, s _ _ h2 h5, h6⟩⟩
theorem MutI.same {k N : Nat} {S A T : Addr} {Hb H H' : Hp} {bs : List Bool} {cs : List Addr} (I : MutI k N S Hb H A T bs cs) (s : Same H H') : MutI k N S Hb H' A T bs cs := I.next (.of s) (I.st.same s)
theorem MutI.setA {k N : Nat} {S A T : Addr} {Hb H : Hp} {bs bs' : List Bool} {cs : List Addr} (I : MutI k N S Hb H A T bs cs) (hN : N < 240) (h : bs.length ≤ bs'.length) (h' : bs'.length ≤ N) : MutI k N S Hb (upd H A (.lst (bs'.map V.bl))) A T bs' cs where
  sb := fun b o nb e => by
    rw [upd_ne (ne_of_none e I.fA)]
    exact I.sb _ _ nb e
  st := I.st.put I.eA (by rw [List.length_map]; have := I.few; omega) I.nA
  fA := I.fA
  fT := I.fT
  nA := I.nA
  nT := I.nT
  nAT := I.nAT
  eA := upd_same
  eT := (upd_ne I.nAT.symm).trans I.eT
  pos := by have := I.pos; omega
  few := h'
  row := fun c hc => by
    obtain ⟨h1, h2, h3, h4, l, h5, h6, h7⟩ := I.row c hc
    exact ⟨h1, h2, h3, h4, l, (upd_ne h3).trans h5, h6, fun q hq => by have := h7 q hq; omega⟩
theorem MutI.pushT {k N : Nat} {S A T c : Addr} {Hb H : Hp} {bs : List Bool} {cs : List Addr} {l : List Nat} (I : MutI k N S Hb H A T bs cs) (hl : cs.length < 240) (c1 : Hb c = none) (c2 : c ≠ S) (c3 : c ≠ A) (c4 : c ≠ T) (c5 : H c = some (.lst (l.map nV))) (c6 : l.length = k) (c7 : ∀ q ∈ l, q < bs.length) : MutI k N S Hb (upd H T (.lst (cs.map V.ref ++ [.ref c]))) A T bs (cs ++ [c]) where
  sb := fun b o nb e => by
    rw [upd_ne (ne_of_none e I.fT)]
    exact I.sb _ _ nb e
  st := I.st.put I.eT (by rw [List.length_map]; exact hl) I.nT
  fA := I.fA
  fT := I.fT
  nA := I.nA
  nT := I.nT
  nAT := I.nAT
  eA := (upd_ne I.nAT).trans I.eA
  eT := by rw [upd_same, List.map_append]; rfl
  pos := I.pos
  few := I.few
  row := fun c' hc' => by
    rcases List.mem_append.mp hc' with z | z
    · obtain ⟨h1, h2, h3, h4, l, h5, h6⟩ := I.row c' z
      exact ⟨h1, h2, h3, h4, l, (upd_ne h4).trans h5, h6⟩
    · rw [List.mem_singleton.mp z]
      exact ⟨c1, c2, c3, c4, l, (upd_ne c4).trans c5, c6, c7⟩
theorem MutI.setR {k N : Nat} {S A T c : Addr} {Hb H : Hp} {bs : List Bool} {cs : List Addr} {l : List Nat} (I : MutI k N S Hb H A T bs cs) (hk : k < 240) (hc : c ∈ cs) (e : H c = some (.lst (l.map nV))) {j q : Nat} (hq : q < bs.length) : MutI k N S Hb (upd H c (.lst ((l.map nV).set j (nV q)))) A T bs cs := by
  obtain ⟨h1, h2, h3, h4, l', h5, h6, h7⟩ := I.row c hc
  have el : l = l' := by
    rw [e] at h5
    injection h5 with h5
    injection h5 with h5
    have inj : ∀ (u v : List Nat), u.map nV = v.map nV → u = v := by
      intro u
      induction u with
      | nil => intro v h; cases v with | nil => rfl | cons b v => cases h
      | cons a u ih =>
        intro v h
        cases v with
        | nil => cases h
        | cons b v =>
          rw [List.map_cons, List.map_cons] at h
          injection h with ha hb
          have : a = b := Int.ofNat.inj (V.int.inj ha)
          rw [this, ih v hb]
    exact inj _ _ h5
  subst el
  exact {
    sb := fun b o nb e => by
      rw [upd_ne (ne_of_none e h1)]
      exact I.sb _ _ nb e
    st := I.st.put e (by rw [List.length_map, h6]; exact hk) h2
    fA := I.fA
    fT := I.fT
    nA := I.nA
    nT := I.nT
    nAT := I.nAT
    eA := (upd_ne h3.symm).trans I.eA
    eT := (upd_ne h4.symm).trans I.eT
    pos := I.pos
    few := I.few
    row := fun c' hc' => by
      by_cases z : c' = c
      · subst z
        refine ⟨h1, h2, h3, h4, l.set j q, by rw [upd_same, List.map_set], by rw [List.length_set]; exact h6, fun q' hq' => ?_⟩
        rcases List.mem_or_eq_of_mem_set hq' with y | y
        · exact h7 q' y
        · rw [y]
          exact hq
      · obtain ⟨g1, g2, g3, g4, l2, g5, g6⟩ := I.row c' hc'
        exact ⟨g1, g2, g3, g4, l2, (upd_ne z).trans g5, g6⟩ }
theorem MutI.prt {k N : Nat} {S A T R r : Addr} {Hb H H' : Hp} {bs : List Bool} {cs : List Addr} (K : PySem.W.Frag) (I : MutI k N S Hb H A T bs cs) (hN : N ≤ 1000) (hl : cs.length = bs.length) (hr : H r = some (.tup [.ref A, .ref T])) (hR : T ≠ R) : Prt K k N R H r := by
  let Pc : Addr → List Nat → Prop := fun c l => H c = some (.lst (l.map nV)) ∧ l.length = k ∧ ∀ q ∈ l, q < bs.length
  let f : Addr → List Nat := fun c => Classical.epsilon (Pc c)
  have hf : ∀ c ∈ cs, Pc c (f c) := fun c hc => by
    obtain ⟨_, _, _, _, l, h⟩ := I.row c hc
    exact Classical.epsilon_spec (p := Pc c) ⟨l, h⟩
  refine ⟨A, T, ⟨bs, cs.map f⟩, hr, ⟨.lst I.eA, cs, .lst I.eT, (List.length_map _).symm, fun i c row e1 e2 => ?_⟩, ⟨by show (cs.map f).length = bs.length; rw [List.length_map, hl], I.pos, fun row hrow => ?_, by have := I.few; show bs.length ≤ 1000; omega⟩, I.few, hR⟩
  · have e2 : (cs.map f)[i]? = some row := e2
    rw [List.getElem?_map, e1] at e2
    cases e2
    exact .lst (hf c (List.mem_of_getElem? e1)).1
  · obtain ⟨c, hc, rfl⟩ := List.mem_map.mp hrow
    exact (hf c hc).2
end K46
set_option Elab.async false
set_option linter.all false
set_option maxRecDepth 100000
set_option maxHeartbeats 1600000
namespace K46
open PySem PySem.Spec PyProof.Rows L2
theorem ixN_nat {n j : Nat} (h : j < n) : ixN n (j : Int) = some j := by
  unfold ixN
  rw [if_pos (by omega), if_pos (by omega)]; simp
theorem and_pick {c : Prop} [Decidable c] {u : L2.St → Hp → (Bool → Hp → Prop) → Prop} {σ : L2.St} {H1 : Hp} {Q : Bool → Hp → Prop} (R : Bool → Hp → Prop) (ha : c → ∀ Q' : Bool → Hp → Prop, (∀ b H, R b H → Q' b H) → u σ H1 Q') (hb : ¬ c → R false H1) (hq : ∀ b H, R b H → Q b H) : if c then u σ H1 Q else Q false H1 := by
  by_cases h : c
  · rw [if_pos h]
    exact ha h Q hq
  · rw [if_neg h]
    exact hq _ _ (hb h)
section
variable {P : Program} {w : World} {K : PySem.W.Frag} {mg : Str → Option Value} {base : Heap}
/-! ### _law_others -/
abbrev nmOthers : List Str := ["_law_letters_here", "_law_state_here", "_law_picture", "_law_extra", "_law_many", "_law_rows", "_law_k", "_law_accepting", "_law_table", "_law_turn", "_law_at", "_law_code", "_law_bits", "_law_row"]
theorem scOthers : FnScope nmOthers ["_law_letters_here", "_law_state_here", "_law_picture", "_law_extra"] (defScope (topS 41)) := C8.fnScope_by (by decide +kernel)
def spOthers (K : PySem.W.Frag) : Sp := fun vs H Q _ => ∃ (x : Str) (S p a t : Addr) (M : Mach) (ex : Nat), vs = [.str x, .ref S, .ref p, nV ex] ∧ St H S ∧ SqT K H p [.str x, .ref a, .ref t] ∧ PartsH false K H a t M ∧ Wf x.cps.size M ∧ Ltr x ∧ M.acc.length ≤ 7 ∧ ex ≤ 3 ∧
  ∀ H' pf (rs : List Addr), SameB S H H' → St H' S → H pf = none → H' pf = some (.lst (rs.map V.ref)) → rs.length ≤ 100 → (∀ r ∈ rs, Prt K x.cps.size 10 pf H' r) → Q (.ref pf) H'
theorem cal_others (T : Tx K mg) : C8.Cal P w K mg base 3 "_law_others" (spOthers K) [] := by
  refine cal_of T (i := 41) 29 rfl (by decide +kernel) scOthers (fun _ _ _ _ _ _ us hl => match us, hl with | [_, _, _, _], _ => rfl) (fun vs H Q E h => ?_) (fun f cdv A outer s H vs Q E hr h => ?_)
  · obtain ⟨x, S, p, a, t, M, ex, rfl, _⟩ := h
    rfl
  · obtain ⟨x, S, p, a, t, M, ex, rfl, hS, hp, hP, W, L, hn, hex, q⟩ := h
    refine ⟨_, pss_cons (ps_set (i := 4) scOthers.nd rfl (.inr rfl) (pe_op op_add (pe_callB (lenB K) (by rfl) (T.b "len" (by decide +kernel)) PySem.boot_len (pa_cons (pe_ix (ixB K) (pv 2) pe_int (fun _ _ => rfl)) pa_nil)) (pv 3)))
      (pss_cons (ps_setLc (i := 5) (own := [("_law_k", 6)]) (g := gName 6) (tt := tYes) rfl scOthers.nd rfl rfl (sw_true rfl rfl rfl (by decide +kernel)) (pi_range1 (by rfl) (T.b "range" (by decide +kernel)) (pa_cons pe_int pa_nil)) (blkOk_by (N := nmOthers) (sc := defScope (topS 41)) (by decide +kernel))
          (fun _ _ _ _ _ => pg_name (i := 6) scOthers.nd rfl (Or.inl rfl)) (fun _ _ _ _ _ => pts_nil) (fun _ _ _ _ _ => C8.pe_c (cal_parts T) hr (by decide) (by rfl) (pa_cons (pv 0) (pa_cons (pv 1) (pa_cons (pv 4) pa_nil)))))
      (pss_cons (ps_for PassesOwn.never rfl (pi_range1 (by rfl) (T.b "range" (by decide +kernel)) (pa_cons pe_int pa_nil)) (pg_name (i := 6) scOthers.nd rfl (.inl rfl))
 (pss_cons (ps_set (i := 7) scOthers.nd rfl (.inl rfl) (pe_callTy (T := "list") (listB K) (by rfl) (T.b "list" (by decide +kernel)) (by decide +kernel) (pa_cons (pe_ix (ixB K) (pv 2) pe_int (fun _ _ => rfl)) pa_nil)))
      (pss_cons (ps_setLc (i := 8) (own := [("_law_row", 13)]) (g := gName 13) (tt := tYes) rfl scOthers.nd rfl rfl (sw_true rfl rfl rfl (by decide +kernel)) (piB K (pe_ix (ixB K) (pv 2) pe_int (fun _ _ => rfl))) (blkOk_by (N := nmOthers) (sc := defScope (topS 41)) (by decide +kernel))
          (fun _ _ _ _ _ => pg_name (i := 13) scOthers.nd rfl (Or.inl rfl)) (fun _ _ _ _ _ => pts_nil) (fun _ _ _ _ _ => (pe_callTy (T := "list") (listB K) (by rfl) (T.b "list" (by decide +kernel)) (by decide +kernel) (pa_cons (pv 13) pa_nil))))
      (pss_cons (ps_for PassesOwn.never rfl (pi_range1 (by rfl) (T.b "range" (by decide +kernel)) (pa_cons (pe_op op_add pe_int (C8.pe_c (cal_next T) hr (by decide) (by rfl) (pa_cons (pv 1) (pa_cons pe_int pa_nil)))) pa_nil)) (pg_name (i := 9) scOthers.nd rfl (.inl rfl))
 (pss_cons (ps_set (i := 10) scOthers.nd rfl (.inl rfl) (C8.pe_c (cal_next T) hr (by decide) (by rfl) (pa_cons (pv 1) (pa_cons (pe_callB (lenB K) (by rfl) (T.b "len" (by decide +kernel)) PySem.boot_len (pa_cons (pv 7) pa_nil)) pa_nil))))
      (pss_one (ps_if (PW.pt (pw_and (pt_cmpR op_lt (pe_callB (lenB K) (by rfl) (T.b "len" (by decide +kernel)) PySem.boot_len (pa_cons (pv 7) pa_nil)) (pv 4) (nomark _)) (pw_and1 (pt_cmpR op_eq (C8.pe_c (cal_next T) hr (by decide) (by rfl) (pa_cons (pv 1) (pa_cons pe_int pa_nil))) pe_int (nomark _))))) (pss_cons (ps_expr (pe_bm PySem.F.plainAttrs_list PySem.F.slot_list_append PySem.F.type_list_append mt_append (pv 7) (pa_cons (pe_ix (ixB K) (pv 7) (pv 10) (fun _ _ => rfl)) pa_nil)))
      (pss_cons (ps_expr (pe_bm PySem.F.plainAttrs_list PySem.F.slot_list_append PySem.F.type_list_append mt_append (pv 8) (pa_cons (pe_callTy (T := "list") (listB K) (by rfl) (T.b "list" (by decide +kernel)) (by decide +kernel) (pa_cons (pe_ix (ixB K) (pv 8) (pv 10) (fun _ _ => rfl)) pa_nil)) pa_nil)))
      (pss_one (ps_asg (pe_op op_sub (pe_callB (lenB K) (by rfl) (T.b "len" (by decide +kernel)) PySem.boot_len (pa_cons (pv 8) pa_nil)) pe_int) (pg_sub (pe_ix (ixB K) (pv 8) (C8.pe_c (cal_next T) hr (by decide) (by rfl) (pa_cons (pv 1) (pa_cons (pe_callB (lenB K) (by rfl) (T.b "len" (by decide +kernel)) PySem.boot_len (pa_cons (pv 8) pa_nil)) pa_nil))) (fun _ _ => rfl)) (C8.pe_c (cal_next T) hr (by decide) (by rfl) (pa_cons (pv 1) (pa_cons (pe_callB call_len_str (by rfl) (T.b "len" (by decide +kernel)) PySem.boot_len (pa_cons (pv 0) pa_nil)) pa_nil))) set_list))))) (pss_one (ps_if (pt_cmpR op_eq (C8.pe_c (cal_next T) hr (by decide) (by rfl) (pa_cons (pv 1) (pa_cons pe_int pa_nil))) pe_int (nomark _)) (pss_one (ps_asg (pe_not (pe_ix (ixB K) (pv 7) (pv 10) (fun _ _ => rfl))) (pg_sub (pv 7) (pv 10) set_list))) (pss_one (ps_asg (C8.pe_c (cal_next T) hr (by decide) (by rfl) (pa_cons (pv 1) (pa_cons (pe_callB (lenB K) (by rfl) (T.b "len" (by decide +kernel)) PySem.boot_len (pa_cons (pv 7) pa_nil)) pa_nil))) (pg_sub (pe_ix (ixB K) (pv 8) (pv 10) (fun _ _ => rfl)) (C8.pe_c (cal_next T) hr (by decide) (by rfl) (pa_cons (pv 1) (pa_cons (pe_callB call_len_str (by rfl) (T.b "len" (by decide +kernel)) PySem.boot_len (pa_cons (pv 0) pa_nil)) pa_nil))) set_list)))))))))
      (pss_one (ps_expr (pe_bm PySem.F.plainAttrs_list PySem.F.slot_list_append PySem.F.type_list_append mt_append (pv 5) (pa_cons (pe_tup (pa_cons (pv 7) (pa_cons (pv 8) pa_nil))) pa_nil))))))))
      (pss_cons (ps_if (PW.pt (pw_and (pt_cmpR op_le (pe_callB (lenB K) (by rfl) (T.b "len" (by decide +kernel)) PySem.boot_len (pa_cons (pe_ix (ixB K) (pv 2) pe_int (fun _ _ => rfl)) pa_nil)) pe_int (nomark _)) (pw_and1 (pt_cmpR op_eq (pe_callB call_len_str (by rfl) (T.b "len" (by decide +kernel)) PySem.boot_len (pa_cons (pv 0) pa_nil)) pe_int (nomark _))))) (pss_one (ps_for PassesOwn.never rfl (pi_range1 (by rfl) (T.b "range" (by decide +kernel)) (pa_cons pe_int pa_nil)) (pg_name (i := 11) scOthers.nd rfl (.inr rfl))
 (pss_cons (ps_setLc (i := 12) (own := [("_law_k", 6)]) (g := gName 6) (tt := tYes) rfl scOthers.nd rfl rfl (sw_true rfl rfl rfl (by decide +kernel)) (pi_range1 (by rfl) (T.b "range" (by decide +kernel)) (pa_cons pe_int pa_nil)) (blkOk_by (N := nmOthers) (sc := defScope (topS 41)) (by decide +kernel))
          (fun _ _ _ _ _ => pg_name (i := 6) scOthers.nd rfl (Or.inl rfl)) (fun _ _ _ _ _ => pts_nil) (fun _ _ _ _ _ => pe_op op_mod (pe_op op_fdiv (pv 11) (pe_ix (ixB K) (pe_lst (pa_cons pe_int (pa_cons pe_int (pa_cons pe_int (pa_cons pe_int (pa_cons pe_int (pa_cons pe_int pa_nil))))))) (pv 6) (fun _ _ => rfl))) pe_int))
      (pss_one (ps_expr (pe_bm PySem.F.plainAttrs_list PySem.F.slot_list_append PySem.F.type_list_append mt_append (pv 5) (pa_cons (pe_tup (pa_cons (pe_lst (pa_cons (pe_cmpR op_eq (pe_ix (ixB K) (pv 12) pe_int (fun _ _ => rfl)) pe_int (by rfl)) (pa_cons (pe_cmpR op_eq (pe_ix (ixB K) (pv 12) pe_int (fun _ _ => rfl)) pe_int (by rfl)) pa_nil))) (pa_cons (pe_lst (pa_cons (pe_lst (pa_cons (pe_ix (ixB K) (pv 12) pe_int (fun _ _ => rfl)) (pa_cons (pe_ix (ixB K) (pv 12) pe_int (fun _ _ => rfl)) pa_nil))) (pa_cons (pe_lst (pa_cons (pe_ix (ixB K) (pv 12) pe_int (fun _ _ => rfl)) (pa_cons (pe_ix (ixB K) (pv 12) pe_int (fun _ _ => rfl)) pa_nil))) pa_nil))) pa_nil))) pa_nil))))))) pss_nil)
      (pss_one (ps_ret (pv 5)))))), ?_⟩
    have npos := W.pos
    have kf := L.few
    have kp := L.pos
    have nSp : NoSt [V.str x, V.ref a, V.ref t] := fun N p z => by cases z
    have em : V.int (((M.acc.map V.bl).length : Nat) + (ex : Int)) = nV (M.acc.length + ex) := by
      rw [List.length_map]
      exact congrArg V.int (Int.natCast_add ..).symm
    have kl : x.cps.size ≤ sizeLine := by rw [sizeLine_eq]; omega
    refine ⟨_, rfl, false, p, _, 1, .ref a, rfl, rfl, hp, rfl, false, a, _, rfl, hP.acc, _, rfl, _, _, rfl, rfl, ?_⟩
    rw [List.length_map]
    -- the parts
    refine ⟨_, rfl, by decide, by decide, fun R hR => ?_⟩
    have nRS : R ≠ S := fun z => by
      obtain ⟨N, p, h1⟩ := hS.ob
      rw [z, h1] at hR
      cases hR
    refine lc_by (wk_range 0 _) (fun i H2 => ∃ rs, RowsI K x.cps.size 10 S R H H2 rs ∧ rs.length = i) ⟨[], ⟨sameB_new hR, hS.same (same_upd hR), hR, nRS, upd_same, fun r h => (by cases h)⟩, rfl⟩ (fun _ _ _ _ => trivial) (fun i v H2 hi hv hI => ?_) (fun H2 hI => ?_)
    · obtain ⟨rs, I, hl⟩ := hI
      have hi : i < 20 := hi
      refine ⟨rfl, _, rfl, _, rfl, _, rfl, x, S, M.acc.length + ex, rfl, by omega, by omega, L, I.st, fun H3 r a' t' M' sb3 st3 nr na nt er hP' W' hle => ?_⟩
      have I3 := I.next sb3 st3
      have ntR : t' ≠ R := fun z => by rw [z, I.eR] at nt; cases nt
      exact ⟨_, I3.eR, by rw [List.length_map, sizeLine_eq]; omega, rs ++ [r], I3.add kp (by omega) ⟨a', t', M', er, hP', W', by omega, ntR⟩, by rw [List.length_append, hl]; rfl⟩
    obtain ⟨rs0, I0, hl0⟩ := hI
    have hl0 : rs0.length = 20 := hl0
    -- the changed ones
    refine ⟨_, rfl, by decide, by decide, for_by (wk_range 0 _) (fun i σ H3 => ∃ (rs : List Addr) (y6 y7 y8 y9 y10 : Option V), σ = [some (.str x), some (.ref S), some (.ref p), some (nV ex), some (nV (M.acc.length + ex)), some (.ref R), y6, y7, y8, y9, y10, none, none, none] ∧ RowsI K x.cps.size 10 S R H H3 rs ∧ rs.length = 20 + i) ⟨rs0, none, none, none, none, none, rfl, I0, hl0⟩ (fun _ _ _ _ _ => trivial) (fun i v σ H3 hi hv hI => ?_) (fun σ H3 hI => ?_)⟩
    · obtain ⟨rs, y6, y7, y8, y9, y10, rfl, I, hl⟩ := hI
      have hi : i < 12 := hi
      have hv2 : v = nV i := by
        rw [hv]
        show V.int (0 + (i : Int)) = V.int (i : Int)
        rw [Int.zero_add]
      subst hv2
      have hp3 := SqB.st (b := false) hp hS nSp I.sb
      have hP3 := hP.st hS I.sb
      refine ⟨_, rfl, false, p, _, 1, .ref a, rfl, rfl, hp3, rfl, a, _, rfl, .inr hP3.acc, fun A hA => ?_⟩
      have sbA : SameB S H3 (upd H3 A (.lst (M.acc.map V.bl))) := sameB_new hA
      have s3A : Same H3 (upd H3 A (.lst (M.acc.map V.bl))) := same_upd hA
      have eA3 : upd H3 A (.lst (M.acc.map V.bl)) A = some (.lst (M.acc.map V.bl)) := upd_same
      generalize upd H3 A (.lst (M.acc.map V.bl)) = H4 at sbA s3A eA3 ⊢
      obtain ⟨rs', t1, t2, t3⟩ := hP3.tab
      refine ⟨_, rfl, false, p, _, 2, .ref t, rfl, rfl, SqB.same (b := false) s3A hp3, rfl, t, false, rfl, ⟨_, t1.same s3A⟩, fun D hD => ?_⟩
      refine lc_by (wk_seq false K t (rs'.map V.ref)) (fun j H5 => Same H4 H5 ∧ ∃ cs : List Addr, H5 D = some (.lst (cs.map V.ref)) ∧ cs.length = j ∧ ∀ c ∈ cs, H4 c = none ∧ c ≠ D ∧ ∃ l : List Nat, H5 c = some (.lst (l.map nV)) ∧ l.length = x.cps.size ∧ ∀ q ∈ l, q < M.acc.length)
        ⟨same_upd hD, [], upd_same, rfl, fun c h => (by cases h)⟩ (fun j H5 _ hJ => t1.same (s3A.trans hJ.1)) (fun j v H5 hj hv hJ => ?_) (fun H5 hJ => ?_)
      · obtain ⟨s5, cs, eD, hlc, hcs⟩ := hJ
        rw [List.length_map] at hj
        have hr := List.getElem?_eq_getElem hj
        rw [List.getElem?_map, hr] at hv
        cases hv
        have hj2 : j < M.tab.length := by rw [← t2]; exact hj
        have hrow := List.getElem?_eq_getElem hj2
        obtain ⟨w1, w2⟩ := W.row _ (List.getElem_mem hj2)
        have hsq := t3 j _ _ hr hrow
        generalize rs'[j] = c0 at hr hsq
        generalize M.tab[j] = row at hrow hsq w1 w2
        have tl : M.tab.length ≤ 7 := by rw [W.len]; exact hn
        refine ⟨rfl, _, rfl, c0, _, rfl, .inr (hsq.same (s3A.trans s5)), fun l hl => ⟨_, same_upd hl _ _ eD, by rw [List.length_map, sizeLine_eq]; omega, ?_, cs ++ [l], by rw [upd_same, List.map_append]; rfl, by rw [List.length_append, hlc]; rfl, fun c hc => ?_⟩⟩
        · exact fun b o e => by
            rw [upd_ne (ne_of_none e hD)]
            exact same_upd hl _ _ (s5 _ _ e)
        · have nlD : l ≠ D := fun z => by rw [z, eD] at hl; cases hl
          rcases List.mem_append.mp hc with z | z
          · obtain ⟨g1, g2, l', g3, g4⟩ := hcs c z
            exact ⟨g1, g2, l', by rw [upd_ne g2]; exact same_upd hl _ _ g3, g4⟩
          · rw [List.mem_singleton.mp z]
            refine ⟨?_, nlD, row, by rw [upd_ne nlD]; exact upd_same, w1, w2⟩
            cases y : H4 l with
            | none => rfl
            | some o => rw [s5 _ _ y] at hl; cases hl
      obtain ⟨s5, cs0, eD, hlc, hcs⟩ := hJ
      rw [List.length_map, t2, W.len] at hlc
      have nAD : A ≠ D := fun z => by rw [z, hD] at eA3; cases eA3
      have fD : H3 D = none := by
        cases y : H3 D with
        | none => rfl
        | some o => rw [s3A _ _ y] at hD; cases hD
      have notS : ∀ {b : Addr}, H3 b = none → b ≠ S := fun {b} y z => by
        obtain ⟨N, p', h1⟩ := I.st.ob
        rw [z, h1] at y
        cases y
      have st5 := (I.st.same s3A).same s5
      have J0 : MutI x.cps.size (M.acc.length + ex) S H3 H5 A D M.acc cs0 := {
        sb := sbA.trans (.of s5)
        st := st5
        fA := hA
        fT := fD
        nA := notS hA
        nT := notS fD
        nAT := nAD
        eA := s5 _ _ eA3
        eT := eD
        pos := npos
        few := Nat.le_add_right _ _
        row := fun c hc => by
          obtain ⟨g1, g2, l, g3, g4⟩ := hcs c hc
          have g0 : H3 c = none := by
            cases y : H3 c with
            | none => rfl
            | some o => rw [s3A _ _ y] at g1; cases g1
          exact ⟨g0, notS g0, fun z => (by rw [z, eA3] at g1; cases g1), g2, l, g3, g4⟩ }
      -- the turns
      refine ⟨_, rfl, S, 2, rfl, by decide, J0.st, fun z H6 hz sb6 st6 => ⟨_, _, rfl, rfl, _, rfl, by omega, by omega, for_by (wk_range 0 _) (fun j σ H7 => ∃ (bs : List Bool) (cs : List Addr) (y9 y10 : Option V), σ = [some (.str x), some (.ref S), some (.ref p), some (nV ex), some (nV (M.acc.length + ex)), some (.ref R), some (nV i), some (.ref A), some (.ref D), y9, y10, none, none, none] ∧ MutI x.cps.size (M.acc.length + ex) S H3 H7 A D bs cs ∧ cs.length = bs.length) ⟨M.acc, cs0, _, _, rfl, J0.next sb6 st6, hlc⟩ (fun _ _ _ _ _ => trivial) (fun j v σ H7 hj hv hJ => ?_) (fun σ H7 hJ => ?_)⟩⟩
      · obtain ⟨bs, cs, y9, y10, rfl, J, hl7⟩ := hJ
        have few := J.few
        have vall : ∀ {b : Addr} {H' : Hp} {bs' cs'}, MutI x.cps.size (M.acc.length + ex) S H3 H' A D bs' cs' → H' b = none → H3 b = none ∧ b ≠ S ∧ b ≠ A ∧ b ≠ D := fun {b} {H'} {bs'} {cs'} J' e => by
          have nS : b ≠ S := fun z => by
            obtain ⟨N, p', h1⟩ := J'.st.ob
            rw [z, h1] at e
            cases e
          refine ⟨?_, nS, fun z => (by rw [z, J'.eA] at e; cases e), fun z => (by rw [z, J'.eT] at e; cases e)⟩
          cases y : H3 b with
          | none => rfl
          | some o => rw [J'.sb _ _ nS y] at e; cases e
        refine ⟨_, rfl, _, rfl, true, A, _, rfl, .lst J.eA, S, bs.length, by rw [List.length_map]; rfl, J.pos, J.st, fun v1 H8 vb sb8 st8 => ?_⟩
        have J8 := J.next sb8 st8
        refine ⟨_, rfl, true, A, _, rfl, .lst J8.eA, _, rfl, _, _, rfl, rfl, _, rfl, ?_⟩
        have vc : v1 < cs.length := by omega
        have hcm := List.getElem_mem vc
        have hc0 := List.getElem?_eq_getElem vc
        generalize cs[v1] = c0 at hcm hc0
        have hb0 := List.getElem?_eq_getElem vb
        generalize bs[v1] = b0 at hb0
        have hbm : (bs.map V.bl)[v1]? = some (V.bl b0) := by rw [List.getElem?_map, hb0]; rfl
        have hcm2 : (cs.map V.ref)[v1]? = some (V.ref c0) := by rw [List.getElem?_map, hc0]; rfl
        refine and_pick (fun b H9 => MutI x.cps.size (M.acc.length + ex) S H3 H9 A D bs cs ∧ (b = true → bs.length < M.acc.length + ex)) (fun c Q' hq => ?_) (fun c => ⟨J8, fun z => by cases z⟩) (fun b H9 hR => ?_)
        · refine ⟨_, rfl, S, 2, rfl, by decide, J8.st, fun z2 H9 hz2 sb9 st9 => ⟨rfl, _, rfl, hq _ _ ⟨J8.next sb9 st9, fun _ => ?_⟩⟩⟩
          have c1 : (((bs.map V.bl).length : Nat) : Int) < ((M.acc.length + ex : Nat) : Int) := of_decide_eq_true c
          rw [List.length_map] at c1
          omega
        obtain ⟨J9, hlt⟩ := hR
        refine ite2 (fun cb => ?_) (fun cb => ?_)
        · have lt := hlt cb
          refine ⟨_, rfl, .inl ⟨rfl, _, SqL.of J9.eA⟩, _, rfl, _, rfl, true, A, _, _, _, rfl, rfl, .lst J9.eA, atI_nat hbm, A, _, _, rfl, rfl, J9.eA, by rw [List.length_map, sizeLine_eq]; omega, ?_⟩
          have l1 : (bs ++ [b0]).length = bs.length + 1 := by rw [List.length_append, List.length_singleton]
          have J10 := J9.setA (bs' := bs ++ [b0]) (by omega) (by omega) (by omega)
          rw [List.map_append] at J10
          have J10 : MutI x.cps.size (M.acc.length + ex) S H3 (upd H9 A (.lst (bs.map V.bl ++ [V.bl b0]))) A D (bs ++ [b0]) cs := J10
          generalize upd H9 A (.lst (bs.map V.bl ++ [V.bl b0])) = H10 at J10 ⊢
          obtain ⟨r1, r2, r3, r4, l, r5, r6, r7⟩ := J10.row c0 hcm
          refine ⟨_, rfl, .inl ⟨rfl, _, SqL.of J10.eT⟩, _, rfl, _, rfl, true, D, _, _, _, rfl, rfl, .lst J10.eT, atI_nat hcm2, c0, _, rfl, .inl (SqL.of r5), fun E hE => ⟨D, _, _, rfl, rfl, same_upd hE _ _ J10.eT, by rw [List.length_map, sizeLine_eq]; omega, ?_⟩⟩
          obtain ⟨fE, nES, nEA, nED⟩ := vall J10 hE
          have J11 := (J10.same (same_upd (o := .lst (l.map nV)) hE)).pushT (by omega) fE nES nEA nED upd_same r6 r7
          generalize upd (upd H10 E (.lst (l.map nV))) D (.lst (cs.map V.ref ++ [.ref E])) = H11 at J11 ⊢
          have l2 : (cs ++ [E]).length = cs.length + 1 := by rw [List.length_append, List.length_singleton]
          have ev : nV cs.length = V.int ((((cs ++ [E]).map V.ref).length : Nat) - 1) := by
            rw [List.length_map, l2]
            exact congrArg V.int (by omega)
          refine ⟨_, rfl, true, D, _, rfl, .lst J11.eT, _, _, rfl, rfl, _, rfl, _, rfl, _, rfl, true, D, _, rfl, .lst J11.eT, S, (cs ++ [E]).length, by rw [List.length_map]; rfl, by omega, J11.st, fun v2 H12 hv2 sb12 st12 => ?_⟩
          have J12 := J11.next sb12 st12
          have hm2 := List.getElem_mem hv2
          have hg2 := List.getElem?_eq_getElem hv2
          generalize (cs ++ [E])[v2] = c2 at hm2 hg2
          refine ⟨true, D, _, _, _, rfl, rfl, .lst J12.eT, atI_nat (by rw [List.getElem?_map, hg2]; rfl), _, rfl, _, rfl, _, rfl, kl, S, x.cps.size, rfl, kp, st12, fun v3 H13 hv3 sb13 st13 => ?_⟩
          have J13 := J12.next sb13 st13
          obtain ⟨_, _, _, _, l3, e3, e4, e5⟩ := J13.row c2 hm2
          have J14 := J13.setR (by omega) hm2 e3 (j := v3) (q := cs.length) (by omega)
          rw [ev] at J14
          exact ⟨c2, _, _, v3, rfl, rfl, e3, ixN_nat (by rw [List.length_map, e4]; exact hv3), bs ++ [b0], cs ++ [E], _, _, rfl, J14, by omega⟩
        · refine ⟨_, rfl, S, 3, rfl, by decide, J9.st, fun z3 H10 hz3 sb10 st10 => ⟨rfl, _, rfl, ite2 (fun c3 => ?_) (fun c3 => ?_)⟩⟩
          · have J10 := J9.next sb10 st10
            refine ⟨_, rfl, _, rfl, true, A, _, _, _, rfl, rfl, .lst J10.eA, atI_nat hbm, _, rfl, _, rfl, _, rfl, A, _, _, v1, rfl, rfl, J10.eA, ixN_nat (by rw [List.length_map]; exact vb), ?_⟩
            have J11 := J10.setA (bs' := bs.set v1 (!b0)) (by omega) (by rw [List.length_set]; omega) (by rw [List.length_set]; exact J10.few)
            rw [List.map_set] at J11
            exact ⟨bs.set v1 (!b0), cs, _, _, rfl, J11, by rw [List.length_set]; exact hl7⟩
          · have J10 := J9.next sb10 st10
            refine ⟨_, rfl, _, rfl, true, A, _, rfl, .lst J10.eA, S, bs.length, by rw [List.length_map]; rfl, J10.pos, J10.st, fun q1 H11 hq1 sb11 st11 => ?_⟩
            have J11 := J10.next sb11 st11
            refine ⟨_, rfl, _, rfl, true, D, _, _, _, rfl, rfl, .lst J11.eT, atI_nat hcm2, _, rfl, _, rfl, _, rfl, kl, S, x.cps.size, rfl, kp, st11, fun v3 H12 hv3 sb12 st12 => ?_⟩
            have J12 := J11.next sb12 st12
            obtain ⟨_, _, _, _, l3, e3, e4, e5⟩ := J12.row c0 hcm
            exact ⟨c0, _, _, v3, rfl, rfl, e3, ixN_nat (by rw [List.length_map, e4]; exact hv3), bs, cs, _, _, rfl, J12.setR (by omega) hcm e3 (j := v3) (q := q1) hq1, hl7⟩
      · obtain ⟨bs, cs, y9, y10, rfl, J, hl7⟩ := hJ
        have I7 := I.next J.sb J.st
        have nDR : D ≠ R := fun z => by rw [z, I.eR] at fD; cases fD
        refine ⟨_, rfl, .inl ⟨rfl, _, SqL.of I7.eR⟩, _, rfl, _, rfl, by show 2 ≤ sizeLine; decide, fun r hr => ⟨R, _, _, rfl, rfl, (I7.same (same_upd hr)).eR, by rw [List.length_map, sizeLine_eq]; omega, rs ++ [r], _, _, _, _, _, rfl, (I7.same (same_upd hr)).add kp (by omega) ?_, by rw [List.length_append, hl]; rfl⟩⟩
        have pr := (J.same (same_upd hr)).prt (R := R) (H' := H7) K (by omega) hl7 upd_same nDR
        obtain ⟨a', t', M', g1, g2, g3, g4, g5⟩ := pr
        exact ⟨a', t', M', g1, g2, g3, by omega, g5⟩
    obtain ⟨rs, y6, y7, y8, y9, y10, rfl, I, hl⟩ := hI
    have hl : rs.length = 20 + 12 := hl
    -- all the small ones
    have hp4 := SqB.st (b := false) hp hS nSp I.sb
    have hP4 := hP.st hS I.sb
    have fin : ∀ (H' : Hp) (rs : List Addr), RowsI K x.cps.size 10 S R H H' rs → rs.length ≤ 100 → Q (.ref R) H' := fun H' rs I h => q H' R rs I.sb I.st hR I.eR h I.prt
    refine ⟨_, rfl, false, p, _, 1, .ref a, rfl, rfl, hp4, rfl, false, a, _, rfl, hP4.acc, _, _, rfl, rfl, _, rfl, ?_⟩
    refine and_pick (fun b H9 => H9 = H3 ∧ (b = true → x.cps.size = 2)) (fun c Q' hq => ?_) (fun c => ⟨rfl, fun z => by cases z⟩) (fun b H9 hR9 => ?_)
    · refine ⟨_, rfl, _, rfl, kl, rfl, _, rfl, hq _ _ ⟨rfl, fun z => ?_⟩⟩
      have z1 : V.int ((x.length : Nat) : Int) = V.int 2 := of_decide_eq_true z
      have z2 : ((x.length : Nat) : Int) = 2 := V.int.inj z1
      have z3 : x.length = x.cps.size := rfl
      omega
    obtain ⟨rfl, h2⟩ := hR9
    refine ite2 (fun cb => ?_) (fun cb => ⟨_, rfl, fin _ rs I (by omega)⟩)
    have k2 := h2 cb
    refine ⟨_, rfl, by decide, by decide, for_by (wk_range 0 _) (fun i σ H4 => ∃ (rs : List Addr) (y11 y12 : Option V), σ = [some (.str x), some (.ref S), some (.ref p), some (nV ex), some (nV (M.acc.length + ex)), some (.ref R), y6, y7, y8, y9, y10, y11, y12, none] ∧ RowsI K x.cps.size 10 S R H H4 rs ∧ rs.length = 32 + i) ⟨rs, none, none, rfl, I, by omega⟩ (fun _ _ _ _ _ => trivial) (fun i v σ H4 hi hv hI => ?_) (fun σ H4 hI => ?_)⟩
    · obtain ⟨rs, y11, y12, rfl, I, hl⟩ := hI
      have hi : i < 64 := hi
      have hv2 : v = nV i := by
        rw [hv]
        show V.int (0 + (i : Int)) = V.int (i : Int)
        rw [Int.zero_add]
      subst hv2
      refine ⟨_, rfl, by decide, by decide, fun D hD => ?_⟩
      refine lc_by (wk_range 0 _) (fun j H5 => Same H4 H5 ∧ ∃ bl : List Nat, H5 D = some (.lst (bl.map nV)) ∧ bl.length = j ∧ ∀ q ∈ bl, q < 2) ⟨same_upd hD, [], upd_same, rfl, fun q h => (by cases h)⟩ (fun _ _ _ _ => trivial) (fun j v H5 hj hv hJ => ?_) (fun H5 hJ => ?_)
      · obtain ⟨s5, bl, eD, hlb, hq⟩ := hJ
        have hj : j < 6 := hj
        have hv2 : v = nV j := by
          rw [hv]
          show V.int (0 + (j : Int)) = V.int (j : Int)
          rw [Int.zero_add]
        subst hv2
        obtain ⟨pw, p0, p1, hpw⟩ : ∃ pw : Int, 0 < pw ∧ pw < 1073741824 ∧ [V.int 1, V.int 2, V.int 4, V.int 8, V.int 16, V.int 32][j]? = some (V.int pw) := by
          match j, hj with
          | 0, _ => exact ⟨1, by decide, by decide, rfl⟩
          | 1, _ => exact ⟨2, by decide, by decide, rfl⟩
          | 2, _ => exact ⟨4, by decide, by decide, rfl⟩
          | 3, _ => exact ⟨8, by decide, by decide, rfl⟩
          | 4, _ => exact ⟨16, by decide, by decide, rfl⟩
          | 5, _ => exact ⟨32, by decide, by decide, rfl⟩
        refine ⟨rfl, _, rfl, by show 6 ≤ sizeLine; decide, fun E hE => ⟨_, rfl, true, E, _, _, _, rfl, rfl, .lst upd_same, atI_nat hpw, _, _, rfl, rfl, ⟨p0, p1⟩, _, _, rfl, rfl, (by show (0 : Int) < 2; decide), ?_⟩⟩
        have z1 := Int.emod_nonneg ((i : Int) / pw) (show (2 : Int) ≠ 0 by decide)
        have z2 := Int.emod_lt_of_pos ((i : Int) / pw) (show (0 : Int) < 2 by decide)
        have zq : V.int ((i : Int) / pw % 2) = nV (((i : Int) / pw % 2).toNat) := congrArg V.int (Int.toNat_of_nonneg z1).symm
        refine ⟨_, same_upd hE _ _ eD, by rw [List.length_map, sizeLine_eq]; omega, same_store (s5.trans (same_upd hE)) hD, bl ++ [((i : Int) / pw % 2).toNat], ?_, by rw [List.length_append, hlb]; rfl, fun q hq2 => ?_⟩
        · rw [upd_same, List.map_append]
          show _ = some (HO.lst (_ ++ [nV _]))
          rw [← zq]
        · rcases List.mem_append.mp hq2 with z | z
          · exact hq q z
          · rw [List.mem_singleton.mp z]
            omega
      obtain ⟨s5, bl, eD, hlb, hq⟩ := hJ
      have hlb : bl.length = 6 := hlb
      obtain ⟨b0, b1, b2, b3, b4, b5, rfl⟩ : ∃ b0 b1 b2 b3 b4 b5, bl = [b0, b1, b2, b3, b4, b5] := by
        match bl, hlb with
        | [b0, b1, b2, b3, b4, b5], _ => exact ⟨b0, b1, b2, b3, b4, b5, rfl⟩
      have eD : H5 D = some (.lst [nV b0, nV b1, nV b2, nV b3, nV b4, nV b5]) := eD
      have I5 := I.same s5
      refine ⟨_, rfl, .inl ⟨rfl, _, SqL.of I5.eR⟩, _, rfl, true, D, _, _, _, rfl, rfl, .lst eD, rfl, rfl, _, rfl, true, D, _, _, _, rfl, rfl, .lst eD, rfl, rfl, by show 2 ≤ sizeLine; decide, fun A hA => ?_⟩
      have sA : Same H5 (upd H5 A (.lst [.bl (decide (nV b0 = V.int 1)), .bl (decide (nV b1 = V.int 1))])) := same_upd hA
      have eA : upd H5 A (.lst [.bl (decide (nV b0 = V.int 1)), .bl (decide (nV b1 = V.int 1))]) A = some (.lst [.bl (decide (nV b0 = V.int 1)), .bl (decide (nV b1 = V.int 1))]) := upd_same
      have eD6 := sA _ _ eD
      have I6 := I5.same sA
      refine ⟨_, rfl, true, D, _, _, _, rfl, rfl, .lst eD6, rfl, _, rfl, true, D, _, _, _, rfl, rfl, .lst eD6, rfl, by show 2 ≤ sizeLine; decide, fun r1 hr1 => ?_⟩
      have s7 := same_upd (o := .lst [nV b2, nV b3]) hr1
      have eD7 := s7 _ _ eD6
      refine ⟨_, rfl, true, D, _, _, _, rfl, rfl, .lst eD7, rfl, _, rfl, true, D, _, _, _, rfl, rfl, .lst eD7, rfl, by show 2 ≤ sizeLine; decide, fun r2 hr2 => ⟨by show 2 ≤ sizeLine; decide, fun T hT => ⟨by show 2 ≤ sizeLine; decide, fun r hr => ?_⟩⟩⟩
      have s8 := same_upd (o := .lst [nV b4, nV b5]) hr2
      have s9 := same_upd (o := .lst [.ref r1, .ref r2]) hT
      have s10 := same_upd (o := .tup [.ref A, .ref T]) hr
      have I10 := (((I6.same s7).same s8).same s9).same s10
      have nTR : T ≠ R := fun z => by
        have := ((I6.same s7).same s8).eR
        rw [z, this] at hT
        cases hT
      refine ⟨R, _, _, rfl, rfl, I10.eR, by rw [List.length_map, sizeLine_eq]; omega, rs ++ [r], _, _, rfl, I10.add kp (by omega) ?_, by rw [List.length_append, hl]; rfl⟩
      have g1 := s10 _ _ (s9 _ _ (s8 _ _ upd_same))
      have g2 := s10 _ _ (s9 _ _ upd_same)
      have g3 := s10 _ _ upd_same
      have g0 := s10 _ _ (s9 _ _ (s8 _ _ (s7 _ _ eA)))
      have qb : ∀ q ∈ [b0, b1, b2, b3, b4, b5], q < 2 := hq
      refine ⟨A, T, ⟨[decide (nV b0 = V.int 1), decide (nV b1 = V.int 1)], [[b2, b3], [b4, b5]]⟩, upd_same, ⟨.lst g0, [r1, r2], .lst g3, rfl, fun i r row e1 e2 => ?_⟩, ⟨rfl, by show 0 < 2; decide, fun row hrow => ?_, by show 2 ≤ 1000; decide⟩, by show 2 ≤ 10; decide, nTR⟩
      · match i, e1, e2 with
        | 0, e1, e2 => cases e1; cases e2; exact .lst g1
        | 1, e1, e2 => cases e1; cases e2; exact .lst g2
      · have : row = [b2, b3] ∨ row = [b4, b5] := by simpa using hrow
        rcases this with rfl | rfl
        · exact ⟨k2.symm, fun q hq => qb q (by simp at hq ⊢; rcases hq with z | z <;> simp [z])⟩
        · exact ⟨k2.symm, fun q hq => qb q (by simp at hq ⊢; rcases hq with z | z <;> simp [z])⟩
    · obtain ⟨rs, y11, y12, rfl, I, hl⟩ := hI
      have hl : rs.length = 32 + 64 := hl
      exact ⟨_, rfl, fin _ rs I (by omega)⟩
end
end K46
set_option Elab.async false
set_option linter.all false
set_option maxRecDepth 100000
set_option maxHeartbeats 1600000
namespace K46
open PySem PySem.Spec PyProof.Rows L2 NdefX LamX
theorem op_notIn_K {X : Cx} (K : PySem.W.Frag) (hK : X.K = K := by rfl) : OpR X (compareOp .NotIn) (rIn K true) := by
  subst hK
  exact op_notIn_seq
/-! ### frames of the law -/
/-- what is no list stays -/
def NoL (H H' : Hp) : Prop := ∀ b o, H b = some o → (∀ xs, o ≠ .lst xs) → H' b = some o
theorem NoL.of {R : Addr} {xs : List V} {H H' : Hp} (e : H R = some (.lst xs)) (s : SameB R H H') : NoL H H' := fun b o h n => s b o (fun z => by
  rw [z, e] at h
  exact n xs (Option.some.inj h).symm) h
theorem tabs_noL {T : List NTab} {H H' : Hp} (t : TabsN T H) (s : NoL H H') : TabsN T H' := fun p hp => by
  obtain ⟨ps, h1, h2, h3⟩ := t p hp
  refine ⟨ps, s _ _ h1 (fun _ z => by cases z), h2, fun pos cv hc => ?_⟩
  obtain ⟨c, e1, e2⟩ := h3 pos cv hc
  exact ⟨c, e1, s _ _ e2 (fun _ z => by cases z)⟩
theorem St.vw {H H' : Hp} {S : Addr} (h : St H S) (s : Vw H H') : St H' S := by
  obtain ⟨N, ns, p, h1, h2, h3⟩ := h
  exact ⟨N, ns, p, s _ _ h1 (fun _ z => by cases z) (fun _ z => by cases z), s _ _ h2 (fun _ z => by cases z) (fun _ z => by cases z), h3⟩
structure LawI (K : PySem.W.Frag) (x : Str) (S a t p a7 t7 : Addr) (M Mp : Mach) (H : Hp) : Prop where
  st : St H S
  hP : PartsH true K H a t M
  hp : SqT K H p [.str x, .ref a7, .ref t7]
  hQ : PartsH false K H a7 t7 Mp
  tb : TabsN (TT K) H
theorem noSt_pic (x : Str) (a t : Addr) : NoSt [V.str x, V.ref a, V.ref t] := fun N p z => by cases z
theorem LawI.next {K : PySem.W.Frag} {x : Str} {S a t p a7 t7 : Addr} {M Mp : Mach} {H H' : Hp} (I : LawI K x S a t p a7 t7 M Mp H) (s : SameB S H H') (st : St H' S) : LawI K x S a t p a7 t7 M Mp H' := ⟨st, I.hP.st I.st s, SqB.st (b := false) I.hp I.st (noSt_pic _ _ _) s, I.hQ.st I.st s, by
  obtain ⟨N, q, e⟩ := I.st.ob
  exact tabs_noL I.tb (.of e s)⟩
theorem LawI.same {K : PySem.W.Frag} {x : Str} {S a t p a7 t7 : Addr} {M Mp : Mach} {H H' : Hp} (I : LawI K x S a t p a7 t7 M Mp H) (s : Same H H') : LawI K x S a t p a7 t7 M Mp H' := I.next (.of s) (I.st.same s)
theorem LawI.ex {K : PySem.W.Frag} {x : Str} {S a t p a7 t7 : Addr} {M Mp : Mach} {H H' : Hp} (I : LawI K x S a t p a7 t7 M Mp H) (s : Ex K H H') : LawI K x S a t p a7 t7 M Mp H' := ⟨I.st.vw s.vw, I.hP.vw s.vw, SqB.vw (b := false) s.vw I.hp, I.hQ.vw s.vw, s.tab I.tb⟩
theorem bl_str {bs : List Bool} {x : Str} {L : List (List Nat)} (h : 0 < bs.length) : bs.map V.bl ≠ L.map fun u => V.str (txt x u) := fun z => by
  match bs, L, h, z with
  | b :: bs, [], _, z => cases z
  | b :: bs, r :: rs, _, z => rw [List.map_cons, List.map_cons] at z; injection z with z; cases z
theorem nV_str {l : List Nat} {x : Str} {L : List (List Nat)} (h : 0 < l.length) : l.map nV ≠ L.map fun u => V.str (txt x u) := fun z => by
  match l, L, h, z with
  | b :: bs, [], _, z => cases z
  | b :: bs, r :: rs, _, z => rw [List.map_cons, List.map_cons] at z; injection z with z; cases z
theorem ref_str {l : List Addr} {x : Str} {L : List (List Nat)} (h : 0 < l.length) : l.map V.ref ≠ L.map fun u => V.str (txt x u) := fun z => by
  match l, L, h, z with
  | b :: bs, [], _, z => cases z
  | b :: bs, r :: rs, _, z => rw [List.map_cons, List.map_cons] at z; injection z with z; cases z
/-- a list of texts is written -/
theorem PartsH.clr {K : PySem.W.Frag} {H H' : Hp} {R a t : Addr} {x : Str} {M : Mach} {L : List (List Nat)} (h : PartsH true K H a t M) (W : Wf x.cps.size M) (hk : 0 < x.cps.size) (e : H R = some (.lst (L.map fun u => V.str (txt x u)))) (s : SameB R H H') : PartsH true K H' a t M := by
  obtain ⟨hA, rs, t1, t2, t3⟩ := h
  refine ⟨hA.but e (.inr (bl_str W.pos)) s, rs, t1.but e (.inr (ref_str ?_)) s, t2, fun i r row e1 e2 => (t3 i r row e1 e2).but e (.inr (nV_str ?_)) s⟩
  · rw [t2, W.len]
    exact W.pos
  · rw [(W.row row (List.mem_of_getElem? e2)).1]
    exact hk
/-! ### the picture as data -/
def picD (x : Str) (M : Mach) : PyData := .tuple [.str x, .tuple (M.acc.map PyData.bool), .tuple (M.tab.map tD)]
theorem dpAll_bl {K : PySem.W.Frag} {H : Hp} : ∀ l : List Bool, DpAll K H (l.map V.bl) (l.map PyData.bool)
  | [] => .nil
  | _ :: l => .cons (.bl _) (dpAll_bl l)
theorem dp_pic {K : PySem.W.Frag} {H : Hp} {p a t : Addr} {x : Str} {M : Mach} (h : SqT K H p [.str x, .ref a, .ref t]) (hP : PartsH false K H a t M) : Dp K H (.ref p) (picD x M) := by
  obtain ⟨rs, t1, t2, t3⟩ := hP.tab
  exact .tup h (.cons (.str x) (.cons (.tup hP.acc (dpAll_bl _)) (.cons (.tup t1 (dpAll_tD t2 fun i a v e1 e2 => t3 i a v e1 e2)) .nil)))
theorem shaped_pic {x : Str} (h : Rg x) (M : Mach) : SeqAt.shaped (picD x M) = true := by
  have b1 : PyData.canLayAll0 (M.acc.map PyData.bool) = true := by
    induction M.acc with
    | nil => simp [PyData.canLayAll0]
    | cons a l ih => rw [List.map_cons, PyData.canLayAll0, ih]; rfl
  have b2 : PyData.depthAll (M.acc.map PyData.bool) ≤ 1 := by
    induction M.acc with
    | nil => simp [PyData.depthAll]
    | cons a l ih =>
      rw [List.map_cons, PyData.depthAll]
      have : (PyData.bool a).depth ≤ 1 := by
        rw [PyData.depth]
        first | omega | (intro; simp) | simp
      omega
  have t0 := shaped_tDs M.tab
  have t0 : (PyData.canLay0 (.list (M.tab.map tD)) && decide ((PyData.list (M.tab.map tD)).depth ≤ 64)) = true := t0
  have t1 : PyData.canLayAll0 (M.tab.map tD) = true := by
    rw [Bool.and_eq_true] at t0
    simpa only [PyData.canLay0] using t0.1
  have t2 : PyData.depthAll (M.tab.map tD) ≤ 3 := by
    induction M.tab with
    | nil => simp [PyData.depthAll]
    | cons a l ih =>
      have h := depth_tD a
      rw [List.map_cons, PyData.depthAll]
      omega
  show (PyData.canLay0 (picD x M) && decide ((picD x M).depth ≤ 64)) = true
  rw [Bool.and_eq_true]
  refine ⟨?_, decide_eq_true ?_⟩
  · unfold picD
    simp only [PyData.canLay0, PyData.canLayAll0, h.ok, b1, t1]
    rfl
  · unfold picD
    simp only [PyData.depth, PyData.depthAll]
    omega
end K46
set_option Elab.async false
set_option linter.all false
set_option maxRecDepth 100000
set_option maxHeartbeats 1600000
namespace K46
open PySem PySem.Spec PyProof.Rows L2 NdefX LamX
section
variable {P : Program} {w : World} {K : PySem.W.Frag} {mg : Str → Option Value} {base : Heap}
/-! ### law -/
abbrev nmLaw : List Str := ["_law_script", "_law_state_here", "_law_letters_here", "_law_accepting", "_law_table", "_law_extra", "_law_picture", "_law_told", "_law_due_here", "_law_k", "_law_parts_here", "_law_kept", "_law_text"]
theorem scLaw : FnScope nmLaw ["_law_script"] (defScope (topS 42)) := C8.fnScope_by (by decide +kernel)
def spLaw (K : PySem.W.Frag) : Sp := fun vs H Q _ => ∃ (a : Addr) (ns : List Int), vs = [.ref a] ∧ SqL K H a (ns.map V.int) ∧ TabsN (TT K) H ∧ ∀ H', Q (.bl true) H'
theorem fnok_of {x : Str} {i : Nat} {f : Addr} {fd : FuncData} {N ps : List Str} {k : Nat} {sp : Sp} (F : FunD K x x (defArgs (topS i)) (defBody (topS i)) (defScope (topS i)) [] [] f fd) (S : FnScope N ps (defScope (topS i)))
    (len : ∀ vs H Q E, sp vs H Q E → vs.length = ps.length)
    (hbody : ∀ (f : Addr) (cdv : Value) (A : Around) (outer : List Env) (s : Shared) (H : Hp) (vs : List V) (Q : VK) (E : XK), Room k (A.deeper (envOfC x (defScope (topS i)) s.heap.objs.size f cdv)) → sp vs H Q E →
      ∃ t, PSs (cxOf CX0 P w K mg base N x (defScope (topS i)) f cdv A outer s H E).nox (defBody (topS i)) t ∧ t { nx := fun _ H' => Q .non H', rt := Q } (start N vs) H) :
    FnOk P w K mg base CX0 (k + 1) f fd ps sp := by
  refine FunD.ok F S len fun cdv A outer s H vs Q E hr h => ?_
  obtain ⟨t, h1, h2⟩ := hbody _ cdv A outer s H vs Q E hr h
  exact ⟨t, h1.nox, h2⟩
theorem ok_law {f : Addr} {fd : FuncData} (F : FunD K "law" "law" (defArgs (topS 42)) (defBody (topS 42)) (defScope (topS 42)) [] [] f fd) (T : Tx K mg) (TB : TBs K mg base) : FnOk P w K mg base CX0 10 f fd ["_law_script"] (spLaw K) := by
  obtain ⟨fdI, FI, bI⟩ := ok_init (P := P) (w := w) (base := base) T
  refine fnok_of (i := 42) F scLaw (fun vs H Q E h => ?_) (fun f cdv A outer s H vs Q E hr h => ?_)
  · obtain ⟨a, ns, rfl, _⟩ := h
    rfl
  · obtain ⟨a0, ns, rfl, hA, hTT, q⟩ := h
    have hu := hu_of hr
    have hu64 := hr.units
    refine ⟨_, pss_cons (ps_set (i := 1) scLaw.nd rfl (.inl rfl) (C8.pe_c (cal_state T) hr (by decide) (by rfl) (pa_cons (pv 0) (pa_cons pe_int (pa_cons pe_int pa_nil)))))
      (pss_cons (ps_set (i := 2) scLaw.nd rfl (.inl rfl) (C8.pe_c (cal_letters T) hr (by decide) (by rfl) (pa_cons (pv 1) (pa_cons pe_int pa_nil))))
      (pss_cons (ps_asg (g := gTup K 2 (gCons (gName 3) (gCons (gName 4) gNil))) (C8.pe_c (cal_parts T) hr (by decide) (by rfl) (pa_cons (pv 2) (pa_cons (pv 1) (pa_cons (pe_ix (ixB K) (pe_lst (pa_cons pe_int (pa_cons pe_int (pa_cons pe_int (pa_cons pe_int pa_nil))))) (C8.pe_c (cal_next T) hr (by decide) (by rfl) (pa_cons (pv 1) (pa_cons pe_int pa_nil))) (fun _ _ => rfl)) pa_nil)))) (pg_tup rfl (pgs_cons (pg_name (i := 3) scLaw.nd rfl (Or.inl rfl)) (pgs_cons (pg_name (i := 4) scLaw.nd rfl (Or.inl rfl)) pgs_nil))))
      (pss_cons (ps_set (i := 5) scLaw.nd rfl (.inl rfl) (C8.pe_c (cal_next T) hr (by decide) (by rfl) (pa_cons (pv 1) (pa_cons (pe_ifExp (pt_cmpR op_lt (pe_callB (lenB K) (by rfl) (T.b "len" (by decide +kernel)) PySem.boot_len (pa_cons (pv 4) pa_nil)) pe_int (nomark _)) pe_int pe_int) pa_nil))))
      (pss_cons (ps_set (i := 6) scLaw.nd rfl (.inl rfl) (C8.pe_c (cal_ll T) hr (by decide) (by rfl) (pa_cons (pv 2) (pa_cons (pv 3) (pa_cons (pv 4) pa_nil)))))
      (pss_cons (ps_set (i := 7) scLaw.nd rfl (.inl rfl) (C8.pe_c (cal_suite T TB) hr (by decide) (by rfl) (pa_cons (pe_make T.mkM FI (hr.mono (by decide)) (by rfl) (T.g "Machine" (by decide +kernel)) bI .nil pass0 (pa_cons (pv 2) (pa_cons (pv 3) (pa_cons (pv 4) pa_nil)))) (pa_cons (pv 5) pa_nil))))
      (pss_cons (ps_set (i := 8) scLaw.nd rfl (.inr rfl) (C8.pe_c (cal_due T) hr (by decide) (by rfl) (pa_cons (pv 2) (pa_cons (pv 6) (pa_cons (pv 5) pa_nil)))))
      (pss_cons (ps_if (PW.pt (pw_or (pt_not (pt_val (pe_callB RZ.call_isTy (by rfl) (T.b "isinstance" (by decide +kernel)) (by decide +kernel) (pa_cons (pv 7) (pa_cons (pe_bltn (v := .ty "list") (by rfl) (T.b "list" (by decide +kernel)) (by decide +kernel) rfl) pa_nil)))))
        (pw_or (pt_cmpR op_ne (pe_callB (lenB K) (by rfl) (T.b "len" (by decide +kernel)) PySem.boot_len (pa_cons (pv 7) pa_nil)) (pe_callB (lenB K) (by rfl) (T.b "len" (by decide +kernel)) PySem.boot_len (pa_cons (pv 8) pa_nil)) (nomark _)) (pw_or1 (pt_cmpR (op_neD hu64) (pe_lc (own := [("_law_text", 12)]) (g := gName 12) rfl scLaw.nd (piB K (pv 7)) (blkOk_by (N := nmLaw) (sc := defScope (topS 42)) (by decide +kernel))
          (fun _ _ _ _ _ => pg_name (i := 12) scLaw.nd rfl (Or.inl rfl)) (fun _ _ _ _ _ => pts_one (pt_cmpR (op_notIn_K K) (pv 12) (pv 8) (by rfl))) (fun _ _ _ _ _ => pv 12)) (pe_lst pa_nil) (by rfl)))))) (pss_one (ps_ret pe_bl)) pss_nil)
      (pss_cons (ps_for PassesOwn.never rfl (pi_range2 (by rfl) (T.b "range" (by decide +kernel)) (pa_cons pe_int (pa_cons (pe_callB (lenB K) (by rfl) (T.b "len" (by decide +kernel)) PySem.boot_len (pa_cons (pv 7) pa_nil)) pa_nil))) (pg_name (i := 9) scLaw.nd rfl (.inl rfl))
        (pss_one (ps_if (pt_not (pt_val (C8.pe_c (cal_before T) hr (by decide) (by rfl) (pa_cons (pv 2) (pa_cons (pe_ix (ixB K) (pv 7) (pe_op op_sub (pv 9) pe_int) (fun _ _ => rfl)) (pa_cons (pe_ix (ixB K) (pv 7) (pv 9) (fun _ _ => rfl)) pa_nil)))))) (pss_one (ps_ret pe_bl)) pss_nil)))
      (pss_cons (ps_for PassesOwn.never rfl (piB K (C8.pe_c (cal_others T) hr (by decide) (by rfl) (pa_cons (pv 2) (pa_cons (pv 1) (pa_cons (pv 6) (pa_cons (pv 5) pa_nil)))))) (pg_name (i := 10) scLaw.nd rfl (.inl rfl))
        (pss_one (ps_if (PW.pt (pw_and (pt_cmpR op_le (pe_callB (lenB K) (by rfl) (T.b "len" (by decide +kernel)) PySem.boot_len (pa_cons (pe_ix (ixB K) (pv 10) pe_int (fun _ _ => rfl)) pa_nil)) (pe_op op_add (pe_callB (lenB K) (by rfl) (T.b "len" (by decide +kernel)) PySem.boot_len (pa_cons (pe_ix (ixB K) (pv 6) pe_int (fun _ _ => rfl)) pa_nil)) (pv 5)) (nomark _)) (pw_and1 (pt_val (C8.pe_c (cal_agree T) hr (by decide) (by rfl) (pa_cons (pv 6) (pa_cons (pv 10) (pa_cons (pv 7) pa_nil))))))))
          (pss_one (ps_if (pt_cmpR (op_neD hu64) (C8.pe_c (cal_ll T) hr (by decide) (by rfl) (pa_cons (pv 2) (pa_cons (pe_ix (ixB K) (pv 10) pe_int (fun _ _ => rfl)) (pa_cons (pe_ix (ixB K) (pv 10) pe_int (fun _ _ => rfl)) pa_nil)))) (pv 6) (by rfl)) (pss_one (ps_ret pe_bl)) pss_nil)) pss_nil)))
      (pss_cons (ps_set (i := 11) scLaw.nd rfl (.inl rfl) (pe_callTy (T := "list") (listB K) (by rfl) (T.b "list" (by decide +kernel)) (by decide +kernel) (pa_cons (pv 7) pa_nil)))
      (pss_cons (ps_expr (pe_bm0 PySem.F.plainAttrs_list PySem.F.slot_list_clear PySem.F.type_list_clear mt_clear (pv 7)))
      (pss_one (ps_ret (pe_cmpR (op_eqD hu64) (C8.pe_c (cal_suite T TB) hr (by decide) (by rfl) (pa_cons (pe_make T.mkM FI (hr.mono (by decide)) (by rfl) (T.g "Machine" (by decide +kernel)) bI .nil pass0 (pa_cons (pv 2) (pa_cons (pv 3) (pa_cons (pv 4) pa_nil)))) (pa_cons (pv 5) pa_nil))) (pv 11) (by rfl))))))))))))))), ?_⟩
    -- state
    refine ⟨_, rfl, a0, ns, rfl, hA, fun H1 S s1 st1 nS => ?_⟩
    have tb1 := hTT.ext s1
    -- letters
    refine ⟨_, rfl, S, rfl, st1, fun x H2 L Rgx sb2 st2 => ?_⟩
    have kf := L.few
    have kp := L.pos
    have tb2 : TabsN (TT K) H2 := by
      obtain ⟨N, q, e⟩ := st1.ob
      exact tabs_noL tb1 (.of e sb2)
    -- the parts
    refine ⟨_, rfl, _, rfl, by show 4 ≤ sizeLine; decide, fun E3 hE3 => ⟨_, rfl, S, 4, rfl, by decide, st2.same (same_upd hE3), fun r H4 hr4 sb4 st4 => ?_⟩⟩
    have nE3 : E3 ≠ S := fun z => by
      obtain ⟨N, q, e⟩ := st2.ob
      rw [z, e] at hE3
      cases hE3
    have eE4 := sb4 _ _ nE3 (upd_same : upd H2 E3 _ E3 = _)
    have tb4 : TabsN (TT K) H4 := by
      obtain ⟨N, q, e⟩ := (st2.same (same_upd hE3)).ob
      exact tabs_noL (tb2.ext (same_upd hE3)) (.of e sb4)
    obtain ⟨n, hn0, hn5, hn⟩ : ∃ n : Nat, 0 < n ∧ n ≤ 5 ∧ [V.int 3, V.int 3, V.int 3, V.int 5][r]? = some (nV n) := by
      match r, hr4 with
      | 0, _ => exact ⟨3, by decide, by decide, rfl⟩
      | 1, _ => exact ⟨3, by decide, by decide, rfl⟩
      | 2, _ => exact ⟨3, by decide, by decide, rfl⟩
      | 3, _ => exact ⟨5, by decide, by decide, rfl⟩
    refine ⟨true, E3, _, _, _, rfl, rfl, .lst eE4, atI_nat hn, x, S, n, rfl, hn0, by omega, L, st4, fun H5 pp a t M sb5 st5 np5 na5 nt5 ep5 hP5 W hle5 => ?_⟩
    have tb5 : TabsN (TT K) H5 := by
      obtain ⟨N, q, e⟩ := st4.ob
      exact tabs_noL tb4 (.of e sb5)
    refine ⟨pp, _, rfl, SqT.of ep5, rfl, _, _, rfl, _, _, rfl, rfl, ?_⟩
    -- extra
    obtain ⟨rs5, t51, t52, t53⟩ := id hP5.tab
    refine ⟨_, rfl, _, rfl, true, t, _, rfl, t51, _, _, rfl, rfl, _, rfl, ?_⟩
    refine pick_if (fun v H' => H' = H5 ∧ ∃ e : Nat, v = nV e ∧ 0 < e ∧ e ≤ 4) (fun c Q' hq => hq _ _ ⟨rfl, 4, rfl, by decide, by decide⟩) (fun c Q' hq => hq _ _ ⟨rfl, 2, rfl, by decide, by decide⟩) (fun v H' hv => ?_)
    obtain ⟨rfl, e0, rfl, he0, he4⟩ := hv
    refine ⟨S, e0, rfl, he0, st5, fun ex H6 hex sb6 st6 => ?_⟩
    have tb6 : TabsN (TT K) H6 := by
      obtain ⟨N, q, e⟩ := st5.ob
      exact tabs_noL tb5 (.of e sb6)
    have hP6 := hP5.st st5 sb6
    -- the picture
    refine ⟨_, rfl, _, rfl, _, rfl, true, x, a, t, M, rfl, hP6, W, L, by omega, fun H7 p7 a7 t7 l s7 np7 ep7 hP7 can hl7 => ?_⟩
    have I7 : LawI K x S a t p7 a7 t7 M (picL x.cps.size l) H7 := ⟨st6.same s7, hP6.same s7, SqT.of ep7, hP7, tb6.ext s7⟩
    obtain ⟨hMin, hLang⟩ := pic_ok (by omega) can
    have hpl : (picL x.cps.size l).acc.length ≤ 5 := by
      show (l.map _).length ≤ 5
      rw [List.length_map]
      omega
    generalize hMp : picL x.cps.size l = Mp at I7 hMin hLang hpl
    -- the suite
    refine ⟨_, rfl, _, rfl, _, rfl, fun m dx hm hdx ndm => ?_⟩
    have sA : Same H7 (upd (upd H7 dx (.own m)) m (.ins (He.ga K "Machine") dx [])) := (same_upd hdx).trans (same_upd (by rw [upd_ne ndm.symm]; exact hm))
    refine ⟨m, dx, a, t, x, M, rfl, upd_same, (I7.same sA).hP.acc, (I7.same sA).hP.tab, W, by omega, fun H8 sb8 hM8 => ⟨rfl, ?_⟩⟩
    have s8 : Same H7 H8 := same_new hm hdx sb8
    have I8 := I7.same s8
    refine ⟨_, rfl, x, m, M, ex, rfl, hM8, W, L, by omega, by omega, I8.tb, fun H9 pT L9 Ms x9 eT pw9 LMs hMs mem9 ok9 len9 => ?_⟩
    have I9 := I8.ex x9
    -- what is due
    refine ⟨_, rfl, _, rfl, _, rfl, x, p7, a7, t7, Mp, ex, rfl, I9.hp, I9.hQ, hMin, L, Rgx, by omega, by omega, fun H10 pD LD s10 nD eD ndD memD => ?_⟩
    have I10 := I9.same s10
    have eT10 := s10 _ _ eT
    have langs : ∀ v, okW x.cps.size v → accT Ms 0 v = accT Mp 0 v := fun v ok => by rw [LMs.lang v ok, hLang v ok]
    have same : ∀ u, u ∈ L9 ↔ u ∈ LD := fun u => by
      rw [mem9, memD]
      exact ⟨fun h => suiteW_lang LMs.min hMin langs h, fun h => suiteW_lang hMin LMs.min (fun v ok => (langs v ok).symm) h⟩
    have nd9 := pw_nodup pw9
    have leq := nodup_len_eq nd9 ndD same
    have okD : ∀ v ∈ LD, okW x.cps.size v := fun v hv => (ok9 v ((same v).mpr hv)).1
    refine ⟨_, rfl, _, _, rfl, .lst eT10, _, rfl, ite2 (fun c => absurd c (by decide)) (fun _ => ?_)⟩
    refine ⟨_, rfl, true, pT, _, rfl, .lst eT10, _, rfl, true, pD, _, rfl, .lst eD, rfl, _, rfl, ite2 (fun c => ?_) (fun _ => ?_)⟩
    · have c' : (!decide (V.int (((L9.map fun u => V.str (txt x u)).length : Nat) : Int) = V.int (((LD.map fun u => V.str (txt x u)).length : Nat) : Int))) = true := c
      rw [List.length_map, List.length_map, leq, decide_eq_true rfl] at c'
      cases c'
    refine ⟨_, rfl, pT, true, rfl, ⟨_, .lst eT10⟩, fun E hE => lc_byT (wk_seq true K pT (L9.map fun u => V.str (txt x u))) (fun j H11 => Same H10 H11 ∧ H11 E = some (.lst [])) ⟨same_upd hE, upd_same⟩ (fun _ _ _ h => .lst (h.1 _ _ eT10)) (fun j v H11 hj hv hI => ?_) (fun H11 hI => ?_)⟩
    · obtain ⟨s11, eE⟩ := hI
      rw [List.length_map] at hj
      have hj0 := List.getElem?_eq_getElem hj
      rw [List.getElem?_map, hj0] at hv
      cases hv
      have hmj := List.getElem_mem hj
      generalize L9[j] = u at hj0 hmj
      have e : inV (.str (txt x u)) (LD.map fun u => V.str (txt x u)) = true := by
        rw [inV_strs L okD (ok9 u hmj).1, decide_eq_true ((same u).mp hmj)]
      refine ⟨rfl, _, rfl, _, rfl, pD, _, rfl, .inl (SqL.of (s11 _ _ eD)), rfl, flat_strs x LD, _, rfl, ite2 (fun c => ?_) (fun _ => ⟨s11, eE⟩)⟩
      have c' : (!inV (.str (txt x u)) (LD.map fun u => V.str (txt x u))) = true := c
      rw [e] at c'
      cases c'
    obtain ⟨s11, eE⟩ := hI
    refine ⟨by show 0 ≤ sizeLine; decide, fun E2 hE2 => ⟨.list [], .list [], .lst (SqL.of (same_upd hE2 _ _ eE)) .nil, .lst (SqL.of upd_same) .nil, shaped_strs Rgx [], shaped_strs Rgx [], _, rfl, ite2 (fun c => absurd c (by decide)) (fun _ => ?_)⟩⟩
    have sB : Same H10 (upd H11 E2 (.lst [])) := s11.trans (same_upd hE2)
    generalize upd H11 E2 (.lst []) = H12 at sB ⊢
    have I12 := I10.same sB
    have eT12 := sB _ _ eT10
    -- each is before the next
    refine ⟨_, rfl, true, pT, _, rfl, .lst eT12, _, _, rfl, ⟨by decide, by decide, by omega, by rw [List.length_map]; omega⟩, for_by (wk_range 1 _) (fun i σ H13 => ∃ y9 : Option V, σ = [some (.ref a0), some (.ref S), some (.str x), some (.ref a), some (.ref t), some (nV ex), some (.ref p7), some (.ref pT), some (.ref pD), y9, none, none, none] ∧ Same H12 H13) ⟨none, rfl, Same.refl _⟩ (fun _ _ _ _ _ => trivial) (fun i v σ H13 hi hv hI => ?_) (fun σ H13 hI => ?_)⟩
    · obtain ⟨y9, rfl, s13⟩ := hI
      rw [List.length_map] at hi
      have h1 : i + 1 < L9.length := by omega
      have hv2 : v = nV (i + 1) := by
        rw [hv]
        exact congrArg V.int (by omega)
      subst hv2
      have h0 : i < L9.length := by omega
      have ls := (List.pairwise_iff_getElem.mp pw9) i (i + 1) h0 h1 (Nat.lt_succ_self i)
      have g0 := List.getElem?_eq_getElem h0
      have g1 := List.getElem?_eq_getElem h1
      have m0 := ok9 _ (List.getElem_mem h0)
      have m1 := ok9 _ (List.getElem_mem h1)
      generalize L9[i] = u0 at ls g0 m0
      generalize L9[i + 1] = u1 at ls g1 m1
      have e1 : atI (L9.map fun u => V.str (txt x u)) (((i + 1 : Nat) : Int) - 1) = some (.str (txt x u0)) := by
        rw [show (((i + 1 : Nat) : Int) - 1) = ((i : Nat) : Int) by omega]
        exact atI_nat (by rw [List.getElem?_map, g0]; rfl)
      have e2 : atI (L9.map fun u => V.str (txt x u)) ((i + 1 : Nat) : Int) = some (.str (txt x u1)) := atI_nat (by rw [List.getElem?_map, g1]; rfl)
      have eT13 := s13 _ _ eT12
      exact ⟨_, rfl, _, rfl, _, rfl, _, _, rfl, rfl, true, pT, _, _, _, rfl, rfl, .lst eT13, e1, _, rfl, _, rfl, true, pT, _, _, _, rfl, rfl, .lst eT13, e2, x, u0, u1, rfl, L, m0.1, m1.1, by omega, by omega, ls, fun H14 s14 => ⟨_, rfl, ite2 (fun c => absurd c (by decide)) (fun _ => ⟨_, rfl, s13.trans s14⟩)⟩⟩
    obtain ⟨y9, rfl, s13⟩ := hI
    have I13 := I12.same s13
    have eT13 := s13 _ _ eT12
    have nTS : pT ≠ S := I13.st.ne eT13 fun N p z => by
      injection z with z
      exact noSt_str L9 (txt x) N p z
    -- the others
    refine ⟨_, rfl, _, rfl, _, rfl, _, rfl, x, S, p7, a7, t7, Mp, ex, rfl, I13.st, I13.hp, I13.hQ, hMin.wf, L, by omega, by omega, fun H14 pf rs sb14 st14 npf epf lrs prs => ⟨pf, true, rfl, ⟨_, .lst epf⟩, ?_⟩⟩
    have I14 := I13.next sb14 st14
    have eT14 := sb14 _ _ nTS eT13
    refine for_by (wk_seq true K pf (rs.map V.ref)) (fun i σ H15 => ∃ y10 : Option V, σ = [some (.ref a0), some (.ref S), some (.str x), some (.ref a), some (.ref t), some (nV ex), some (.ref p7), some (.ref pT), some (.ref pD), y9, y10, none, none] ∧ Same H14 H15) ⟨none, rfl, Same.refl _⟩ (fun _ _ _ _ h => ?_) (fun i v σ H15 hi hv hI => ?_) (fun σ H15 hI => ?_)
    · obtain ⟨_, _, s15⟩ := h
      exact .lst (s15 _ _ epf)
    · obtain ⟨y10, rfl, s15⟩ := hI
      rw [List.length_map] at hi
      have hi0 := List.getElem?_eq_getElem hi
      rw [List.getElem?_map, hi0] at hv
      cases hv
      obtain ⟨a', t', M', er, hP', W', hle', _⟩ := prs _ (List.getElem_mem hi)
      generalize rs[i] = r0 at hi0 er
      have er := SqT.of (K := K) (s15 _ _ er)
      have hP' := hP'.same s15
      have I15 := I14.same s15
      have eT15 := s15 _ _ eT14
      refine ⟨_, rfl, false, r0, _, 0, .ref a', rfl, rfl, er, rfl, true, a', _, rfl, hP'.acc, _, rfl, false, p7, _, 1, .ref a7, rfl, rfl, I15.hp, rfl, false, a7, _, rfl, I15.hQ.acc, _, rfl, _, _, rfl, rfl, _, _, rfl, rfl, _, rfl, ?_⟩
      refine and_pick (fun b H' => H' = H15 ∧ (b = true → M'.acc.length ≤ Mp.acc.length + ex ∧ ∀ u ∈ L9, accT Mp 0 u = accT M' 0 u)) (fun c Q' hq => ?_) (fun c => ⟨rfl, fun z => by cases z⟩) (fun b H' hR => ?_)
      · have c' : (((M'.acc.map V.bl).length : Nat) : Int) ≤ (((Mp.acc.map V.bl).length : Nat) : Int) + (ex : Int) := of_decide_eq_true c
        rw [List.length_map, List.length_map] at c'
        exact ⟨_, rfl, _, rfl, _, rfl, x, p7, r0, pT, a7, t7, a', t', false, true, Mp, M', L9, rfl, I15.hp, er, I15.hQ, hP', SqL.of eT15, hMin.wf, W', L, fun u hu => (ok9 u hu).1, fun ag => ⟨_, rfl, hq _ _ ⟨rfl, fun _ => ⟨by omega, ag⟩⟩⟩, _, rfl, hq _ _ ⟨rfl, fun z => by cases z⟩⟩
      obtain ⟨rfl, hag⟩ := hR
      refine ite2 (fun cb => ?_) (fun _ => ⟨_, rfl, s15⟩)
      obtain ⟨hN, ag⟩ := hag cb
      have lang2 := wmethod hMin.wf hMin.red hMin.rea W' hN fun u hu => ag u ((same u).mpr ((memD u).mpr hu))
      refine ⟨_, rfl, _, rfl, false, r0, _, 0, .ref a', rfl, rfl, er, rfl, _, rfl, false, r0, _, 1, .ref t', rfl, rfl, er, rfl, true, x, a', t', M', rfl, hP', W', L, by omega, fun H16 p16 a16 t16 l2 s16 n16 e16 hP16 can2 hl2 => ?_⟩
      have el : l2 = l := Canon.uniq (by
        rw [resL_lang (M1 := M') (M2 := M) fun v ok => by rw [← lang2 v ok, hLang v ok]] at can2
        exact can2) can
      subst el
      rw [hMp] at hP16
      have I16 := I15.same s16
      refine ⟨_, rfl, picD x Mp, picD x Mp, dp_pic (SqT.of e16) hP16, dp_pic I16.hp I16.hQ, shaped_pic Rgx Mp, shaped_pic Rgx Mp, _, rfl, ite2 (fun c => ?_) (fun _ => ⟨_, rfl, s15.trans s16⟩)⟩
      have c' : (!PyData.eqv (picD x Mp) (picD x Mp)) = true := c
      rw [eqv_shaped (shaped_pic Rgx Mp)] at c'
      cases c'
    obtain ⟨y10, rfl, s15⟩ := hI
    have I15 := I14.same s15
    have eT15 := s15 _ _ eT14
    -- the kept list
    refine ⟨_, rfl, pT, _, rfl, .inl (SqL.of eT15), fun KP hKP => ?_⟩
    have sK : Same H15 (upd H15 KP (.lst (L9.map fun u => V.str (txt x u)))) := same_upd hKP
    have eK : upd H15 KP (.lst (L9.map fun u => V.str (txt x u))) KP = some (.lst (L9.map fun u => V.str (txt x u))) := upd_same
    generalize upd H15 KP (.lst (L9.map fun u => V.str (txt x u))) = H16 at sK eK ⊢
    have nKT : KP ≠ pT := fun z => by rw [z, eT15] at hKP; cases hKP
    have eT16 := sK _ _ eT15
    have I16 := I15.same sK
    refine ⟨_, rfl, .inl ⟨rfl, _, SqL.of eT16⟩, pT, _, rfl, rfl, eT16, ?_⟩
    have sb17 : SameB pT H16 (upd H16 pT (.lst [])) := sameB_upd
    have hP17 := I16.hP.clr W kp eT16 sb17
    have tb17 := tabs_noL I16.tb (.of eT16 sb17)
    have eK17 := sb17 _ _ nKT eK
    generalize upd H16 pT (.lst []) = H17 at sb17 hP17 tb17 eK17 ⊢
    -- the suite again
    refine ⟨_, rfl, _, rfl, _, rfl, fun m2 dx2 hm2 hdx2 ndm2 => ?_⟩
    have sC : Same H17 (upd (upd H17 dx2 (.own m2)) m2 (.ins (He.ga K "Machine") dx2 [])) := (same_upd hdx2).trans (same_upd (by rw [upd_ne ndm2.symm]; exact hm2))
    refine ⟨m2, dx2, a, t, x, M, rfl, upd_same, (hP17.same sC).acc, (hP17.same sC).tab, W, by omega, fun H18 sb18 hM18 => ⟨rfl, ?_⟩⟩
    have s18 : Same H17 H18 := same_new hm2 hdx2 sb18
    refine ⟨_, rfl, x, m2, M, ex, rfl, hM18, W, L, by omega, by omega, tb17.ext s18, fun H19 pT2 L2 Ms2 x19 eT2 pw2 LMs2 hMs2 mem2 ok2 len2 => ?_⟩
    have eK19 : H19 KP = some (.lst (L9.map fun u => V.str (txt x u))) := x19.ext _ _ (s18 _ _ eK17) fun _ z => by cases z
    have eL : L2 = L9 := sorted_uniq pw2 pw9 fun u => by
      rw [mem2, mem9]
      have lg : ∀ v, okW x.cps.size v → accT Ms2 0 v = accT Ms 0 v := fun v ok => by rw [LMs.lang v ok, LMs2.lang v ok]
      exact ⟨fun h => suiteW_lang LMs2.min LMs.min lg h, fun h => suiteW_lang LMs.min LMs2.min (fun v ok => (lg v ok).symm) h⟩
    subst eL
    refine ⟨_, rfl, .list (L2.map (sD x)), .list (L2.map (sD x)), .lst (SqL.of eT2) (dpAll_str x L2), .lst (SqL.of eK19) (dpAll_str x L2), shaped_strs Rgx L2, shaped_strs Rgx L2, ?_⟩
    rw [eqv_shaped (shaped_strs Rgx L2)]
    exact q _
end
end K46
set_option Elab.async false
set_option linter.all false
set_option maxRecDepth 100000
set_option maxHeartbeats 0
namespace K46
open PySem PySem.Spec PyProof.Rows L2 NdefX LamX
theorem fn_dfl : ∀ d ∈ fn, d.dfl = [] ∧ d.kwd = [] := fun d hd => by
  have e : fn.all (fun d => d.dfl.isEmpty && d.kwd.isEmpty) = true := by rfl
  have h := List.all_eq_true.mp e d hd
  rw [Bool.and_eq_true] at h
  exact ⟨List.isEmpty_iff.mp h.1, List.isEmpty_iff.mp h.2⟩
theorem fn_at : ∀ x ∈ gnames, x ≠ "Machine" → (x, none) ∈ fn.map He.DefD.at_ := by decide +kernel
theorem tx_of {w : World} {K : PySem.W.Frag} {h : Heap} {mg : Str → Option Value} {ex : PySem.W.Frag → Bool} (X : K.In h) (G : h.Ns mainGlobals mg) (c : He.SaysX fa fn [] tf ex w h K) : Tx K mg := by
  have d := c.t.d
  have fnD : ∀ d ∈ fn, ∃ fd, FunD K d.name d.qual d.params d.body d.scope [] [] (He.fAd K d.at_) fd := fun q hq => by
    obtain ⟨fd, F⟩ := d.defs hq
    obtain ⟨e1, e2⟩ := fn_dfl q hq
    have h1 : q.dvs K = [] := by unfold He.DefD.dvs; rw [e1]; rfl
    have h2 : q.kws K = [] := by unfold He.DefD.kws; rw [e2]; rfl
    rw [h1, h2] at F
    exact ⟨fd, F⟩
  refine {
    g := fun x hx => He.glo_ok X G (d.facts ?_)
    b := fun x hx => He.free_ok X G (d.facts ?_)
    fn := fnD
    cl := He.cls_ok (d.facts ?_)
    nL := He.noat_ok (d.facts ?_)
    nA := He.noat_ok (d.facts ?_)
    nT := He.noat_ok (d.facts ?_)
    mW := He.meth_ok (d.facts ?_)
    mkM := He.mkr_ok (d.facts ?_)
    kp := fun x hx hn => ?_ }
  · exact List.mem_append_left _ (List.mem_append_left _ (List.mem_map_of_mem hx))
  · exact List.mem_append_left _ (List.mem_append_right _ (List.mem_map_of_mem hx))
  · exact List.mem_append_right _ (by simp)
  · exact List.mem_append_right _ (by simp)
  · exact List.mem_append_right _ (by simp)
  · exact List.mem_append_right _ (by simp)
  · exact List.mem_append_right _ (by simp)
  · exact List.mem_append_right _ (by simp)
  · obtain ⟨q, hq, e⟩ := List.mem_map.mp (fn_at x hx hn)
    obtain ⟨fd, F⟩ := fnD q hq
    have k := F.kp
    rw [e] at k
    exact k
theorem law_binds {K : PySem.W.Frag} {f : Addr} {fd : FuncData} (F : FunD K "law" "law" (defArgs (topS 42)) (defBody (topS 42)) (defScope (topS 42)) [] [] f fd) (s : Shared) (us : List Value) (hl : us.length = ["_law_script"].length) : BindsTo s fd ⟨us, []⟩ ((["_law_script"] : List Str).zip us) :=
  FunD.bindsA F (fun _ _ _ _ _ _ us hl => match us, hl with | [_], _ => rfl) s us hl
theorem law_at {w : World} {K : PySem.W.Frag} {h : Heap} {mg : Str → Option Value} {ex : PySem.W.Frag → Bool} {fa0 : Addr} (KX : K.In h) (G : h.Ns mainGlobals mg) (c : He.SaysX fa fn [] tf ex w h K) (hmg : mg ("law" : Str) = some (.ref fa0)) : LawAtS PySem.Challenge.rw_anytext_k46_whole_suites w K CX0 10 63 "_law_script" mg fa0 h := by
  have T := tx_of KX G c
  have hfa : fa0 = He.fAd K ("law", none) := by
    have z := T.g "law" (by decide +kernel)
    rw [hmg] at z
    injection z with z
    injection z with z
  obtain ⟨fd, F⟩ := T.fn _ (List.mem_of_getElem? (show fn[30]? = some (mkD "law" 42) from rfl))
  have F : FunD K "law" "law" (defArgs (topS 42)) (defBody (topS 42)) (defScope (topS 42)) [] [] (He.fAd K ("law", none)) fd := F
  refine ⟨fd, tf.map (He.cT K), spLaw K, fun p hp => ?_, fun p hp => ?_, fun p hp => ?_, fun s v => law_binds F s [v] rfl, fun H a ns hl _ ht hS => ⟨a, ns, rfl, hS, fun p hp => ?_, fun _ => rfl⟩, fun base KB GB hB => ?_⟩
  · obtain ⟨q, hq, rfl⟩ := List.mem_map.mp hp
    exact c.empty q hq
  · obtain ⟨q, hq, rfl⟩ := List.mem_map.mp hp
    exact c.out q hq
  · obtain ⟨q, hq, rfl⟩ := List.mem_map.mp hp
    exact PySem.W.codeHd_of_K KX (c.hd q hq)
  · obtain ⟨q, hq, rfl⟩ := List.mem_map.mp hp
    exact NdefX.TabN.nil (ht _ (List.mem_map_of_mem hq))
  · rw [hfa]
    exact ok_law F T fun q hq => hB _ (List.mem_map_of_mem hq)
theorem law_name : (HandSHeadRun.topDef R.prog 42).name = ("law" : Str) := by kernel_rfl
end K46
set_option Elab.async false
set_option linter.all false
set_option maxRecDepth 100000
set_option maxHeartbeats 0
open PySem PySem.W PySem.Calls PyProof.Rows
theorem PySem.Challenge.cw_anytext_k46_whole_suites_holds : PySem.Challenge.rw_anytext_k46_whole_suites.Holds := by
  w_on; o_law
  refine HandSHeadRun.head_any (r := K46.R) (q := K46.qv) (H := K46.hk) (ob := K46.ob) (M := 3000) (loose := K46.loose2) (d := HandSHeadRun.topDef K46.R.prog 42) (kwd := []) K46.ob_eq
    (by kernel_rfl) (fun s => by kernel_rfl) K46.run (by kernel_rfl) (by kernel_rfl) (by kernel_rfl) (by rfl) (by first | assumption | decide +kernel) (by decide +kernel) ⟨rfl, rfl, rfl, rfl, rfl, by decide +kernel⟩ ?hw ?hc
  case hw => w_witness2
  case hc =>
    refine LamX.walk_ofTsE (l := PySem.Challenge.rw_anytext_k46_whole_suites) (n := 63) (k := 10) (x := "_law_script") (CX := fun _ => L2.CX0) rfl (by decide) (by kernel_rfl) ⟨rfl, by decide, by decide⟩ ?F (fun _ _ _ _ _ z => z)
    intro w mg fa h Y G hmg0
    obtain ⟨K, KX, c⟩ := Y
    rw [K46.law_name] at hmg0
    exact ⟨K, KX, K46.law_at KX G c hmg0⟩
