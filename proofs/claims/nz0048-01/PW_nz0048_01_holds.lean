import PyProof.Rows.All
import Wide.All
import OpenK.AllK
import Wide.FinOn
import Wide.Seal
import Lean
import PySem.Challenge.RW_nz0048_01
open PySem PySem.W PyProof.Rows PySem.Calls PySem.Spec
open PySem.Str (ofString)
set_option Elab.async false
set_option maxRecDepth 100000
set_option maxHeartbeats 8000000
set_option linter.unusedVariables false
set_option rowWalk.seconds 0
set_option genSizeOf false
namespace Mine
noncomputable def runT (st:SharedT → Thread → Option (SharedT × Thread)) (ok:Thread → Bool) (n:Nat):SharedT → Thread → Option SharedT :=
  @Nat.rec (fun _=>SharedT → Thread → Option SharedT) (fun _ _=>none) (fun _ ih s t=>match through t with
    | true=>some s
    | false=>match ok t with
      | false=>none
      | true=>match st s t with
        | some (s', t')=>ih s' t'
        | none=>none) n
theorem runT_spec {tb:String → Option Builtin} {p:Program} {w:World} {n₀:Nat} {ann:Option Value}:∀ {n:Nat} {s r:SharedT} {t:Thread}, runT (stepT (denote tb) p w) (stepOk n₀ ann) n s t = some r → topRun tb p w n₀ ann n s.abs t = some r.abs
  | 0, _, _, _, h=>nomatch h
  | n + 1, s, r, t, h=>by
    have h':(match through t with
      | true=>some s
      | false=>match stepOk n₀ ann t with
        | false=>none
        | true=>match stepT (denote tb) p w s t with
          | some (s', t')=>runT (stepT (denote tb) p w) (stepOk n₀ ann) n s' t'
          | none=>none) = some r:=h
    unfold topRun
    cases e1:through t with
    | true=>rw [e1] at h'; cases h'; rfl
    | false =>
      rw [e1] at h'
      cases e2:stepOk n₀ ann t with
      | false=>rw [e2] at h'; cases h'
      | true =>
        rw [e2] at h'
        cases e3:stepT (denote tb) p w s t with
        | none=>rw [e3] at h'; cases h'
        | some x=>obtain ⟨s', t'⟩:=x; rw [e3] at h'; rw [stepT_spec e3]; exact runT_spec h'
noncomputable def bootT (P:Params):BT:=((boot_heap P).objs.toList.foldl (fun (q:BT × Nat) o=>(q.1.ins q.2 o, q.2 + 1)) (BT.nil, 0)).1
noncomputable def boot (P:Params) (os:OsState):SharedT:=⟨bootT P, 11, (boot_heap P).life, Array.mk [], boot_drawn, boot_toks, os⟩
theorem boot_abs (P:Params) (os:OsState):(boot P os).abs = ⟨boot_heap P, Array.mk [], boot_drawn, boot_toks, os⟩:=by kernel_rfl
noncomputable def looks (p q:Program) (loose:List Str) (Xt:Shared → Bool) {α:Type} (Yf:Shared → α) (H₀:Heap) (s:Shared) :=
  ((staticsOk (importedModules p.main.body) H₀ s.heap && namesBound p s.heap && gensDone s && laidKept H₀ s.heap), openSeen q loose (importedModules p.main.body) Xt true s, Yf s)
theorem left_of {p q:Program} {loose:List Str} {Xt:Shared → Bool} {α:Type} {Yf:Shared → α} {Ya:World → α} {N M:Nat}
    (e:opening p = plainProg p.main.scope.names) (hN:Nat.ble 600 N = true) (f:∀ s, fenceModules? p s = some s) (le:Nat.ble M N = true)
    (run:∀ (w:World) (os:OsState), (runT (stepT (denote treeTable) p w) (stepOk 11 (some (.ref 6))) M (boot w.params os) (topStub p)).map (fun s=>looks p q loose Xt Yf (boot_heap w.params) s.abs) = some (true, openGood q loose, Ya w)) :
    LeftO p q loose Xt Yf Ya N:=fun w=>by
  obtain ⟨⟨h, gs, d, k, os⟩, e, e'⟩:=Option.map_eq_some_iff.mp (boot_open e hN f w)
  obtain ⟨rfl, rfl, rfl, rfl⟩:h = boot_heap w.params ∧ gs = Array.mk [] ∧ d = boot_drawn ∧ k = boot_toks:=by simpa using e'
  obtain ⟨r, hr, hl⟩:=Option.map_eq_some_iff.mp (run w os)
  have hr:=runT_spec hr
  rw [boot_abs] at hr
  have hl1:(staticsOk (importedModules p.main.body) (boot_heap w.params) r.abs.heap && namesBound p r.abs.heap && gensDone r.abs && laidKept (boot_heap w.params) r.abs.heap) = true:=congrArg Prod.fst hl
  have hl2:(openSeen q loose (importedModules p.main.body) Xt true r.abs, Yf r.abs) = (openGood q loose, Ya w):=congrArg Prod.snd hl
  have z1:((boot_heap w.params).isNs mainGlobals && (Array.mk []:Array GenState).size == 0) = true:=by kernel_rfl
  have z2:(boot_heap w.params).objs.size = 11:=by kernel_rfl
  have z3:(boot_heap w.params).nsMap mainGlobals "__annotations__" = some (.ref 6):=by kernel_rfl
  have r':=topRun_mono (N - M) _ _ _ _ hr
  rw [show M + (N - M) = N by have:=Nat.le_of_ble_eq_true le; omega] at r'
  have t:topFrom treeTable p w N ⟨boot_heap w.params, Array.mk [], boot_drawn, boot_toks, os⟩ = some r.abs:=by
    unfold topFrom
    dsimp only
    rw [z1, z2, z3, r']
    show (match staticsOk (importedModules p.main.body) (boot_heap w.params) r.abs.heap && namesBound p r.abs.heap && gensDone r.abs && laidKept (boot_heap w.params) r.abs.heap with | true=>_ | false=>_) = _
    rw [hl1]
  unfold openEnds
  rw [e]
  show (topFrom treeTable p w N _).map _ = _
  rw [t]
  exact congrArg some hl2
noncomputable abbrev S:=ofString
noncomputable abbrev v (x:String) (t:Tok):Value:=.str (ofString x) t
noncomputable abbrev E (P:Params) (x:String) (t:Tok) (y:Value):DictEntry:=⟨PyData.keyHash P (ofString x), .str (ofString x) t, y⟩
noncomputable abbrev tO (x:Array Value):Obj:={ cls:=.type "tuple", data:=.seq x }
noncomputable abbrev cO (a:String) (b:Tok) (c:String) (d e:Tok) (f1 f2 f3 f4 f5:Int) (g:Addr) (h:Bool) (i:Int) (j:Addr) (k l m:Value) (n:Addr) (o q:Int) (r:Tok):Obj :=
  { cls:=.type "code", data:=.fields #[v a b, v c d, v "/claim/cut.py" e, .int f1 0, .int f2 0, .int f3 0, .int f4 0, .int f5 0, .ref g, .bool h, .int i 0, .ref j, k, l, m, .ref n, .int o 0, .int q 0, v "/claim/cut.py" r] }
noncomputable def nthS:List Stmt → Nat → Stmt
  | [], _=>.Pass ⟨0, 0, 0, 0⟩
  | x :: _, 0=>x
  | _ :: l, n + 1=>nthS l n
noncomputable def top (i:Nat):Stmt:=nthS PySem.Challenge.pw_nz0048_01.main.body i
noncomputable def mth (i j:Nat):Stmt:=match top i with
  | .ClassDef _ _ _ b _ _ _ _ _ _ _=>nthS b j
  | s=>s
noncomputable def fn21:Obj:=by
  refine (?f:top 0 = .FunctionDef ?n ?a ?b ?c ?d ?e ?s ?g ?h ?p → Obj) ?q
  case q=>exact rfl
  exact fun _=>⟨.type "function", none, .func ⟨?n, S "_wall", ?a, .stmts ?b, ?s, 3, [], .none, .none, .none, v "__main__" 164, none, .ref 20, .none, 0⟩, #[]⟩
noncomputable def fn37:Obj:=by
  refine (?f:mth 5 0 = .FunctionDef ?n ?a ?b ?c ?d ?e ?s ?g ?h ?p → Obj) ?q
  case q=>exact rfl
  exact fun _=>⟨.type "function", none, .func ⟨?n, S "Thing.__init__", ?a, .stmts ?b, ?s, 3, [], .none, .none, .none, v "gemrows.things" 194, none, .ref 36, .none, 0⟩, #[]⟩
noncomputable def fn59:Obj:=by
  refine (?f:mth 6 0 = .FunctionDef ?n ?a ?b ?c ?d ?e ?s ?g ?h ?p → Obj) ?q
  case q=>exact rfl
  exact fun _=>⟨.type "function", none, .func ⟨?n, S "Text.__init__", ?a, .stmts ?b, ?s, 3, [], .ref 52, .none, .none, v "gemrows.things" 194, none, .ref 58, .none, 0⟩, #[]⟩
noncomputable def fn79:Obj:=by
  refine (?f:mth 7 0 = .FunctionDef ?n ?a ?b ?c ?d ?e ?s ?g ?h ?p → Obj) ?q
  case q=>exact rfl
  exact fun _=>⟨.type "function", none, .func ⟨?n, S "ListThing.__init__", ?a, .stmts ?b, ?s, 3, [], .ref 72, .none, .none, v "gemrows.things" 194, none, .ref 78, .none, 0⟩, #[]⟩
noncomputable def fn98:Obj:=by
  refine (?f:mth 8 0 = .FunctionDef ?n ?a ?b ?c ?d ?e ?s ?g ?h ?p → Obj) ?q
  case q=>exact rfl
  exact fun _=>⟨.type "function", none, .func ⟨?n, S "TableThing.__init__", ?a, .stmts ?b, ?s, 3, [], .none, .none, .none, v "gemrows.things" 194, none, .ref 97, .none, 0⟩, #[]⟩
noncomputable def fn105:Obj:=by
  refine (?f:mth 8 1 = .FunctionDef ?n ?a ?b ?c ?d ?e ?s ?g ?h ?p → Obj) ?q
  case q=>exact rfl
  exact fun _=>⟨.type "function", none, .func ⟨?n, S "TableThing.put", ?a, .stmts ?b, ?s, 3, [], .none, .none, .none, v "gemrows.things" 194, none, .ref 104, .none, 0⟩, #[]⟩
noncomputable def fn112:Obj:=by
  refine (?f:mth 8 2 = .FunctionDef ?n ?a ?b ?c ?d ?e ?s ?g ?h ?p → Obj) ?q
  case q=>exact rfl
  exact fun _=>⟨.type "function", none, .func ⟨?n, S "TableThing.row", ?a, .stmts ?b, ?s, 3, [], .none, .none, .none, v "gemrows.things" 194, none, .ref 111, .none, 0⟩, #[]⟩
noncomputable def fn117:Obj:=by
  refine (?f:mth 8 3 = .FunctionDef ?n ?a ?b ?c ?d ?e ?s ?g ?h ?p → Obj) ?q
  case q=>exact rfl
  exact fun _=>⟨.type "function", none, .func ⟨?n, S "TableThing.pairs", ?a, .stmts ?b, ?s, 3, [], .none, .none, .none, v "gemrows.things" 194, none, .ref 116, .none, 0⟩, #[]⟩
noncomputable def fn137:Obj:=by
  refine (?f:mth 9 0 = .FunctionDef ?n ?a ?b ?c ?d ?e ?s ?g ?h ?p → Obj) ?q
  case q=>exact rfl
  exact fun _=>⟨.type "function", none, .func ⟨?n, S "RangeThing.__init__", ?a, .stmts ?b, ?s, 3, [], .ref 130, .none, .none, v "gemrows.things" 194, none, .ref 136, .none, 0⟩, #[]⟩
noncomputable def fn158:Obj:=by
  refine (?f:mth 10 0 = .FunctionDef ?n ?a ?b ?c ?d ?e ?s ?g ?h ?p → Obj) ?q
  case q=>exact rfl
  exact fun _=>⟨.type "function", none, .func ⟨?n, S "ProcThing.__init__", ?a, .stmts ?b, ?s, 3, [], .ref 151, .none, .none, v "gemrows.things" 194, none, .ref 157, .none, 0⟩, #[]⟩
noncomputable def fn178:Obj:=by
  refine (?f:mth 11 0 = .FunctionDef ?n ?a ?b ?c ?d ?e ?s ?g ?h ?p → Obj) ?q
  case q=>exact rfl
  exact fun _=>⟨.type "function", none, .func ⟨?n, S "ErrorThing.__init__", ?a, .stmts ?b, ?s, 3, [], .ref 171, .none, .none, v "gemrows.things" 194, none, .ref 177, .none, 0⟩, #[]⟩
noncomputable def fn198:Obj:=by
  refine (?f:mth 12 0 = .FunctionDef ?n ?a ?b ?c ?d ?e ?s ?g ?h ?p → Obj) ?q
  case q=>exact rfl
  exact fun _=>⟨.type "function", none, .func ⟨?n, S "FiberThing.__init__", ?a, .stmts ?b, ?s, 3, [], .ref 191, .none, .none, v "gemrows.things" 194, none, .ref 197, .none, 0⟩, #[]⟩
noncomputable def fn218:Obj:=by
  refine (?f:mth 13 0 = .FunctionDef ?n ?a ?b ?c ?d ?e ?s ?g ?h ?p → Obj) ?q
  case q=>exact rfl
  exact fun _=>⟨.type "function", none, .func ⟨?n, S "ModuleThing.__init__", ?a, .stmts ?b, ?s, 3, [], .ref 211, .none, .none, v "gemrows.things" 194, none, .ref 217, .none, 0⟩, #[]⟩
noncomputable def fn225:Obj:=by
  refine (?f:mth 13 1 = .FunctionDef ?n ?a ?b ?c ?d ?e ?s ?g ?h ?p → Obj) ?q
  case q=>exact rfl
  exact fun _=>⟨.type "function", none, .func ⟨?n, S "ModuleThing.is_own", ?a, .stmts ?b, ?s, 3, [], .none, .none, .none, v "gemrows.things" 194, none, .ref 224, .none, 0⟩, #[]⟩
noncomputable def fn237:Obj:=by
  refine (?f:top 14 = .FunctionDef ?n ?a ?b ?c ?d ?e ?s ?g ?h ?p → Obj) ?q
  case q=>exact rfl
  exact fun _=>⟨.type "function", none, .func ⟨?n, S "sort_of", ?a, .stmts ?b, ?s, 3, [], .none, .none, .none, v "gemrows.things" 194, none, .ref 236, .none, 0⟩, #[]⟩
noncomputable def fn244:Obj:=by
  refine (?f:top 15 = .FunctionDef ?n ?a ?b ?c ?d ?e ?s ?g ?h ?p → Obj) ?q
  case q=>exact rfl
  exact fun _=>⟨.type "function", none, .func ⟨?n, S "same", ?a, .stmts ?b, ?s, 3, [], .none, .none, .none, v "gemrows.things" 194, none, .ref 243, .none, 0⟩, #[]⟩
noncomputable def fn250:Obj:=by
  refine (?f:top 16 = .FunctionDef ?n ?a ?b ?c ?d ?e ?s ?g ?h ?p → Obj) ?q
  case q=>exact rfl
  exact fun _=>⟨.type "function", none, .func ⟨?n, S "code_of", ?a, .stmts ?b, ?s, 3, [], .ref 245, .none, .none, v "gemrows.things" 194, none, .ref 249, .none, 0⟩, #[]⟩
noncomputable def fn257:Obj:=by
  refine (?f:top 17 = .FunctionDef ?n ?a ?b ?c ?d ?e ?s ?g ?h ?p → Obj) ?q
  case q=>exact rfl
  exact fun _=>⟨.type "function", none, .func ⟨?n, S "is_word", ?a, .stmts ?b, ?s, 3, [], .none, .none, .none, v "gemrows.things" 194, none, .ref 256, .none, 0⟩, #[]⟩
noncomputable def fn264:Obj:=by
  refine (?f:top 18 = .FunctionDef ?n ?a ?b ?c ?d ?e ?s ?g ?h ?p → Obj) ?q
  case q=>exact rfl
  exact fun _=>⟨.type "function", none, .func ⟨?n, S "is_label", ?a, .stmts ?b, ?s, 3, [], .none, .none, .none, v "gemrows.things" 194, none, .ref 263, .none, 0⟩, #[]⟩
noncomputable def fn271:Obj:=by
  refine (?f:top 19 = .FunctionDef ?n ?a ?b ?c ?d ?e ?s ?g ?h ?p → Obj) ?q
  case q=>exact rfl
  exact fun _=>⟨.type "function", none, .func ⟨?n, S "is_plain_symbol", ?a, .stmts ?b, ?s, 3, [], .none, .none, .none, v "gemrows.things" 194, none, .ref 270, .none, 0⟩, #[]⟩
noncomputable def fn278:Obj:=by
  refine (?f:top 20 = .FunctionDef ?n ?a ?b ?c ?d ?e ?s ?g ?h ?p → Obj) ?q
  case q=>exact rfl
  exact fun _=>⟨.type "function", none, .func ⟨?n, S "full_name", ?a, .stmts ?b, ?s, 3, [], .none, .none, .none, v "gemrows.things" 194, none, .ref 277, .none, 0⟩, #[]⟩
noncomputable def fn285:Obj:=by
  refine (?f:top 21 = .FunctionDef ?n ?a ?b ?c ?d ?e ?s ?g ?h ?p → Obj) ?q
  case q=>exact rfl
  exact fun _=>⟨.type "function", none, .func ⟨?n, S "show_letter", ?a, .stmts ?b, ?s, 3, [], .none, .none, .none, v "gemrows.things" 194, none, .ref 284, .none, 0⟩, #[]⟩
noncomputable def fn290:Obj:=by
  refine (?f:top 22 = .FunctionDef ?n ?a ?b ?c ?d ?e ?s ?g ?h ?p → Obj) ?q
  case q=>exact rfl
  exact fun _=>⟨.type "function", none, .func ⟨?n, S "show_text", ?a, .stmts ?b, ?s, 3, [], .none, .none, .none, v "gemrows.things" 194, none, .ref 289, .none, 0⟩, #[]⟩
noncomputable def fn297:Obj:=by
  refine (?f:top 23 = .FunctionDef ?n ?a ?b ?c ?d ?e ?s ?g ?h ?p → Obj) ?q
  case q=>exact rfl
  exact fun _=>⟨.type "function", none, .func ⟨?n, S "show_symbol", ?a, .stmts ?b, ?s, 3, [], .none, .none, .none, v "gemrows.things" 194, none, .ref 296, .none, 0⟩, #[]⟩
noncomputable def fn304:Obj:=by
  refine (?f:top 24 = .FunctionDef ?n ?a ?b ?c ?d ?e ?s ?g ?h ?p → Obj) ?q
  case q=>exact rfl
  exact fun _=>⟨.type "function", none, .func ⟨?n, S "show_pair", ?a, .stmts ?b, ?s, 3, [], .none, .none, .none, v "gemrows.things" 194, none, .ref 303, .none, 0⟩, #[]⟩
noncomputable def fn311:Obj:=by
  refine (?f:top 25 = .FunctionDef ?n ?a ?b ?c ?d ?e ?s ?g ?h ?p → Obj) ?q
  case q=>exact rfl
  exact fun _=>⟨.type "function", none, .func ⟨?n, S "show_range", ?a, .stmts ?b, ?s, 3, [], .none, .none, .none, v "gemrows.things" 194, none, .ref 310, .none, 0⟩, #[]⟩
noncomputable def fn316:Obj:=by
  refine (?f:top 26 = .FunctionDef ?n ?a ?b ?c ?d ?e ?s ?g ?h ?p → Obj) ?q
  case q=>exact rfl
  exact fun _=>⟨.type "function", none, .func ⟨?n, S "show_thing", ?a, .stmts ?b, ?s, 3, [], .none, .none, .none, v "gemrows.things" 194, none, .ref 315, .none, 0⟩, #[]⟩
noncomputable def fn323:Obj:=by
  refine (?f:top 27 = .FunctionDef ?n ?a ?b ?c ?d ?e ?s ?g ?h ?p → Obj) ?q
  case q=>exact rfl
  exact fun _=>⟨.type "function", none, .func ⟨?n, S "show_error", ?a, .stmts ?b, ?s, 3, [], .none, .none, .none, v "gemrows.things" 194, none, .ref 322, .none, 0⟩, #[]⟩
noncomputable def fn331:Obj:=by
  refine (?f:top 28 = .FunctionDef ?n ?a ?b ?c ?d ?e ?s ?g ?h ?p → Obj) ?q
  case q=>exact rfl
  exact fun _=>⟨.type "function", none, .func ⟨?n, S "show", ?a, .stmts ?b, ?s, 3, [], .ref 324, .none, .none, v "gemrows.things" 194, none, .ref 330, .none, 0⟩, #[]⟩
noncomputable def fn338:Obj:=by
  refine (?f:top 30 = .FunctionDef ?n ?a ?b ?c ?d ?e ?s ?g ?h ?p → Obj) ?q
  case q=>exact rfl
  exact fun _=>⟨.type "function", none, .func ⟨?n, S "object_same", ?a, .stmts ?b, ?s, 3, [], .none, .none, .none, v "gemrows.core" 701, none, .ref 337, .none, 0⟩, #[]⟩
noncomputable def fn345:Obj:=by
  refine (?f:top 31 = .FunctionDef ?n ?a ?b ?c ?d ?e ?s ?g ?h ?p → Obj) ?q
  case q=>exact rfl
  exact fun _=>⟨.type "function", none, .func ⟨?n, S "object_alike", ?a, .stmts ?b, ?s, 3, [], .none, .none, .none, v "gemrows.core" 701, none, .ref 344, .none, 0⟩, #[]⟩
noncomputable def fn352:Obj:=by
  refine (?f:top 32 = .FunctionDef ?n ?a ?b ?c ?d ?e ?s ?g ?h ?p → Obj) ?q
  case q=>exact rfl
  exact fun _=>⟨.type "function", none, .func ⟨?n, S "hash_of", ?a, .stmts ?b, ?s, 3, [], .none, .none, .none, v "gemrows.core" 701, none, .ref 351, .none, 0⟩, #[]⟩
noncomputable def fn359:Obj:=by
  refine (?f:top 33 = .FunctionDef ?n ?a ?b ?c ?d ?e ?s ?g ?h ?p → Obj) ?q
  case q=>exact rfl
  exact fun _=>⟨.type "function", none, .func ⟨?n, S "object_hash", ?a, .stmts ?b, ?s, 3, [], .none, .none, .none, v "gemrows.core" 701, none, .ref 358, .none, 0⟩, #[]⟩
noncomputable def fn374:Obj:=by
  refine (?f:mth 35 0 = .FunctionDef ?n ?a ?b ?c ?d ?e ?s ?g ?h ?p → Obj) ?q
  case q=>exact rfl
  exact fun _=>⟨.type "function", none, .func ⟨?n, S "GemError.__init__", ?a, .stmts ?b, ?s, 3, [], .ref 367, .none, .none, v "gemrows.errors" 742, none, .ref 373, .none, 0⟩, #[]⟩
noncomputable def fn394:Obj:=by
  refine (?f:mth 36 0 = .FunctionDef ?n ?a ?b ?c ?d ?e ?s ?g ?h ?p → Obj) ?q
  case q=>exact rfl
  exact fun _=>⟨.type "function", none, .func ⟨?n, S "Raised.__init__", ?a, .stmts ?b, ?s, 3, [], .none, .none, .none, v "gemrows.errors" 742, none, .ref 393, .none, 0⟩, #[]⟩
noncomputable def fn406:Obj:=by
  refine (?f:top 38 = .FunctionDef ?n ?a ?b ?c ?d ?e ?s ?g ?h ?p → Obj) ?q
  case q=>exact rfl
  exact fun _=>⟨.type "function", none, .func ⟨?n, S "raise_version", ?a, .stmts ?b, ?s, 3, [], .none, .none, .none, v "gemrows.lines" 797, none, .ref 405, .none, 0⟩, #[]⟩
noncomputable def fn413:Obj:=by
  refine (?f:top 39 = .FunctionDef ?n ?a ?b ?c ?d ?e ?s ?g ?h ?p → Obj) ?q
  case q=>exact rfl
  exact fun _=>⟨.type "function", none, .func ⟨?n, S "own_module", ?a, .stmts ?b, ?s, 3, [], .none, .none, .none, v "gemrows.lines" 797, none, .ref 412, .none, 0⟩, #[]⟩
noncomputable def fn441:Obj:=by
  refine (?f:mth 45 0 = .FunctionDef ?n ?a ?b ?c ?d ?e ?s ?g ?h ?p → Obj) ?q
  case q=>exact rfl
  exact fun _=>⟨.type "function", none, .func ⟨?n, S "World.__init__", ?a, .stmts ?b, ?s, 3, [], .ref 434, .none, .none, v "gemrows.world" 815, none, .ref 440, .none, 0⟩, #[]⟩
noncomputable def fn448:Obj:=by
  refine (?f:mth 45 1 = .FunctionDef ?n ?a ?b ?c ?d ?e ?s ?g ?h ?p → Obj) ?q
  case q=>exact rfl
  exact fun _=>⟨.type "function", none, .func ⟨?n, S "World.tick", ?a, .stmts ?b, ?s, 3, [], .none, .none, .none, v "gemrows.world" 815, none, .ref 447, .none, 0⟩, #[]⟩
noncomputable def fn455:Obj:=by
  refine (?f:mth 45 2 = .FunctionDef ?n ?a ?b ?c ?d ?e ?s ?g ?h ?p → Obj) ?q
  case q=>exact rfl
  exact fun _=>⟨.type "function", none, .func ⟨?n, S "World.write", ?a, .stmts ?b, ?s, 3, [], .none, .none, .none, v "gemrows.world" 815, none, .ref 454, .none, 0⟩, #[]⟩
noncomputable def fn462:Obj:=by
  refine (?f:mth 45 3 = .FunctionDef ?n ?a ?b ?c ?d ?e ?s ?g ?h ?p → Obj) ?q
  case q=>exact rfl
  exact fun _=>⟨.type "function", none, .func ⟨?n, S "World.number", ?a, .stmts ?b, ?s, 3, [], .none, .none, .none, v "gemrows.world" 815, none, .ref 461, .none, 0⟩, #[]⟩
noncomputable def fn469:Obj:=by
  refine (?f:mth 45 4 = .FunctionDef ?n ?a ?b ?c ?d ?e ?s ?g ?h ?p → Obj) ?q
  case q=>exact rfl
  exact fun _=>⟨.type "function", none, .func ⟨?n, S "World.next_ident", ?a, .stmts ?b, ?s, 3, [], .none, .none, .none, v "gemrows.world" 815, none, .ref 468, .none, 0⟩, #[]⟩
noncomputable def fn476:Obj:=by
  refine (?f:mth 45 5 = .FunctionDef ?n ?a ?b ?c ?d ?e ?s ?g ?h ?p → Obj) ?q
  case q=>exact rfl
  exact fun _=>⟨.type "function", none, .func ⟨?n, S "World.ident", ?a, .stmts ?b, ?s, 3, [], .none, .none, .none, v "gemrows.world" 815, none, .ref 475, .none, 0⟩, #[]⟩
noncomputable def fn483:Obj:=by
  refine (?f:mth 45 6 = .FunctionDef ?n ?a ?b ?c ?d ?e ?s ?g ?h ?p → Obj) ?q
  case q=>exact rfl
  exact fun _=>⟨.type "function", none, .func ⟨?n, S "World.builtin", ?a, .stmts ?b, ?s, 3, [], .none, .none, .none, v "gemrows.world" 815, none, .ref 482, .none, 0⟩, #[]⟩
noncomputable def fn488:Obj:=by
  refine (?f:mth 45 7 = .FunctionDef ?n ?a ?b ?c ?d ?e ?s ?g ?h ?p → Obj) ?q
  case q=>exact rfl
  exact fun _=>⟨.type "function", none, .func ⟨?n, S "World.make_builtin", ?a, .stmts ?b, ?s, 3, [], .none, .none, .none, v "gemrows.world" 815, none, .ref 487, .none, 0⟩, #[]⟩
noncomputable def fn495:Obj:=by
  refine (?f:mth 45 8 = .FunctionDef ?n ?a ?b ?c ?d ?e ?s ?g ?h ?p → Obj) ?q
  case q=>exact rfl
  exact fun _=>⟨.type "function", none, .func ⟨?n, S "World.give_own", ?a, .stmts ?b, ?s, 3, [], .none, .none, .none, v "gemrows.world" 815, none, .ref 494, .none, 0⟩, #[]⟩
noncomputable def fn503:Obj:=by
  refine (?f:mth 45 9 = .FunctionDef ?n ?a ?b ?c ?d ?e ?s ?g ?h ?p → Obj) ?q
  case q=>exact rfl
  exact fun _=>⟨.type "function", none, .func ⟨?n, S "World.new_module", ?a, .stmts ?b, ?s, 3, [], .ref 496, .none, .none, v "gemrows.world" 815, none, .ref 502, .none, 0⟩, #[]⟩
noncomputable def fn510:Obj:=by
  refine (?f:mth 45 10 = .FunctionDef ?n ?a ?b ?c ?d ?e ?s ?g ?h ?p → Obj) ?q
  case q=>exact rfl
  exact fun _=>⟨.type "function", none, .func ⟨?n, S "World.class_of", ?a, .stmts ?b, ?s, 3, [], .none, .none, .none, v "gemrows.world" 815, none, .ref 509, .none, 0⟩, #[]⟩
noncomputable def fn517:Obj:=by
  refine (?f:mth 45 11 = .FunctionDef ?n ?a ?b ?c ?d ?e ?s ?g ?h ?p → Obj) ?q
  case q=>exact rfl
  exact fun _=>⟨.type "function", none, .func ⟨?n, S "World.own_of", ?a, .stmts ?b, ?s, 3, [], .none, .none, .none, v "gemrows.world" 815, none, .ref 516, .none, 0⟩, #[]⟩
noncomputable def fn524:Obj:=by
  refine (?f:mth 45 12 = .FunctionDef ?n ?a ?b ?c ?d ?e ?s ?g ?h ?p → Obj) ?q
  case q=>exact rfl
  exact fun _=>⟨.type "function", none, .func ⟨?n, S "World.own_behind", ?a, .stmts ?b, ?s, 3, [], .none, .none, .none, v "gemrows.world" 815, none, .ref 523, .none, 0⟩, #[]⟩
noncomputable def fn531:Obj:=by
  refine (?f:mth 45 13 = .FunctionDef ?n ?a ?b ?c ?d ?e ?s ?g ?h ?p → Obj) ?q
  case q=>exact rfl
  exact fun _=>⟨.type "function", none, .func ⟨?n, S "World.root_of", ?a, .stmts ?b, ?s, 3, [], .none, .none, .none, v "gemrows.world" 815, none, .ref 530, .none, 0⟩, #[]⟩
noncomputable def fn538:Obj:=by
  refine (?f:mth 45 14 = .FunctionDef ?n ?a ?b ?c ?d ?e ?s ?g ?h ?p → Obj) ?q
  case q=>exact rfl
  exact fun _=>⟨.type "function", none, .func ⟨?n, S "World.real_class", ?a, .stmts ?b, ?s, 3, [], .none, .none, .none, v "gemrows.world" 815, none, .ref 537, .none, 0⟩, #[]⟩
noncomputable def fn545:Obj:=by
  refine (?f:mth 45 15 = .FunctionDef ?n ?a ?b ?c ?d ?e ?s ?g ?h ?p → Obj) ?q
  case q=>exact rfl
  exact fun _=>⟨.type "function", none, .func ⟨?n, S "World.text", ?a, .stmts ?b, ?s, 3, [], .none, .none, .none, v "gemrows.world" 815, none, .ref 544, .none, 0⟩, #[]⟩
noncomputable def fn552:Obj:=by
  refine (?f:mth 45 16 = .FunctionDef ?n ?a ?b ?c ?d ?e ?s ?g ?h ?p → Obj) ?q
  case q=>exact rfl
  exact fun _=>⟨.type "function", none, .func ⟨?n, S "World.list_of", ?a, .stmts ?b, ?s, 3, [], .none, .none, .none, v "gemrows.world" 815, none, .ref 551, .none, 0⟩, #[]⟩
noncomputable def fn559:Obj:=by
  refine (?f:mth 45 17 = .FunctionDef ?n ?a ?b ?c ?d ?e ?s ?g ?h ?p → Obj) ?q
  case q=>exact rfl
  exact fun _=>⟨.type "function", none, .func ⟨?n, S "World.table_of", ?a, .stmts ?b, ?s, 3, [], .none, .none, .none, v "gemrows.world" 815, none, .ref 558, .none, 0⟩, #[]⟩
noncomputable def fn566:Obj:=by
  refine (?f:mth 45 18 = .FunctionDef ?n ?a ?b ?c ?d ?e ?s ?g ?h ?p → Obj) ?q
  case q=>exact rfl
  exact fun _=>⟨.type "function", none, .func ⟨?n, S "World.key_of", ?a, .stmts ?b, ?s, 3, [], .none, .none, .none, v "gemrows.world" 815, none, .ref 565, .none, 0⟩, #[]⟩
noncomputable def fn573:Obj:=by
  refine (?f:mth 45 19 = .FunctionDef ?n ?a ?b ?c ?d ?e ?s ?g ?h ?p → Obj) ?q
  case q=>exact rfl
  exact fun _=>⟨.type "function", none, .func ⟨?n, S "World.range_of", ?a, .stmts ?b, ?s, 3, [], .none, .none, .none, v "gemrows.world" 815, none, .ref 572, .none, 0⟩, #[]⟩
noncomputable def fn580:Obj:=by
  refine (?f:mth 45 20 = .FunctionDef ?n ?a ?b ?c ?d ?e ?s ?g ?h ?p → Obj) ?q
  case q=>exact rfl
  exact fun _=>⟨.type "function", none, .func ⟨?n, S "World.proc", ?a, .stmts ?b, ?s, 3, [], .none, .none, .none, v "gemrows.world" 815, none, .ref 579, .none, 0⟩, #[]⟩
noncomputable def fn587:Obj:=by
  refine (?f:mth 45 21 = .FunctionDef ?n ?a ?b ?c ?d ?e ?s ?g ?h ?p → Obj) ?q
  case q=>exact rfl
  exact fun _=>⟨.type "function", none, .func ⟨?n, S "World.thing", ?a, .stmts ?b, ?s, 3, [], .none, .none, .none, v "gemrows.world" 815, none, .ref 586, .none, 0⟩, #[]⟩
noncomputable def fn594:Obj:=by
  refine (?f:mth 45 22 = .FunctionDef ?n ?a ?b ?c ?d ?e ?s ?g ?h ?p → Obj) ?q
  case q=>exact rfl
  exact fun _=>⟨.type "function", none, .func ⟨?n, S "World.is_error_class", ?a, .stmts ?b, ?s, 3, [], .none, .none, .none, v "gemrows.world" 815, none, .ref 593, .none, 0⟩, #[]⟩
noncomputable def fn601:Obj:=by
  refine (?f:mth 45 23 = .FunctionDef ?n ?a ?b ?c ?d ?e ?s ?g ?h ?p → Obj) ?q
  case q=>exact rfl
  exact fun _=>⟨.type "function", none, .func ⟨?n, S "World.spread", ?a, .stmts ?b, ?s, 3, [], .none, .none, .none, v "gemrows.world" 815, none, .ref 600, .none, 0⟩, #[]⟩
noncomputable def fn608:Obj:=by
  refine (?f:mth 45 24 = .FunctionDef ?n ?a ?b ?c ?d ?e ?s ?g ?h ?p → Obj) ?q
  case q=>exact rfl
  exact fun _=>⟨.type "function", none, .func ⟨?n, S "World.error", ?a, .stmts ?b, ?s, 3, [], .none, .none, .none, v "gemrows.world" 815, none, .ref 607, .none, 0⟩, #[]⟩
noncomputable def fn615:Obj:=by
  refine (?f:mth 45 25 = .FunctionDef ?n ?a ?b ?c ?d ?e ?s ?g ?h ?p → Obj) ?q
  case q=>exact rfl
  exact fun _=>⟨.type "function", none, .func ⟨?n, S "World.fail", ?a, .stmts ?b, ?s, 3, [], .none, .none, .none, v "gemrows.world" 815, none, .ref 614, .none, 0⟩, #[]⟩
noncomputable def fn622:Obj:=by
  refine (?f:mth 45 26 = .FunctionDef ?n ?a ?b ?c ?d ?e ?s ?g ?h ?p → Obj) ?q
  case q=>exact rfl
  exact fun _=>⟨.type "function", none, .func ⟨?n, S "World.need_thawed", ?a, .stmts ?b, ?s, 3, [], .none, .none, .none, v "gemrows.world" 815, none, .ref 621, .none, 0⟩, #[]⟩
noncomputable def fn629:Obj:=by
  refine (?f:mth 45 27 = .FunctionDef ?n ?a ?b ?c ?d ?e ?s ?g ?h ?p → Obj) ?q
  case q=>exact rfl
  exact fun _=>⟨.type "function", none, .func ⟨?n, S "World.set_field", ?a, .stmts ?b, ?s, 3, [], .none, .none, .none, v "gemrows.world" 815, none, .ref 628, .none, 0⟩, #[]⟩
noncomputable def fn636:Obj:=by
  refine (?f:mth 45 28 = .FunctionDef ?n ?a ?b ?c ?d ?e ?s ?g ?h ?p → Obj) ?q
  case q=>exact rfl
  exact fun _=>⟨.type "function", none, .func ⟨?n, S "World.describe", ?a, .stmts ?b, ?s, 3, [], .none, .none, .none, v "gemrows.world" 815, none, .ref 635, .none, 0⟩, #[]⟩
noncomputable def fn643:Obj:=by
  refine (?f:mth 45 29 = .FunctionDef ?n ?a ?b ?c ?d ?e ?s ?g ?h ?p → Obj) ?q
  case q=>exact rfl
  exact fun _=>⟨.type "function", none, .func ⟨?n, S "World.own_constant", ?a, .stmts ?b, ?s, 3, [], .none, .none, .none, v "gemrows.world" 815, none, .ref 642, .none, 0⟩, #[]⟩
noncomputable def fn650:Obj:=by
  refine (?f:mth 45 30 = .FunctionDef ?n ?a ?b ?c ?d ?e ?s ?g ?h ?p → Obj) ?q
  case q=>exact rfl
  exact fun _=>⟨.type "function", none, .func ⟨?n, S "World.find_constant", ?a, .stmts ?b, ?s, 3, [], .none, .none, .none, v "gemrows.world" 815, none, .ref 649, .none, 0⟩, #[]⟩
noncomputable def fn657:Obj:=by
  refine (?f:mth 45 31 = .FunctionDef ?n ?a ?b ?c ?d ?e ?s ?g ?h ?p → Obj) ?q
  case q=>exact rfl
  exact fun _=>⟨.type "function", none, .func ⟨?n, S "World.constant", ?a, .stmts ?b, ?s, 3, [], .none, .none, .none, v "gemrows.world" 815, none, .ref 656, .none, 0⟩, #[]⟩
noncomputable def fn664:Obj:=by
  refine (?f:mth 45 32 = .FunctionDef ?n ?a ?b ?c ?d ?e ?s ?g ?h ?p → Obj) ?q
  case q=>exact rfl
  exact fun _=>⟨.type "function", none, .func ⟨?n, S "World.find_in", ?a, .stmts ?b, ?s, 3, [], .none, .none, .none, v "gemrows.world" 815, none, .ref 663, .none, 0⟩, #[]⟩
noncomputable def fn671:Obj:=by
  refine (?f:mth 45 33 = .FunctionDef ?n ?a ?b ?c ?d ?e ?s ?g ?h ?p → Obj) ?q
  case q=>exact rfl
  exact fun _=>⟨.type "function", none, .func ⟨?n, S "World.constant_in", ?a, .stmts ?b, ?s, 3, [], .none, .none, .none, v "gemrows.world" 815, none, .ref 670, .none, 0⟩, #[]⟩
noncomputable def fn678:Obj:=by
  refine (?f:mth 45 34 = .FunctionDef ?n ?a ?b ?c ?d ?e ?s ?g ?h ?p → Obj) ?q
  case q=>exact rfl
  exact fun _=>⟨.type "function", none, .func ⟨?n, S "World.set_constant", ?a, .stmts ?b, ?s, 3, [], .none, .none, .none, v "gemrows.world" 815, none, .ref 677, .none, 0⟩, #[]⟩
noncomputable def fn692:Obj:=by
  refine (?f:top 47 = .FunctionDef ?n ?a ?b ?c ?d ?e ?s ?g ?h ?p → Obj) ?q
  case q=>exact rfl
  exact fun _=>⟨.type "function", none, .func ⟨?n, S "_law_box", ?a, .stmts ?b, ?s, 3, [], .none, .none, .none, v "law_nz0048_01" 1317, none, .ref 691, .none, 0⟩, #[]⟩
noncomputable def fn699:Obj:=by
  refine (?f:top 48 = .FunctionDef ?n ?a ?b ?c ?d ?e ?s ?g ?h ?p → Obj) ?q
  case q=>exact rfl
  exact fun _=>⟨.type "function", none, .func ⟨?n, S "_law_take", ?a, .stmts ?b, ?s, 3, [], .none, .none, .none, v "law_nz0048_01" 1317, none, .ref 698, .none, 0⟩, #[]⟩
noncomputable def fn704:Obj:=by
  refine (?f:top 49 = .FunctionDef ?n ?a ?b ?c ?d ?e ?s ?g ?h ?p → Obj) ?q
  case q=>exact rfl
  exact fun _=>⟨.type "function", none, .func ⟨?n, S "_law_plan", ?a, .stmts ?b, ?s, 3, [], .none, .none, .none, v "law_nz0048_01" 1317, none, .ref 703, .none, 0⟩, #[]⟩
noncomputable def fn709:Obj:=by
  refine (?f:top 50 = .FunctionDef ?n ?a ?b ?c ?d ?e ?s ?g ?h ?p → Obj) ?q
  case q=>exact rfl
  exact fun _=>⟨.type "function", none, .func ⟨?n, S "_law_made", ?a, .stmts ?b, ?s, 3, [], .none, .none, .none, v "law_nz0048_01" 1317, none, .ref 708, .none, 0⟩, #[]⟩
noncomputable def fn716:Obj:=by
  refine (?f:top 51 = .FunctionDef ?n ?a ?b ?c ?d ?e ?s ?g ?h ?p → Obj) ?q
  case q=>exact rfl
  exact fun _=>⟨.type "function", none, .func ⟨?n, S "_law_nested", ?a, .stmts ?b, ?s, 3, [], .none, .none, .none, v "law_nz0048_01" 1317, none, .ref 715, .none, 0⟩, #[]⟩
noncomputable def fn723:Obj:=by
  refine (?f:top 52 = .FunctionDef ?n ?a ?b ?c ?d ?e ?s ?g ?h ?p → Obj) ?q
  case q=>exact rfl
  exact fun _=>⟨.type "function", none, .func ⟨?n, S "_law_pair_right", ?a, .stmts ?b, ?s, 3, [], .none, .none, .none, v "law_nz0048_01" 1317, none, .ref 722, .none, 0⟩, #[]⟩
noncomputable def fn728:Obj:=by
  refine (?f:top 53 = .FunctionDef ?n ?a ?b ?c ?d ?e ?s ?g ?h ?p → Obj) ?q
  case q=>exact rfl
  exact fun _=>⟨.type "function", none, .func ⟨?n, S "_law_table_right", ?a, .stmts ?b, ?s, 3, [], .none, .none, .none, v "law_nz0048_01" 1317, none, .ref 727, .none, 0⟩, #[]⟩
noncomputable def fn735:Obj:=by
  refine (?f:top 54 = .FunctionDef ?n ?a ?b ?c ?d ?e ?s ?g ?h ?p → Obj) ?q
  case q=>exact rfl
  exact fun _=>⟨.type "function", none, .func ⟨?n, S "_law_deep_right", ?a, .stmts ?b, ?s, 3, [], .none, .none, .none, v "law_nz0048_01" 1317, none, .ref 734, .none, 0⟩, #[]⟩
noncomputable def fn740:Obj:=by
  refine (?f:top 55 = .FunctionDef ?n ?a ?b ?c ?d ?e ?s ?g ?h ?p → Obj) ?q
  case q=>exact rfl
  exact fun _=>⟨.type "function", none, .func ⟨?n, S "law", ?a, .stmts ?b, ?s, 3, [], .none, .none, .none, v "law_nz0048_01" 1317, none, .ref 739, .none, 0⟩, #[]⟩
noncomputable def K9:Params → Frag:=fun P =>
(nat_lit 2, { cls:=.none, data:=.dict #[] }) ::
(nat_lit 3, { cls:=.type "dict", data:=.dict #[E P "__name__" 165 (v "law_nz0048_01" 1317), E P "__doc__" 166 (.none), E P "__package__" 167 (.none), E P "__loader__" 168 (.builtin "__main__.__loader__#opaque"), E P "__spec__" 169 (.none), E P "__annotations__" 170 (.ref 6), E P "__builtins__" 171 (.ref 4), E P "__file__" 173 (v "/claim/cut.py" 172), E P "__cached__" 174 (.none), E P "_wall" 193 (.ref 21), E P "SIMPLE_ESCAPES" 229 (.ref 22), E P "OPERATORS" 257 (.ref 23), E P "DEEPEST_KEY" 259 (.int 12 258), E P "Thing" 294 (.ref 40), E P "Text" 322 (.ref 62), E P "ListThing" 349 (.ref 82), E P "TableThing" 401 (.ref 120), E P "RangeThing" 432 (.ref 140), E P "ProcThing" 475 (.ref 161), E P "ErrorThing" 503 (.ref 181), E P "FiberThing" 533 (.ref 201), E P "ModuleThing" 580 (.ref 228), E P "sort_of" 587 (.ref 237), E P "same" 596 (.ref 244), E P "code_of" 602 (.ref 250), E P "is_word" 610 (.ref 257), E P "is_label" 617 (.ref 264), E P "is_plain_symbol" 624 (.ref 271), E P "full_name" 631 (.ref 278), E P "show_letter" 641 (.ref 285), E P "show_text" 647 (.ref 290), E P "show_symbol" 654 (.ref 297), E P "show_pair" 663 (.ref 304), E P "show_range" 673 (.ref 311), E P "show_thing" 679 (.ref 316), E P "show_error" 690 (.ref 323), E P "show" 700 (.ref 331), E P "object_same" 711 (.ref 338), E P "object_alike" 720 (.ref 345), E P "hash_of" 732 (.ref 352), E P "object_hash" 741 (.ref 359), E P "GemError" 771 (.ref 377), E P "Raised" 796 (.ref 397), E P "raise_version" 805 (.ref 406), E P "own_module" 814 (.ref 413), E P "MODULES" 820 (.ref 414), E P "BUILTINS" 937 (.ref 415), E P "MIXED" 959 (.ref 418), E P "UNMADE" 966 (.ref 426), E P "World" 1316 (.ref 681), E P "_law_box" 1327 (.ref 692), E P "_law_take" 1336 (.ref 699), E P "_law_plan" 1342 (.ref 704), E P "_law_made" 1348 (.ref 709), E P "_law_nested" 1359 (.ref 716), E P "_law_pair_right" 1369 (.ref 723), E P "_law_table_right" 1375 (.ref 728), E P "_law_deep_right" 1388 (.ref 735), E P "law" 1394 (.ref 740)] 59 }) ::
(nat_lit 15, tO #[]) ::
(nat_lit 17, tO #[v "k" 190]) ::
(nat_lit 18, tO #[]) ::
(nat_lit 20, cO "_wall" 187 "_wall" 188 189 1 1 0 0 3 15 true 181 16 .none (.ref 17) (.ref 18) 19 191 1 192) ::
(nat_lit 21, fn21) ::
(nat_lit 22, { cls:=.type "dict", data:=.dict #[E P "\\" 196 (v "\\\\" 197), E P "\"" 198 (v "\\\"" 199), E P "\n" 200 (v "\\n" 201), E P "\t" 202 (v "\\t" 203), E P "\x0d" 204 (v "\\r" 205), E P "\x1b" 206 (v "\\e" 207), E P "\x07" 208 (v "\\a" 209), E P "\x08" 210 (v "\\b" 211), E P "\x0b" 212 (v "\\v" 213), E P "\x0c" 214 (v "\\f" 215), E P "\x7f" 216 (v "\\x7F" 217)] 11 }) ::
(nat_lit 23, tO #[v "+" 230, v "-" 231, v "*" 232, v "/" 233, v "%" 234, v "**" 235, v "==" 236, v "!=" 237, v "<" 238, v ">" 239, v "<=" 240, v ">=" 241, v "<=>" 242, v "===" 243, v "[]" 244, v "[]=" 245, v "<<" 246, v ">>" 247, v "!" 248, v "~" 249, v "+@" 250, v "-@" 251, v "&" 252, v "|" 253, v "^" 254, v "=~" 255, v "!~" 256]) ::
(nat_lit 31, tO #[]) ::
(nat_lit 33, tO #[v "self" 275, v "number" 276, v "owner" 277]) ::
(nat_lit 34, tO #[]) ::
(nat_lit 36, cO "__init__" 272 "Thing.__init__" 273 274 10 3 0 0 3 31 true 181 32 .none (.ref 33) (.ref 34) 35 278 10 279) ::
(nat_lit 37, fn37) ::
(nat_lit 38, tO #[v "fields" 281, v "frozen" 282, v "ident" 283, v "number" 284, v "own" 285, v "owner" 286]) ::
(nat_lit 39, { cls:=.type "dict", data:=.dict #[E P "__module__" 267 (v "gemrows.things" 194), E P "__firstlineno__" 271 (.int 8 270), E P "__init__" 280 (.ref 37), E P "__static_attributes__" 287 (.ref 38), E P "__dict__" 289 (.ref 41), E P "__weakref__" 291 (.ref 42), E P "__doc__" 292 (.none)] 4 }) ::
(nat_lit 40, { cls:=.type "type", data:=.cls { name:=S "Thing", bases:=[.type "object"], mro:=[.ref 40, .type "object"], ns:=39, qualname:=S "Thing", subclasses:=[.ref 62, .ref 82, .ref 120, .ref 140, .ref 161, .ref 181, .ref 201, .ref 228] }, slots:=#[none, none, some (v "Thing" 260), some (v "Thing" 268), some (.builtin "object.__new__"), some (.bool true)] }) ::
(nat_lit 41, { cls:=.type "getset_descriptor", data:=.fields #[v "__dict__" 288, .ref 40, .builtin "function.__dict__", .builtin "function.__dict__#set"] }) ::
(nat_lit 42, { cls:=.type "getset_descriptor", data:=.fields #[v "__weakref__" 290, .ref 40, .builtin "ExceptionGroup.__weakref__", .none] }) ::
(nat_lit 45, tO #[.ref 40]) ::
(nat_lit 52, tO #[v "" 307]) ::
(nat_lit 53, tO #[]) ::
(nat_lit 55, tO #[v "self" 311, v "number" 312, v "owner" 313, v "text" 314]) ::
(nat_lit 56, tO #[]) ::
(nat_lit 58, cO "__init__" 308 "Text.__init__" 309 310 19 4 0 0 3 53 true 181 54 .none (.ref 55) (.ref 56) 57 315 19 316) ::
(nat_lit 59, fn59) ::
(nat_lit 60, tO #[v "text" 318]) ::
(nat_lit 61, { cls:=.type "dict", data:=.dict #[E P "__module__" 302 (v "gemrows.things" 194), E P "__firstlineno__" 306 (.int 17 305), E P "__init__" 317 (.ref 59), E P "__static_attributes__" 319 (.ref 60), E P "__doc__" 320 (.none)] 2 }) ::
(nat_lit 62, { cls:=.type "type", data:=.cls { name:=S "Text", bases:=[.ref 40], mro:=[.ref 62, .ref 40, .type "object"], ns:=61, qualname:=S "Text" }, slots:=#[some (.ref 45), none, some (v "Text" 295), some (v "Text" 303), some (.builtin "object.__new__"), some (.bool true)] }) ::
(nat_lit 65, tO #[.ref 40]) ::
(nat_lit 72, tO #[.none]) ::
(nat_lit 73, tO #[]) ::
(nat_lit 75, tO #[v "self" 338, v "number" 339, v "owner" 340, v "items" 341]) ::
(nat_lit 76, tO #[]) ::
(nat_lit 78, cO "__init__" 335 "ListThing.__init__" 336 337 24 4 0 0 3 73 true 181 74 .none (.ref 75) (.ref 76) 77 342 24 343) ::
(nat_lit 79, fn79) ::
(nat_lit 80, tO #[v "items" 345]) ::
(nat_lit 81, { cls:=.type "dict", data:=.dict #[E P "__module__" 330 (v "gemrows.things" 194), E P "__firstlineno__" 334 (.int 22 333), E P "__init__" 344 (.ref 79), E P "__static_attributes__" 346 (.ref 80), E P "__doc__" 347 (.none)] 2 }) ::
(nat_lit 82, { cls:=.type "type", data:=.cls { name:=S "ListThing", bases:=[.ref 40], mro:=[.ref 82, .ref 40, .type "object"], ns:=81, qualname:=S "ListThing" }, slots:=#[some (.ref 65), none, some (v "ListThing" 323), some (v "ListThing" 331), some (.builtin "object.__new__"), some (.bool true)] }) ::
(nat_lit 85, tO #[.ref 40]) ::
(nat_lit 92, tO #[]) ::
(nat_lit 94, tO #[v "self" 365, v "number" 366, v "owner" 367]) ::
(nat_lit 95, tO #[]) ::
(nat_lit 97, cO "__init__" 362 "TableThing.__init__" 363 364 29 3 0 0 3 92 true 181 93 .none (.ref 94) (.ref 95) 96 368 29 369) ::
(nat_lit 98, fn98) ::
(nat_lit 99, tO #[]) ::
(nat_lit 101, tO #[v "self" 374, v "key" 375, v "value" 376, v "code" 377, v "row" 378]) ::
(nat_lit 102, tO #[]) ::
(nat_lit 104, cO "put" 371 "TableThing.put" 372 373 34 3 0 0 3 99 true 181 100 .none (.ref 101) (.ref 102) 103 379 34 380) ::
(nat_lit 105, fn105) ::
(nat_lit 106, tO #[]) ::
(nat_lit 108, tO #[v "self" 385, v "key" 386]) ::
(nat_lit 109, tO #[]) ::
(nat_lit 111, cO "row" 382 "TableThing.row" 383 384 42 2 0 0 3 106 true 181 107 .none (.ref 108) (.ref 109) 110 387 42 388) ::
(nat_lit 112, fn112) ::
(nat_lit 113, tO #[]) ::
(nat_lit 116, cO "pairs" 390 "TableThing.pairs" 391 392 45 1 0 0 3 113 true 181 114 .none .none .none 115 393 45 394) ::
(nat_lit 117, fn117) ::
(nat_lit 118, tO #[v "rows" 396, v "spare" 397]) ::
(nat_lit 119, { cls:=.type "dict", data:=.dict #[E P "__module__" 357 (v "gemrows.things" 194), E P "__firstlineno__" 361 (.int 27 360), E P "__init__" 370 (.ref 98), E P "put" 381 (.ref 105), E P "row" 389 (.ref 112), E P "pairs" 395 (.ref 117), E P "__static_attributes__" 398 (.ref 118), E P "__doc__" 399 (.none)] 2 }) ::
(nat_lit 120, { cls:=.type "type", data:=.cls { name:=S "TableThing", bases:=[.ref 40], mro:=[.ref 120, .ref 40, .type "object"], ns:=119, qualname:=S "TableThing" }, slots:=#[some (.ref 85), none, some (v "TableThing" 350), some (v "TableThing" 358), some (.builtin "object.__new__"), some (.bool true)] }) ::
(nat_lit 123, tO #[.ref 40]) ::
(nat_lit 130, tO #[.none, .none, .bool false]) ::
(nat_lit 131, tO #[]) ::
(nat_lit 133, tO #[v "self" 417, v "number" 418, v "owner" 419, v "first" 420, v "last" 421, v "is_open" 422]) ::
(nat_lit 134, tO #[]) ::
(nat_lit 136, cO "__init__" 414 "RangeThing.__init__" 415 416 49 6 0 0 3 131 true 181 132 .none (.ref 133) (.ref 134) 135 423 49 424) ::
(nat_lit 137, fn137) ::
(nat_lit 138, tO #[v "first" 426, v "last" 427, v "open" 428]) ::
(nat_lit 139, { cls:=.type "dict", data:=.dict #[E P "__module__" 409 (v "gemrows.things" 194), E P "__firstlineno__" 413 (.int 47 412), E P "__init__" 425 (.ref 137), E P "__static_attributes__" 429 (.ref 138), E P "__doc__" 430 (.none)] 2 }) ::
(nat_lit 140, { cls:=.type "type", data:=.cls { name:=S "RangeThing", bases:=[.ref 40], mro:=[.ref 140, .ref 40, .type "object"], ns:=139, qualname:=S "RangeThing" }, slots:=#[some (.ref 123), none, some (v "RangeThing" 402), some (v "RangeThing" 410), some (.builtin "object.__new__"), some (.bool true)] }) ::
(nat_lit 143, tO #[.ref 40]) ::
(nat_lit 150, tO #[]) ::
(nat_lit 151, tO #[.none, .none, .none, .none, .ref 150, .none, .none, .bool false, .none]) ::
(nat_lit 152, tO #[]) ::
(nat_lit 154, tO #[v "self" 448, v "number" 449, v "owner" 450, v "params" 451, v "body" 452, v "env" 453, v "self_value" 454, v "nesting" 455, v "home" 456, v "site" 457, v "is_lambda" 458, v "definer" 459]) ::
(nat_lit 155, tO #[]) ::
(nat_lit 157, cO "__init__" 445 "ProcThing.__init__" 446 447 56 12 0 0 3 152 true 181 153 .none (.ref 154) (.ref 155) 156 460 56 461) ::
(nat_lit 158, fn158) ::
(nat_lit 159, tO #[v "body" 463, v "definer" 464, v "env" 465, v "home" 466, v "is_lambda" 467, v "nesting" 468, v "params" 469, v "self_value" 470, v "site" 471]) ::
(nat_lit 160, { cls:=.type "dict", data:=.dict #[E P "__module__" 440 (v "gemrows.things" 194), E P "__firstlineno__" 444 (.int 54 443), E P "__init__" 462 (.ref 158), E P "__static_attributes__" 472 (.ref 159), E P "__doc__" 473 (.none)] 2 }) ::
(nat_lit 161, { cls:=.type "type", data:=.cls { name:=S "ProcThing", bases:=[.ref 40], mro:=[.ref 161, .ref 40, .type "object"], ns:=160, qualname:=S "ProcThing" }, slots:=#[some (.ref 143), none, some (v "ProcThing" 433), some (v "ProcThing" 441), some (.builtin "object.__new__"), some (.bool true)] }) ::
(nat_lit 164, tO #[.ref 40]) ::
(nat_lit 171, tO #[.none]) ::
(nat_lit 172, tO #[]) ::
(nat_lit 174, tO #[v "self" 491, v "number" 492, v "owner" 493, v "message" 494]) ::
(nat_lit 175, tO #[]) ::
(nat_lit 177, cO "__init__" 488 "ErrorThing.__init__" 489 490 69 4 0 0 3 172 true 181 173 .none (.ref 174) (.ref 175) 176 495 69 496) ::
(nat_lit 178, fn178) ::
(nat_lit 179, tO #[v "cause" 498, v "message" 499]) ::
(nat_lit 180, { cls:=.type "dict", data:=.dict #[E P "__module__" 483 (v "gemrows.things" 194), E P "__firstlineno__" 487 (.int 67 486), E P "__init__" 497 (.ref 178), E P "__static_attributes__" 500 (.ref 179), E P "__doc__" 501 (.none)] 2 }) ::
(nat_lit 181, { cls:=.type "type", data:=.cls { name:=S "ErrorThing", bases:=[.ref 40], mro:=[.ref 181, .ref 40, .type "object"], ns:=180, qualname:=S "ErrorThing" }, slots:=#[some (.ref 164), none, some (v "ErrorThing" 476), some (v "ErrorThing" 484), some (.builtin "object.__new__"), some (.bool true)] }) ::
(nat_lit 184, tO #[.ref 40]) ::
(nat_lit 191, tO #[.none]) ::
(nat_lit 192, tO #[]) ::
(nat_lit 194, tO #[v "self" 519, v "number" 520, v "owner" 521, v "proc" 522]) ::
(nat_lit 195, tO #[]) ::
(nat_lit 197, cO "__init__" 516 "FiberThing.__init__" 517 518 75 4 0 0 3 192 true 181 193 .none (.ref 194) (.ref 195) 196 523 75 524) ::
(nat_lit 198, fn198) ::
(nat_lit 199, tO #[v "back" 526, v "proc" 527, v "rows" 528, v "state" 529]) ::
(nat_lit 200, { cls:=.type "dict", data:=.dict #[E P "__module__" 511 (v "gemrows.things" 194), E P "__firstlineno__" 515 (.int 73 514), E P "__init__" 525 (.ref 198), E P "__static_attributes__" 530 (.ref 199), E P "__doc__" 531 (.none)] 2 }) ::
(nat_lit 201, { cls:=.type "type", data:=.cls { name:=S "FiberThing", bases:=[.ref 40], mro:=[.ref 201, .ref 40, .type "object"], ns:=200, qualname:=S "FiberThing" }, slots:=#[some (.ref 184), none, some (v "FiberThing" 504), some (v "FiberThing" 512), some (.builtin "object.__new__"), some (.bool true)] }) ::
(nat_lit 204, tO #[.ref 40]) ::
(nat_lit 211, tO #[.none, .bool false, .none, .none]) ::
(nat_lit 212, tO #[]) ::
(nat_lit 214, tO #[v "self" 549, v "number" 550, v "owner" 551, v "name" 552, v "is_class" 553, v "parent" 554, v "outer" 555]) ::
(nat_lit 215, tO #[]) ::
(nat_lit 217, cO "__init__" 546 "ModuleThing.__init__" 547 548 83 7 0 0 3 212 true 181 213 .none (.ref 214) (.ref 215) 216 556 83 557) ::
(nat_lit 218, fn218) ::
(nat_lit 219, tO #[]) ::
(nat_lit 221, tO #[v "self" 562]) ::
(nat_lit 222, tO #[]) ::
(nat_lit 224, cO "is_own" 559 "ModuleThing.is_own" 560 561 97 1 0 0 3 219 true 181 220 .none (.ref 221) (.ref 222) 223 563 97 564) ::
(nat_lit 225, fn225) ::
(nat_lit 226, tO #[v "ahead" 566, v "attached" 567, v "constants" 568, v "is_class" 569, v "kept" 570, v "methods" 571, v "mixed" 572, v "name" 573, v "native" 574, v "outer" 575, v "parent" 576]) ::
(nat_lit 227, { cls:=.type "dict", data:=.dict #[E P "__module__" 541 (v "gemrows.things" 194), E P "__firstlineno__" 545 (.int 81 544), E P "__init__" 558 (.ref 218), E P "is_own" 565 (.ref 225), E P "__static_attributes__" 577 (.ref 226), E P "__doc__" 578 (.none)] 2 }) ::
(nat_lit 228, { cls:=.type "type", data:=.cls { name:=S "ModuleThing", bases:=[.ref 40], mro:=[.ref 228, .ref 40, .type "object"], ns:=227, qualname:=S "ModuleThing" }, slots:=#[some (.ref 204), none, some (v "ModuleThing" 534), some (v "ModuleThing" 542), some (.builtin "object.__new__"), some (.bool true)] }) ::
(nat_lit 231, tO #[]) ::
(nat_lit 233, tO #[v "value" 584]) ::
(nat_lit 234, tO #[]) ::
(nat_lit 236, cO "sort_of" 581 "sort_of" 582 583 99 1 0 0 3 231 true 181 232 .none (.ref 233) (.ref 234) 235 585 99 586) ::
(nat_lit 237, fn237) ::
(nat_lit 238, tO #[]) ::
(nat_lit 240, tO #[v "one" 591, v "other" 592, v "sort" 593]) ::
(nat_lit 241, tO #[]) ::
(nat_lit 243, cO "same" 588 "same" 589 590 107 2 0 0 3 238 true 181 239 .none (.ref 240) (.ref 241) 242 594 107 595) ::
(nat_lit 244, fn244) ::
(nat_lit 245, tO #[.int 12 258]) ::
(nat_lit 246, tO #[]) ::
(nat_lit 249, cO "code_of" 597 "code_of" 598 599 112 2 0 0 3 246 true 181 247 .none .none .none 248 600 112 601) ::
(nat_lit 250, fn250) ::
(nat_lit 251, tO #[]) ::
(nat_lit 253, tO #[v "text" 606, v "letter" 607]) ::
(nat_lit 254, tO #[]) ::
(nat_lit 256, cO "is_word" 603 "is_word" 604 605 123 1 0 0 3 251 true 181 252 .none (.ref 253) (.ref 254) 255 608 123 609) ::
(nat_lit 257, fn257) ::
(nat_lit 258, tO #[]) ::
(nat_lit 260, tO #[v "name" 614]) ::
(nat_lit 261, tO #[]) ::
(nat_lit 263, cO "is_label" 611 "is_label" 612 613 130 1 0 0 3 258 true 181 259 .none (.ref 260) (.ref 261) 262 615 130 616) ::
(nat_lit 264, fn264) ::
(nat_lit 265, tO #[]) ::
(nat_lit 267, tO #[v "name" 621]) ::
(nat_lit 268, tO #[]) ::
(nat_lit 270, cO "is_plain_symbol" 618 "is_plain_symbol" 619 620 132 1 0 0 3 265 true 181 266 .none (.ref 267) (.ref 268) 269 622 132 623) ::
(nat_lit 271, fn271) ::
(nat_lit 272, tO #[]) ::
(nat_lit 274, tO #[v "module" 628]) ::
(nat_lit 275, tO #[]) ::
(nat_lit 277, cO "full_name" 625 "full_name" 626 627 140 1 0 0 3 272 true 181 273 .none (.ref 274) (.ref 275) 276 629 140 630) ::
(nat_lit 278, fn278) ::
(nat_lit 279, tO #[]) ::
(nat_lit 281, tO #[v "letter" 635, v "follower" 636, v "number" 637, v "figures" 638]) ::
(nat_lit 282, tO #[]) ::
(nat_lit 284, cO "show_letter" 632 "show_letter" 633 634 148 2 0 0 3 279 true 181 280 .none (.ref 281) (.ref 282) 283 639 148 640) ::
(nat_lit 285, fn285) ::
(nat_lit 286, tO #[]) ::
(nat_lit 289, cO "show_text" 642 "show_text" 643 644 158 1 0 0 3 286 true 181 287 .none .none .none 288 645 158 646) ::
(nat_lit 290, fn290) ::
(nat_lit 291, tO #[]) ::
(nat_lit 293, tO #[v "name" 651]) ::
(nat_lit 294, tO #[]) ::
(nat_lit 296, cO "show_symbol" 648 "show_symbol" 649 650 161 1 0 0 3 291 true 181 292 .none (.ref 293) (.ref 294) 295 652 161 653) ::
(nat_lit 297, fn297) ::
(nat_lit 298, tO #[]) ::
(nat_lit 300, tO #[v "key" 658, v "value" 659, v "deep" 660]) ::
(nat_lit 301, tO #[]) ::
(nat_lit 303, cO "show_pair" 655 "show_pair" 656 657 163 3 0 0 3 298 true 181 299 .none (.ref 300) (.ref 301) 302 661 163 662) ::
(nat_lit 304, fn304) ::
(nat_lit 305, tO #[]) ::
(nat_lit 307, tO #[v "value" 667, v "deep" 668, v "first" 669, v "last" 670]) ::
(nat_lit 308, tO #[]) ::
(nat_lit 310, cO "show_range" 664 "show_range" 665 666 167 2 0 0 3 305 true 181 306 .none (.ref 307) (.ref 308) 309 671 167 672) ::
(nat_lit 311, fn311) ::
(nat_lit 312, tO #[]) ::
(nat_lit 315, cO "show_thing" 674 "show_thing" 675 676 171 2 0 0 3 312 true 181 313 .none .none .none 314 677 171 678) ::
(nat_lit 316, fn316) ::
(nat_lit 317, tO #[]) ::
(nat_lit 319, tO #[v "value" 683, v "name" 684, v "deep" 685, v "message" 686, v "told" 687]) ::
(nat_lit 320, tO #[]) ::
(nat_lit 322, cO "show_error" 680 "show_error" 681 682 192 3 0 0 3 317 true 181 318 .none (.ref 319) (.ref 320) 321 688 192 689) ::
(nat_lit 323, fn323) ::
(nat_lit 324, tO #[.int 6 691]) ::
(nat_lit 325, tO #[]) ::
(nat_lit 327, tO #[v "value" 695, v "deep" 696, v "sort" 697]) ::
(nat_lit 328, tO #[]) ::
(nat_lit 330, cO "show" 692 "show" 693 694 198 2 0 0 3 325 true 181 326 .none (.ref 327) (.ref 328) 329 698 198 699) ::
(nat_lit 331, fn331) ::
(nat_lit 332, tO #[]) ::
(nat_lit 334, tO #[v "world" 706, v "self" 707, v "args" 708]) ::
(nat_lit 335, tO #[]) ::
(nat_lit 337, cO "object_same" 703 "object_same" 704 705 210 3 0 0 3 332 true 181 333 .none (.ref 334) (.ref 335) 336 709 210 710) ::
(nat_lit 338, fn338) ::
(nat_lit 339, tO #[]) ::
(nat_lit 341, tO #[v "world" 715, v "self" 716, v "args" 717]) ::
(nat_lit 342, tO #[]) ::
(nat_lit 344, cO "object_alike" 712 "object_alike" 713 714 212 3 0 0 3 339 true 181 340 .none (.ref 341) (.ref 342) 343 718 212 719) ::
(nat_lit 345, fn345) ::
(nat_lit 346, tO #[]) ::
(nat_lit 348, tO #[v "world" 724, v "value" 725, v "deep" 726, v "found" 727, v "item" 728, v "end" 729]) ::
(nat_lit 349, tO #[]) ::
(nat_lit 351, cO "hash_of" 721 "hash_of" 722 723 214 3 0 0 3 346 true 181 347 .none (.ref 348) (.ref 349) 350 730 214 731) ::
(nat_lit 352, fn352) ::
(nat_lit 353, tO #[]) ::
(nat_lit 355, tO #[v "world" 736, v "self" 737, v "args" 738]) ::
(nat_lit 356, tO #[]) ::
(nat_lit 358, cO "object_hash" 733 "object_hash" 734 735 227 3 0 0 3 353 true 181 354 .none (.ref 355) (.ref 356) 357 739 227 740) ::
(nat_lit 359, fn359) ::
(nat_lit 360, tO #[.type "ValueError"]) ::
(nat_lit 367, tO #[v "" 756]) ::
(nat_lit 368, tO #[]) ::
(nat_lit 370, tO #[v "self" 760, v "reason" 761]) ::
(nat_lit 371, tO #[]) ::
(nat_lit 373, cO "__init__" 757 "GemError.__init__" 758 759 232 2 0 0 3 368 true 181 369 .none (.ref 370) (.ref 371) 372 762 232 763) ::
(nat_lit 374, fn374) ::
(nat_lit 375, tO #[v "reason" 765]) ::
(nat_lit 376, { cls:=.type "dict", data:=.dict #[E P "__module__" 751 (v "gemrows.errors" 742), E P "__firstlineno__" 755 (.int 230 754), E P "__init__" 764 (.ref 374), E P "__static_attributes__" 766 (.ref 375), E P "__weakref__" 768 (.ref 378), E P "__doc__" 769 (.none)] 3 }) ::
(nat_lit 377, { cls:=.type "type", data:=.cls { name:=S "GemError", bases:=[.type "ValueError"], mro:=[.ref 377, .type "ValueError", .type "Exception", .type "BaseException", .type "object"], ns:=376, qualname:=S "GemError", subclasses:=[.ref 397] }, slots:=#[some (.ref 360), none, some (v "GemError" 744), some (v "GemError" 752), some (.builtin "ValueError.__new__"), some (.bool true)] }) ::
(nat_lit 378, { cls:=.type "getset_descriptor", data:=.fields #[v "__weakref__" 767, .ref 377, .builtin "ExceptionGroup.__weakref__", .none] }) ::
(nat_lit 381, tO #[.ref 377]) ::
(nat_lit 388, tO #[]) ::
(nat_lit 390, tO #[v "self" 787, v "thing" 788]) ::
(nat_lit 391, tO #[]) ::
(nat_lit 393, cO "__init__" 784 "Raised.__init__" 785 786 237 2 0 0 3 388 true 181 389 .none (.ref 390) (.ref 391) 392 789 237 790) ::
(nat_lit 394, fn394) ::
(nat_lit 395, tO #[v "thing" 792]) ::
(nat_lit 396, { cls:=.type "dict", data:=.dict #[E P "__module__" 779 (v "gemrows.errors" 742), E P "__firstlineno__" 783 (.int 235 782), E P "__init__" 791 (.ref 394), E P "__static_attributes__" 793 (.ref 395), E P "__doc__" 794 (.none)] 2 }) ::
(nat_lit 397, { cls:=.type "type", data:=.cls { name:=S "Raised", bases:=[.ref 377], mro:=[.ref 397, .ref 377, .type "ValueError", .type "Exception", .type "BaseException", .type "object"], ns:=396, qualname:=S "Raised" }, slots:=#[some (.ref 381), none, some (v "Raised" 772), some (v "Raised" 780), some (.builtin "ValueError.__new__"), some (.bool true)] }) ::
(nat_lit 400, tO #[]) ::
(nat_lit 402, tO #[v "world" 802]) ::
(nat_lit 403, tO #[]) ::
(nat_lit 405, cO "raise_version" 799 "raise_version" 800 801 241 1 0 0 3 400 true 181 401 .none (.ref 402) (.ref 403) 404 803 241 804) ::
(nat_lit 406, fn406) ::
(nat_lit 407, tO #[]) ::
(nat_lit 409, tO #[v "world" 809, v "value" 810, v "parent" 811]) ::
(nat_lit 410, tO #[]) ::
(nat_lit 412, cO "own_module" 806 "own_module" 807 808 243 2 0 0 3 407 true 181 408 .none (.ref 409) (.ref 410) 411 812 243 813) ::
(nat_lit 413, fn413) ::
(nat_lit 414, tO #[v "Kernel" 817, v "Comparable" 818, v "Enumerable" 819]) ::
(nat_lit 415, { cls:=.type "dict", data:=.dict #[E P "BasicObject" 821 (.none), E P "Object" 823 (v "BasicObject" 824), E P "Module" 826 (v "Object" 827), E P "Class" 829 (v "Module" 830), E P "Kernel" 832 (.none), E P "Comparable" 834 (.none), E P "Enumerable" 836 (.none), E P "NilClass" 838 (v "Object" 839), E P "TrueClass" 841 (v "Object" 842), E P "FalseClass" 844 (v "Object" 845), E P "Numeric" 847 (v "Object" 848), E P "Integer" 850 (v "Numeric" 851), E P "String" 853 (v "Object" 854), E P "Symbol" 856 (v "Object" 857), E P "Array" 859 (v "Object" 860), E P "Hash" 862 (v "Object" 863), E P "Range" 865 (v "Object" 866), E P "Proc" 868 (v "Object" 869), E P "Fiber" 871 (v "Object" 872), E P "Exception" 874 (v "Object" 875), E P "ScriptError" 877 (v "Exception" 878), E P "NotImplementedError" 880 (v "ScriptError" 881), E P "SystemStackError" 883 (v "Exception" 884), E P "StandardError" 886 (v "Exception" 887), E P "ArgumentError" 889 (v "StandardError" 890), E P "UncaughtThrowError" 892 (v "ArgumentError" 893), E P "FiberError" 895 (v "StandardError" 896), E P "IndexError" 898 (v "StandardError" 899), E P "KeyError" 901 (v "IndexError" 902), E P "StopIteration" 904 (v "IndexError" 905), E P "LocalJumpError" 907 (v "StandardError" 908), E P "NameError" 910 (v "StandardError" 911), E P "NoMethodError" 913 (v "NameError" 914), E P "NoMatchingPatternError" 916 (v "StandardError" 917), E P "NoMatchingPatternKeyError" 919 (v "NoMatchingPatternError" 920), E P "RangeError" 921 (v "StandardError" 922), E P "RuntimeError" 923 (v "StandardError" 924), E P "FrozenError" 925 (v "RuntimeError" 926), E P "TypeError" 927 (v "StandardError" 928), E P "ZeroDivisionError" 929 (v "StandardError" 930)] 40 }) ::
(nat_lit 418, { cls:=.type "dict", data:=.dict #[E P "Object" 938 (.ref 419), E P "Numeric" 940 (.ref 420), E P "String" 942 (.ref 421), E P "Symbol" 944 (.ref 422), E P "Array" 946 (.ref 423), E P "Hash" 948 (.ref 424), E P "Range" 950 (.ref 425)] 7 }) ::
(nat_lit 419, tO #[v "Kernel" 939]) ::
(nat_lit 420, tO #[v "Comparable" 941]) ::
(nat_lit 421, tO #[v "Comparable" 943]) ::
(nat_lit 422, tO #[v "Comparable" 945]) ::
(nat_lit 423, tO #[v "Enumerable" 947]) ::
(nat_lit 424, tO #[v "Enumerable" 949]) ::
(nat_lit 425, tO #[v "Enumerable" 951]) ::
(nat_lit 426, tO #[v "NilClass" 960, v "TrueClass" 961, v "FalseClass" 962, v "Integer" 963, v "Numeric" 964, v "Symbol" 965]) ::
(nat_lit 434, tO #[.none, .none, .int 20000 979]) ::
(nat_lit 435, tO #[]) ::
(nat_lit 437, tO #[v "self" 983, v "natives" 984, v "prelude" 985, v "read" 986, v "most" 987, v "name" 988]) ::
(nat_lit 438, tO #[]) ::
(nat_lit 440, cO "__init__" 980 "World.__init__" 981 982 265 5 0 0 3 435 true 181 436 .none (.ref 437) (.ref 438) 439 989 265 990) ::
(nat_lit 441, fn441) ::
(nat_lit 442, tO #[]) ::
(nat_lit 444, tO #[v "self" 995]) ::
(nat_lit 445, tO #[]) ::
(nat_lit 447, cO "tick" 992 "World.tick" 993 994 285 1 0 0 3 442 true 181 443 .none (.ref 444) (.ref 445) 446 996 285 997) ::
(nat_lit 448, fn448) ::
(nat_lit 449, tO #[]) ::
(nat_lit 451, tO #[v "self" 1002, v "text" 1003]) ::
(nat_lit 452, tO #[]) ::
(nat_lit 454, cO "write" 999 "World.write" 1000 1001 288 2 0 0 3 449 true 181 450 .none (.ref 451) (.ref 452) 453 1004 288 1005) ::
(nat_lit 455, fn455) ::
(nat_lit 456, tO #[]) ::
(nat_lit 458, tO #[v "self" 1010]) ::
(nat_lit 459, tO #[]) ::
(nat_lit 461, cO "number" 1007 "World.number" 1008 1009 291 1 0 0 3 456 true 181 457 .none (.ref 458) (.ref 459) 460 1011 291 1012) ::
(nat_lit 462, fn462) ::
(nat_lit 463, tO #[]) ::
(nat_lit 465, tO #[v "self" 1017]) ::
(nat_lit 466, tO #[]) ::
(nat_lit 468, cO "next_ident" 1014 "World.next_ident" 1015 1016 295 1 0 0 3 463 true 181 464 .none (.ref 465) (.ref 466) 467 1018 295 1019) ::
(nat_lit 469, fn469) ::
(nat_lit 470, tO #[]) ::
(nat_lit 472, tO #[v "self" 1024, v "value" 1025, v "sort" 1026]) ::
(nat_lit 473, tO #[]) ::
(nat_lit 475, cO "ident" 1021 "World.ident" 1022 1023 299 2 0 0 3 470 true 181 471 .none (.ref 472) (.ref 473) 474 1027 299 1028) ::
(nat_lit 476, fn476) ::
(nat_lit 477, tO #[]) ::
(nat_lit 479, tO #[v "self" 1033, v "name" 1034, v "found" 1035]) ::
(nat_lit 480, tO #[]) ::
(nat_lit 482, cO "builtin" 1030 "World.builtin" 1031 1032 315 2 0 0 3 477 true 181 478 .none (.ref 479) (.ref 480) 481 1036 315 1037) ::
(nat_lit 483, fn483) ::
(nat_lit 484, tO #[]) ::
(nat_lit 487, cO "make_builtin" 1039 "World.make_builtin" 1040 1041 319 2 0 0 3 484 true 181 485 .none .none .none 486 1042 319 1043) ::
(nat_lit 488, fn488) ::
(nat_lit 489, tO #[]) ::
(nat_lit 491, tO #[v "self" 1048, v "name" 1049]) ::
(nat_lit 492, tO #[]) ::
(nat_lit 494, cO "give_own" 1045 "World.give_own" 1046 1047 332 2 0 0 3 489 true 181 490 .none (.ref 491) (.ref 492) 493 1050 332 1051) ::
(nat_lit 495, fn495) ::
(nat_lit 496, tO #[.none, .none, .none]) ::
(nat_lit 497, tO #[]) ::
(nat_lit 499, tO #[v "self" 1056, v "name" 1057, v "is_class" 1058, v "parent" 1059, v "outer" 1060, v "attached" 1061, v "owner" 1062, v "stands" 1063, v "found" 1064]) ::
(nat_lit 500, tO #[]) ::
(nat_lit 502, cO "new_module" 1053 "World.new_module" 1054 1055 336 6 0 0 3 497 true 181 498 .none (.ref 499) (.ref 500) 501 1065 336 1066) ::
(nat_lit 503, fn503) ::
(nat_lit 504, tO #[]) ::
(nat_lit 506, tO #[v "self" 1071, v "value" 1072]) ::
(nat_lit 507, tO #[]) ::
(nat_lit 509, cO "class_of" 1068 "World.class_of" 1069 1070 345 2 0 0 3 504 true 181 505 .none (.ref 506) (.ref 507) 508 1073 345 1074) ::
(nat_lit 510, fn510) ::
(nat_lit 511, tO #[]) ::
(nat_lit 513, tO #[v "self" 1079, v "value" 1080]) ::
(nat_lit 514, tO #[]) ::
(nat_lit 516, cO "own_of" 1076 "World.own_of" 1077 1078 354 2 0 0 3 511 true 181 512 .none (.ref 513) (.ref 514) 515 1081 354 1082) ::
(nat_lit 517, fn517) ::
(nat_lit 518, tO #[]) ::
(nat_lit 520, tO #[v "self" 1087, v "module" 1088]) ::
(nat_lit 521, tO #[]) ::
(nat_lit 523, cO "own_behind" 1084 "World.own_behind" 1085 1086 357 2 0 0 3 518 true 181 519 .none (.ref 520) (.ref 521) 522 1089 357 1090) ::
(nat_lit 524, fn524) ::
(nat_lit 525, tO #[]) ::
(nat_lit 527, tO #[v "self" 1095, v "module" 1096]) ::
(nat_lit 528, tO #[]) ::
(nat_lit 530, cO "root_of" 1092 "World.root_of" 1093 1094 360 2 0 0 3 525 true 181 526 .none (.ref 527) (.ref 528) 529 1097 360 1098) ::
(nat_lit 531, fn531) ::
(nat_lit 532, tO #[]) ::
(nat_lit 534, tO #[v "self" 1103, v "module" 1104]) ::
(nat_lit 535, tO #[]) ::
(nat_lit 537, cO "real_class" 1100 "World.real_class" 1101 1102 365 2 0 0 3 532 true 181 533 .none (.ref 534) (.ref 535) 536 1105 365 1106) ::
(nat_lit 538, fn538) ::
(nat_lit 539, tO #[]) ::
(nat_lit 541, tO #[v "self" 1111, v "text" 1112]) ::
(nat_lit 542, tO #[]) ::
(nat_lit 544, cO "text" 1108 "World.text" 1109 1110 368 2 0 0 3 539 true 181 540 .none (.ref 541) (.ref 542) 543 1113 368 1114) ::
(nat_lit 545, fn545) ::
(nat_lit 546, tO #[]) ::
(nat_lit 548, tO #[v "self" 1119, v "items" 1120]) ::
(nat_lit 549, tO #[]) ::
(nat_lit 551, cO "list_of" 1116 "World.list_of" 1117 1118 371 2 0 0 3 546 true 181 547 .none (.ref 548) (.ref 549) 550 1121 371 1122) ::
(nat_lit 552, fn552) ::
(nat_lit 553, tO #[]) ::
(nat_lit 555, tO #[v "self" 1127, v "pairs" 1128]) ::
(nat_lit 556, tO #[]) ::
(nat_lit 558, cO "table_of" 1124 "World.table_of" 1125 1126 374 2 0 0 3 553 true 181 554 .none (.ref 555) (.ref 556) 557 1129 374 1130) ::
(nat_lit 559, fn559) ::
(nat_lit 560, tO #[]) ::
(nat_lit 562, tO #[v "self" 1135, v "key" 1136]) ::
(nat_lit 563, tO #[]) ::
(nat_lit 565, cO "key_of" 1132 "World.key_of" 1133 1134 377 2 0 0 3 560 true 181 561 .none (.ref 562) (.ref 563) 564 1137 377 1138) ::
(nat_lit 566, fn566) ::
(nat_lit 567, tO #[]) ::
(nat_lit 569, tO #[v "self" 1143, v "first" 1144, v "last" 1145, v "is_open" 1146, v "is_odd" 1147, v "found" 1148]) ::
(nat_lit 570, tO #[]) ::
(nat_lit 572, cO "range_of" 1140 "World.range_of" 1141 1142 380 4 0 0 3 567 true 181 568 .none (.ref 569) (.ref 570) 571 1149 380 1150) ::
(nat_lit 573, fn573) ::
(nat_lit 574, tO #[]) ::
(nat_lit 576, tO #[v "self" 1155, v "params" 1156, v "body" 1157, v "env" 1158, v "self_value" 1159, v "nesting" 1160, v "home" 1161, v "site" 1162, v "is_lambda" 1163, v "definer" 1164, v "owner" 1165]) ::
(nat_lit 577, tO #[]) ::
(nat_lit 579, cO "proc" 1152 "World.proc" 1153 1154 389 10 0 0 3 574 true 181 575 .none (.ref 576) (.ref 577) 578 1166 389 1167) ::
(nat_lit 580, fn580) ::
(nat_lit 581, tO #[]) ::
(nat_lit 583, tO #[v "self" 1172, v "module" 1173, v "root" 1174, v "number" 1175]) ::
(nat_lit 584, tO #[]) ::
(nat_lit 586, cO "thing" 1169 "World.thing" 1170 1171 393 2 0 0 3 581 true 181 582 .none (.ref 583) (.ref 584) 585 1176 393 1177) ::
(nat_lit 587, fn587) ::
(nat_lit 588, tO #[]) ::
(nat_lit 590, tO #[v "self" 1182, v "module" 1183]) ::
(nat_lit 591, tO #[]) ::
(nat_lit 593, cO "is_error_class" 1179 "World.is_error_class" 1180 1181 419 2 0 0 3 588 true 181 589 .none (.ref 590) (.ref 591) 592 1184 419 1185) ::
(nat_lit 594, fn594) ::
(nat_lit 595, tO #[]) ::
(nat_lit 597, tO #[v "self" 1190, v "value" 1191]) ::
(nat_lit 598, tO #[]) ::
(nat_lit 600, cO "spread" 1187 "World.spread" 1188 1189 426 2 0 0 3 595 true 181 596 .none (.ref 597) (.ref 598) 599 1192 426 1193) ::
(nat_lit 601, fn601) ::
(nat_lit 602, tO #[]) ::
(nat_lit 604, tO #[v "self" 1198, v "name" 1199, v "message" 1200]) ::
(nat_lit 605, tO #[]) ::
(nat_lit 607, cO "error" 1195 "World.error" 1196 1197 429 3 0 0 3 602 true 181 603 .none (.ref 604) (.ref 605) 606 1201 429 1202) ::
(nat_lit 608, fn608) ::
(nat_lit 609, tO #[]) ::
(nat_lit 611, tO #[v "self" 1207, v "name" 1208, v "message" 1209]) ::
(nat_lit 612, tO #[]) ::
(nat_lit 614, cO "fail" 1204 "World.fail" 1205 1206 432 3 0 0 3 609 true 181 610 .none (.ref 611) (.ref 612) 613 1210 432 1211) ::
(nat_lit 615, fn615) ::
(nat_lit 616, tO #[]) ::
(nat_lit 618, tO #[v "self" 1216, v "value" 1217]) ::
(nat_lit 619, tO #[]) ::
(nat_lit 621, cO "need_thawed" 1213 "World.need_thawed" 1214 1215 435 2 0 0 3 616 true 181 617 .none (.ref 618) (.ref 619) 620 1218 435 1219) ::
(nat_lit 622, fn622) ::
(nat_lit 623, tO #[]) ::
(nat_lit 625, tO #[v "self" 1224, v "value" 1225, v "name" 1226, v "item" 1227]) ::
(nat_lit 626, tO #[]) ::
(nat_lit 628, cO "set_field" 1221 "World.set_field" 1222 1223 438 4 0 0 3 623 true 181 624 .none (.ref 625) (.ref 626) 627 1228 438 1229) ::
(nat_lit 629, fn629) ::
(nat_lit 630, tO #[]) ::
(nat_lit 632, tO #[v "self" 1234, v "value" 1235]) ::
(nat_lit 633, tO #[]) ::
(nat_lit 635, cO "describe" 1231 "World.describe" 1232 1233 441 2 0 0 3 630 true 181 631 .none (.ref 632) (.ref 633) 634 1236 441 1237) ::
(nat_lit 636, fn636) ::
(nat_lit 637, tO #[]) ::
(nat_lit 639, tO #[v "self" 1242, v "module" 1243, v "name" 1244]) ::
(nat_lit 640, tO #[]) ::
(nat_lit 642, cO "own_constant" 1239 "World.own_constant" 1240 1241 444 3 0 0 3 637 true 181 638 .none (.ref 639) (.ref 640) 641 1245 444 1246) ::
(nat_lit 643, fn643) ::
(nat_lit 644, tO #[]) ::
(nat_lit 646, tO #[v "self" 1251, v "nesting" 1252, v "name" 1253]) ::
(nat_lit 647, tO #[]) ::
(nat_lit 649, cO "find_constant" 1248 "World.find_constant" 1249 1250 447 3 0 0 3 644 true 181 645 .none (.ref 646) (.ref 647) 648 1254 447 1255) ::
(nat_lit 650, fn650) ::
(nat_lit 651, tO #[]) ::
(nat_lit 653, tO #[v "self" 1260, v "nesting" 1261, v "name" 1262]) ::
(nat_lit 654, tO #[]) ::
(nat_lit 656, cO "constant" 1257 "World.constant" 1258 1259 450 3 0 0 3 651 true 181 652 .none (.ref 653) (.ref 654) 655 1263 450 1264) ::
(nat_lit 657, fn657) ::
(nat_lit 658, tO #[]) ::
(nat_lit 660, tO #[v "self" 1269, v "module" 1270, v "name" 1271]) ::
(nat_lit 661, tO #[]) ::
(nat_lit 663, cO "find_in" 1266 "World.find_in" 1267 1268 453 3 0 0 3 658 true 181 659 .none (.ref 660) (.ref 661) 662 1272 453 1273) ::
(nat_lit 664, fn664) ::
(nat_lit 665, tO #[]) ::
(nat_lit 667, tO #[v "self" 1278, v "module" 1279, v "name" 1280]) ::
(nat_lit 668, tO #[]) ::
(nat_lit 670, cO "constant_in" 1275 "World.constant_in" 1276 1277 456 3 0 0 3 665 true 181 666 .none (.ref 667) (.ref 668) 669 1281 456 1282) ::
(nat_lit 671, fn671) ::
(nat_lit 672, tO #[]) ::
(nat_lit 674, tO #[v "self" 1287, v "module" 1288, v "name" 1289, v "value" 1290]) ::
(nat_lit 675, tO #[]) ::
(nat_lit 677, cO "set_constant" 1284 "World.set_constant" 1285 1286 459 4 0 0 3 672 true 181 673 .none (.ref 674) (.ref 675) 676 1291 459 1292) ::
(nat_lit 678, fn678) ::
(nat_lit 679, tO #[v "const_version" 1294, v "globals" 1295, v "is_ready" 1296, v "last_ident" 1297, v "last_number" 1298, v "made" 1299, v "main" 1300, v "most" 1301, v "natives" 1302, v "out" 1303, v "prelude" 1304, v "read" 1305, v "symbol_idents" 1306, v "taken" 1307, v "version" 1308]) ::
(nat_lit 680, { cls:=.type "dict", data:=.dict #[E P "__module__" 974 (v "gemrows.world" 815), E P "__firstlineno__" 978 (.int 263 977), E P "__init__" 991 (.ref 441), E P "tick" 998 (.ref 448), E P "write" 1006 (.ref 455), E P "number" 1013 (.ref 462), E P "next_ident" 1020 (.ref 469), E P "ident" 1029 (.ref 476), E P "builtin" 1038 (.ref 483), E P "make_builtin" 1044 (.ref 488), E P "give_own" 1052 (.ref 495), E P "new_module" 1067 (.ref 503), E P "class_of" 1075 (.ref 510), E P "own_of" 1083 (.ref 517), E P "own_behind" 1091 (.ref 524), E P "root_of" 1099 (.ref 531), E P "real_class" 1107 (.ref 538), E P "text" 1115 (.ref 545), E P "list_of" 1123 (.ref 552), E P "table_of" 1131 (.ref 559), E P "key_of" 1139 (.ref 566), E P "range_of" 1151 (.ref 573), E P "proc" 1168 (.ref 580), E P "thing" 1178 (.ref 587), E P "is_error_class" 1186 (.ref 594), E P "spread" 1194 (.ref 601), E P "error" 1203 (.ref 608), E P "fail" 1212 (.ref 615), E P "need_thawed" 1220 (.ref 622), E P "set_field" 1230 (.ref 629), E P "describe" 1238 (.ref 636), E P "own_constant" 1247 (.ref 643), E P "find_constant" 1256 (.ref 650), E P "constant" 1265 (.ref 657), E P "find_in" 1274 (.ref 664), E P "constant_in" 1283 (.ref 671), E P "set_constant" 1293 (.ref 678), E P "__static_attributes__" 1309 (.ref 679), E P "__dict__" 1311 (.ref 682), E P "__weakref__" 1313 (.ref 683), E P "__doc__" 1314 (.none)] 4 }) ::
(nat_lit 681, { cls:=.type "type", data:=.cls { name:=S "World", bases:=[.type "object"], mro:=[.ref 681, .type "object"], ns:=680, qualname:=S "World" }, slots:=#[none, none, some (v "World" 967), some (v "World" 975), some (.builtin "object.__new__"), some (.bool true)] }) ::
(nat_lit 682, { cls:=.type "getset_descriptor", data:=.fields #[v "__dict__" 1310, .ref 681, .builtin "function.__dict__", .builtin "function.__dict__#set"] }) ::
(nat_lit 683, { cls:=.type "getset_descriptor", data:=.fields #[v "__weakref__" 1312, .ref 681, .builtin "ExceptionGroup.__weakref__", .none] }) ::
(nat_lit 686, tO #[]) ::
(nat_lit 688, tO #[v "script" 1322, v "great" 1323, v "cell" 1324]) ::
(nat_lit 689, tO #[]) ::
(nat_lit 691, cO "_law_box" 1319 "_law_box" 1320 1321 462 1 0 0 3 686 true 181 687 .none (.ref 688) (.ref 689) 690 1325 462 1326) ::
(nat_lit 692, fn692) ::
(nat_lit 693, tO #[]) ::
(nat_lit 695, tO #[v "box" 1331, v "many" 1332, v "digit" 1333]) ::
(nat_lit 696, tO #[]) ::
(nat_lit 698, cO "_law_take" 1328 "_law_take" 1329 1330 467 2 0 0 3 693 true 181 694 .none (.ref 695) (.ref 696) 697 1334 467 1335) ::
(nat_lit 699, fn699) ::
(nat_lit 700, tO #[]) ::
(nat_lit 703, cO "_law_plan" 1337 "_law_plan" 1338 1339 474 2 0 0 3 700 true 181 701 .none .none .none 702 1340 474 1341) ::
(nat_lit 704, fn704) ::
(nat_lit 705, tO #[]) ::
(nat_lit 708, cO "_law_made" 1343 "_law_made" 1344 1345 487 3 0 0 3 705 true 181 706 .none .none .none 707 1346 487 1347) ::
(nat_lit 709, fn709) ::
(nat_lit 710, tO #[]) ::
(nat_lit 712, tO #[v "world" 1352, v "deep" 1353, v "inmost" 1354, v "found" 1355, v "level" 1356]) ::
(nat_lit 713, tO #[]) ::
(nat_lit 715, cO "_law_nested" 1349 "_law_nested" 1350 1351 496 3 0 0 3 710 true 181 711 .none (.ref 712) (.ref 713) 714 1357 496 1358) ::
(nat_lit 716, fn716) ::
(nat_lit 717, tO #[]) ::
(nat_lit 719, tO #[v "world" 1363, v "one" 1364, v "second" 1365, v "due" 1366]) ::
(nat_lit 720, tO #[]) ::
(nat_lit 722, cO "_law_pair_right" 1360 "_law_pair_right" 1361 1362 501 4 0 0 3 717 true 181 718 .none (.ref 719) (.ref 720) 721 1367 501 1368) ::
(nat_lit 723, fn723) ::
(nat_lit 724, tO #[]) ::
(nat_lit 727, cO "_law_table_right" 1370 "_law_table_right" 1371 1372 505 3 0 0 3 724 true 181 725 .none .none .none 726 1373 505 1374) ::
(nat_lit 728, fn728) ::
(nat_lit 729, tO #[]) ::
(nat_lit 731, tO #[v "world" 1379, v "box" 1380, v "deep" 1381, v "more" 1382, v "text" 1383, v "one" 1384, v "second" 1385]) ::
(nat_lit 732, tO #[]) ::
(nat_lit 734, cO "_law_deep_right" 1376 "_law_deep_right" 1377 1378 521 2 0 0 3 729 true 181 730 .none (.ref 731) (.ref 732) 733 1386 521 1387) ::
(nat_lit 735, fn735) ::
(nat_lit 736, tO #[]) ::
(nat_lit 739, cO "law" 1389 "law" 1390 1391 527 1 0 0 3 736 true 181 737 .none .none .none 738 1392 527 1393) ::
(nat_lit 740, fn740) :: []
noncomputable def as9:List Addr:=[2, 3, 15, 17, 18, 20, 21, 22, 23, 31, 33, 34, 36, 37, 38, 39, 40, 41, 42, 45, 52, 53, 55, 56, 58, 59, 60, 61, 62, 65, 72, 73, 75, 76, 78, 79, 80, 81, 82, 85, 92, 94, 95, 97, 98, 99, 101, 102, 104, 105, 106, 108, 109, 111, 112, 113, 116, 117, 118, 119, 120, 123, 130, 131, 133, 134, 136, 137, 138, 139, 140, 143, 150, 151, 152, 154, 155, 157, 158, 159, 160, 161, 164, 171, 172, 174, 175, 177, 178, 179, 180, 181, 184, 191, 192, 194, 195, 197, 198, 199, 200, 201, 204, 211, 212, 214, 215, 217, 218, 219, 221, 222, 224, 225, 226, 227, 228, 231, 233, 234, 236, 237, 238, 240, 241, 243, 244, 245, 246, 249, 250, 251, 253, 254, 256, 257, 258, 260, 261, 263, 264, 265, 267, 268, 270, 271, 272, 274, 275, 277, 278, 279, 281, 282, 284, 285, 286, 289, 290, 291, 293, 294, 296, 297, 298, 300, 301, 303, 304, 305, 307, 308, 310, 311, 312, 315, 316, 317, 319, 320, 322, 323, 324, 325, 327, 328, 330, 331, 332, 334, 335, 337, 338, 339, 341, 342, 344, 345, 346, 348, 349, 351, 352, 353, 355, 356, 358, 359, 360, 367, 368, 370, 371, 373, 374, 375, 376, 377, 378, 381, 388, 390, 391, 393, 394, 395, 396, 397, 400, 402, 403, 405, 406, 407, 409, 410, 412, 413, 414, 415, 418, 419, 420, 421, 422, 423, 424, 425, 426, 434, 435, 437, 438, 440, 441, 442, 444, 445, 447, 448, 449, 451, 452, 454, 455, 456, 458, 459, 461, 462, 463, 465, 466, 468, 469, 470, 472, 473, 475, 476, 477, 479, 480, 482, 483, 484, 487, 488, 489, 491, 492, 494, 495, 496, 497, 499, 500, 502, 503, 504, 506, 507, 509, 510, 511, 513, 514, 516, 517, 518, 520, 521, 523, 524, 525, 527, 528, 530, 531, 532, 534, 535, 537, 538, 539, 541, 542, 544, 545, 546, 548, 549, 551, 552, 553, 555, 556, 558, 559, 560, 562, 563, 565, 566, 567, 569, 570, 572, 573, 574, 576, 577, 579, 580, 581, 583, 584, 586, 587, 588, 590, 591, 593, 594, 595, 597, 598, 600, 601, 602, 604, 605, 607, 608, 609, 611, 612, 614, 615, 616, 618, 619, 621, 622, 623, 625, 626, 628, 629, 630, 632, 633, 635, 636, 637, 639, 640, 642, 643, 644, 646, 647, 649, 650, 651, 653, 654, 656, 657, 658, 660, 661, 663, 664, 665, 667, 668, 670, 671, 672, 674, 675, 677, 678, 679, 680, 681, 682, 683, 686, 688, 689, 691, 692, 693, 695, 696, 698, 699, 700, 703, 704, 705, 708, 709, 710, 712, 713, 715, 716, 717, 719, 720, 722, 723, 724, 727, 728, 729, 731, 732, 734, 735, 736, 739, 740]
theorem as9_ok (P:Params):as9 = (K9 P).map (·.1):=by kernel_rfl
noncomputable def V9:Program:={ PySem.Challenge.pw_nz0048_01 with main:={ PySem.Challenge.pw_nz0048_01.main with body:=[top 55] } }
noncomputable def LO9:List Str:=[S "_wall", S "SIMPLE_ESCAPES", S "OPERATORS", S "DEEPEST_KEY", S "Thing", S "Text", S "ListThing", S "TableThing", S "RangeThing", S "ProcThing", S "ErrorThing", S "FiberThing", S "ModuleThing", S "sort_of", S "same", S "code_of", S "is_word", S "is_label", S "is_plain_symbol", S "full_name", S "show_letter", S "show_text", S "show_symbol", S "show_pair", S "show_range", S "show_thing", S "show_error", S "show", S "object_same", S "object_alike", S "hash_of", S "object_hash", S "GemError", S "Raised", S "raise_version", S "own_module", S "MODULES", S "BUILTINS", S "MIXED", S "UNMADE", S "World", S "_law_box", S "_law_take", S "_law_plan", S "_law_made", S "_law_nested", S "_law_pair_right", S "_law_table_right", S "_law_deep_right"]
noncomputable abbrev H9:Hook:=kHook K9 as9 as9_ok
noncomputable def XT9 (s:Shared):Bool:=xlAt V9 [] s && recOk PySem.Challenge.rw_nz0048_01.row.toRowW.records s
noncomputable def getT (s:SharedT) (a:Addr):Option Obj:=match Nat.blt a s.n with
  | true=>match s.tree.get a with
    | some o=>alive o
    | none=>none
  | false=>none
theorem getT_ok {s:SharedT} {a:Addr} {o:Obj} (h:getT s a = some o):s.abs.heap.get? a = some o:=by
  unfold getT at h
  cases e:Nat.blt a s.n with
  | false=>rw [e] at h; cases h
  | true =>
    rw [e] at h
    cases e2:s.tree.get a with
    | none=>simp only [e2] at h; cases h
    | some o' =>
      simp only [e2] at h
      have lt:a < s.n:=Nat.le_of_ble_eq_true (m:=s.n) (n:=a + 1) e
      exact (abs_get lt e2).trans h
theorem obs_of {s:SharedT}:∀ {as:List Addr} {K:Frag}, as.map (getT s) = K.map (fun p=>some p.2) → as.map s.abs.heap.get? = K.map (fun p=>some p.2):=by
  intro as
  induction as with
  | nil =>
    intro K h
    cases K with
    | nil=>rfl
    | cons p K=>simp at h
  | cons a as ih =>
    intro K h
    cases K with
    | nil=>simp at h
    | cons p K =>
      rw [List.map_cons, List.map_cons, List.cons.injEq] at h
      rw [List.map_cons, List.map_cons, List.cons.injEq]
      exact ⟨getT_ok h.1, ih h.2⟩
noncomputable def lookQ (w:World) (s:SharedT) :=
  ((staticsOk (PySem.W.Fast.tw5923862056798008813 PySem.Challenge.pw_nz0048_01.main.body) (boot_heap w.params) s.abs.heap && namesBound PySem.Challenge.pw_nz0048_01 s.abs.heap && gensDone s.abs && laidKept (boot_heap w.params) s.abs.heap), PySem.W.Fast.tw4187177175401517315 V9 LO9 (PySem.W.Fast.tw5923862056798008813 PySem.Challenge.pw_nz0048_01.main.body) XT9 true s.abs, as9.map (getT s))
noncomputable abbrev runQ (w:World) (os:OsState):Option SharedT:=runT (PySem.W.Fast.tw10156331382660048174 (PySem.W.Fast.tw11892475500146522536 PySem.W.Fast.tw14364793385576792824) PySem.Challenge.pw_nz0048_01 w) (PySem.W.Fast.tw6613529449190102663 11 (some (.ref 6))) 6400 (boot w.params os) (topStub PySem.Challenge.pw_nz0048_01)
noncomputable def RunsTo (w:World):Prop:=∀ os:OsState, (runQ w os).map (lookQ w) = some (true, openGood V9 LO9, (K9 w.params).map (fun p=>some p.2))
theorem run_no (w:World):RunsTo (w.withFollow "special-get-raises" false):=by intro os; kernel_rfl
theorem run_yes (w:World):RunsTo (w.withFollow "special-get-raises" true):=by intro os; kernel_rfl
theorem run_all (w:World):RunsTo w:=byRow2 "special-get-raises" run_no run_yes w
theorem left9:LeftO PySem.Challenge.rw_nz0048_01.row.prog V9 LO9 XT9 H9.obs H9.val 12770:=by
  refine left_of (M:=6400) (by kernel_rfl) (by kernel_rfl) (fun s=>by kernel_rfl) (by kernel_rfl) fun w os=>?_
  have h:=run_all w os
  obtain ⟨s, hs, hl⟩:=Option.map_eq_some_iff.mp h
  rw [PySem.W.Fast.te10156331382660048174, PySem.W.Fast.te11892475500146522536, PySem.W.Fast.te14364793385576792824, PySem.W.Fast.te6613529449190102663]
  refine Option.map_eq_some_iff.mpr ⟨s, hs, ?_⟩
  unfold lookQ at hl
  rw [← PySem.W.Fast.te4187177175401517315, ← PySem.W.Fast.te5923862056798008813] at hl
  have h1:=congrArg Prod.fst hl
  have h2:=congrArg (fun x=>x.2.1) hl
  have h3:=obs_of (congrArg (fun x=>x.2.2) hl)
  exact Prod.ext h1 (Prod.ext h2 h3)
theorem said9:PySem.Challenge.rw_nz0048_01.wellSaid = true:=(congrFun PySem.W.Fast.te9446332074065402090 PySem.Challenge.rw_nz0048_01).trans (by kernel_rfl)
noncomputable def hd9:(P:Prop) ×' (P → PySem.Challenge.rw_nz0048_01.Holds):=by
  refine ⟨?P, ?H⟩
  case H =>
    intro hc9
    refine holds_law said9 fun said=>?_
    refine holds_open (q:=V9) (loose:=LO9) (Xt:=XT9) (XP:=XL V9 []) (Yf:=H9.obs) (Ya:=H9.val) (YP:=(kHook K9 as9 as9_ok).says) (N:=12770) left9 H9.of H9.keeps (fun s e=>xl_of s (Bool.and_eq_true_iff.mp e).1) XL.keeps (by rfl) (by rfl) (by rfl) (fun s e=>recFacts_of (Bool.and_eq_true_iff.mp e).2) (by rfl) said (by decide +kernel) ⟨rfl, rfl, rfl, rfl, rfl, by decide +kernel⟩ ?hw ?hc
    case hw=>w_witness2
    case hc=>exact hc9
theorem byP {G:Prop} (h:∀ P:Prop, (G → P) → P):G:=h G id
theorem iR {α:Type} {l k:List α} {a:α} (h:a ∈ k):a ∈ l ++ k:=List.mem_append_right _ h
theorem iL {α:Type} {l k:List α} {a:α} (h:a ∈ l):a ∈ l ++ k:=List.mem_append_left _ h
theorem iC {α:Type} {l:List α} {a b:α} (h:a ∈ l):a ∈ b :: l:=.tail _ h
theorem iH {α:Type} {l:List α} {a:α}:a ∈ a :: l:=.head _
noncomputable abbrev PR:Program:=PySem.Challenge.rw_nz0048_01.row.prog
noncomputable abbrev LO:List Str:=looseW V9 LO9
noncomputable abbrev KK (w:World):Frag:=K9 w.params
structure Mx where
  mean:ExcName → Option Value
  mg:Str → Option Value
  mb:Str → Option Value
noncomputable abbrev TopX (mx:Mx) (h:Heap):Prop:=Top V9 LO mx.mean mx.mg mx.mb h
noncomputable def Gt (l tl:List (Addr × Obj)):Prop:=∀ q ∈ l, ∀ p ∈ tl, (q.1:Nat) ≠ p.1
noncomputable def Ne1 (a:Addr) (l:List (Addr × Obj)):Prop:=∀ q ∈ l, (q.1:Nat) ≠ a
theorem Gt.nil {l:List (Addr × Obj)}:Gt l []:=fun _ _ _ h=>nomatch h
theorem Gt.cons {l tl:List (Addr × Obj)} {p:Addr × Obj} (h:Ne1 p.1 l) (g:Gt l tl):Gt l (p :: tl):=fun q hq r hr=>by
  rcases List.mem_cons.mp hr with rfl | hr
  · exact h q hq
  · exact g q hq r hr
theorem Ne1.cons {a b:Nat} {o:Obj} {l:List (Addr × Obj)} (h:b ≠ a) (k:Ne1 a l):Ne1 a ((b, o) :: l):=fun q hq=>by
  rcases List.mem_cons.mp hq with rfl | hq
  · exact h
  · exact k q hq
theorem Ne1.of_off1 {a:Addr} {l k:List (Addr × Obj)} (h:LCg.Off1 a l) (s:∀ p ∈ k, p ∈ l):Ne1 a k:=by
  have key:∀ l:List (Addr × Obj), LCg.Off1 a l → ∀ q ∈ l, (q.1:Nat) ≠ a:=by
    intro l
    induction l with
    | nil=>intro _ q hq; cases hq
    | cons p r ih =>
      intro h q hq
      rcases List.mem_cons.mp hq with e | hq
      · rw [e]; exact h.1
      · exact ih h.2 q hq
  exact fun q hq=>key l h q (s q hq)
theorem Gt.app {l t₁ t₂:List (Addr × Obj)} (g:Gt l t₁) (h:Gt l t₂):Gt l (t₁ ++ t₂):=fun q hq r hr=>(List.mem_append.mp hr).elim (g q hq r) (h q hq r)
theorem Gt.sub {l k tl:List (Addr × Obj)} (h:∀ p ∈ k, p ∈ l) (g:Gt l tl):Gt k tl:=fun q hq r hr=>g q (h q hq) r hr
theorem Gt.subA {l k tl:List (Addr × Obj)} (h:∀ p ∈ k, ∃ o, (p.1, o) ∈ l) (g:Gt l tl):Gt k tl:=fun q hq r hr=>by
  obtain ⟨o, ho⟩:=h q hq
  exact g (q.1, o) ho r hr
theorem all_app {P:Addr × Obj → Prop} {a b:List (Addr × Obj)} (h:∀ p ∈ a, P p) (k:∀ p ∈ b, P p):∀ p ∈ a ++ b, P p:=fun p hp=>(List.mem_append.mp hp).elim (h p) (k p)
theorem all_one {α:Type} {P:α → Prop} {x:α} (h:P x):∀ p ∈ [x], P p:=fun p hp=>by rw [List.mem_singleton.mp hp]; exact h
theorem all_more {α:Type} {P:α → Prop} {x:α} {l:List α} (h:P x) (k:∀ p ∈ l, P p):∀ p ∈ x :: l, P p:=fun p hp=>by
  rcases List.mem_cons.mp hp with rfl | hp
  · exact h
  · exact k p hp
theorem News.of {h₀ h:Heap} {L:Addr} {l k:List (Addr × Obj)} (N:News h₀ L h l) (s:∀ p ∈ k, p ∈ l):News h₀ L h k:=fun p hp=>N p (s p hp)
theorem item_any {prog:Program} {w:World} {A:Around} {E:Value → Shared → Prop} {s:Shared} {value slice:PySem.Expr} {l:Addr} {vs:List Value} {k:Int} {u:Tok} {Q:Value → Shared → Prop}
    (hl:s.heap.IsList l vs.toArray) (h0:0 ≤ k) (h1:k < vs.length) (hsz:vs.length < 1000) (h:∀ v, v ∈ vs → Q v s)
    (hs:subscripted slice false (.ref l) (.int k u) = operate [.ref l, .int k u] (getItem (.ref l) (.int k u))) :
    wpAny (model prog w) A (subscriptTail value slice (.ref l) (.int k u)) Q E s:=by
  have hk:k.toNat < vs.length:=by lia
  have hz:k < 2 ^ 63:=by
    have:(1000:Int) < 2 ^ 63:=by decide
    lia
  have hx:vs.toArray[k.toNat]? = some vs[k.toNat]:=by rw [List.getElem?_toArray, List.getElem?_eq_getElem hk]
  exact tail_any hl.typeIs slot_list_getitem.lookup (wpAny_getItem_list hl h0 hz hx (h _ (List.getElem_mem hk))) hs
noncomputable def Does (w:World) (mx:Mx) (f:Addr) (dn:Nat) (args:List Value) (news:List (Addr × Obj)) (R:Value → List (Addr × Obj) → List (Addr × Obj) → Prop):Prop :=
  ∀ (dp un:Nat) (gd:Option (List Code)) (cn:Str) (cs:Scope) (a:Addr) (ccd:Value) (cl:List (Str × Addr)) (outer:List Env) (A₀:Around) (base h₀:Heap) (L:Addr) (m:Str → Option Value) (s:Shared)
    (Q E:Value → Shared → Prop),
    Below A₀ base outer h₀ → Fr h₀ L s.heap m → (K9 w.params).In h₀ → News h₀ L s.heap news → TopX mx h₀ → cs.kind = .function → dp + dn < recursionLimit → un + 8 * dn < cLine →
    (∀ r news' tl h' tk', Fr h₀ L h' m → News h₀ L h' (news' ++ tl) → Gt news tl → R r news' tl → Q r { s with heap:=h', toks:=tk' }) →
    wpAny (model PR w) (ktrTop dp un gd cn cs L a ccd cl outer) (call (.ref f) args) Q E s
theorem Does.gen {w:World} {mx:Mx} {f:Addr} {dn:Nat} {args:List Value} {n:List (Addr × Obj)} {R:Value → List (Addr × Obj) → List (Addr × Obj) → Prop} (h:∀ R':Value → List (Addr × Obj) → List (Addr × Obj) → Prop, (∀ r n' tl, R r n' tl → R' r n' tl) → Does w mx f dn args n R'):Does w mx f dn args n R:=h R fun _ _ _ h=>h
theorem does_use {w mx} {f:Addr} {dn:Nat} {args:List Value} {news:List (Addr × Obj)} {R:Value → List (Addr × Obj) → List (Addr × Obj) → Prop}
    {dp un:Nat} {gd:Option (List Code)} {cn:Str} {cs:Scope} {a:Addr} {ccd:Value} {cl:List (Str × Addr)} {outer:List Env} {A₀:Around} {base h₀:Heap} {L:Addr} {m:Str → Option Value} {s:Shared} {Q E:Value → Shared → Prop}
    (C:Does w mx f dn args news R) (B:Below A₀ base outer h₀) (F:Fr h₀ L s.heap m) (X:(K9 w.params).In h₀) (N:News h₀ L s.heap news) (T:TopX mx h₀) (hk:cs.kind = .function) (hd:dp + dn < recursionLimit) (hu:un + 8 * dn < cLine)
    (ret:∀ r news' tl h' tk', Fr h₀ L h' m → News h₀ L h' (news' ++ tl) → Gt news tl → R r news' tl → Q r { s with heap:=h', toks:=tk' }) :
    wpAny (model PR w) (ktrTop dp un gd cn cs L a ccd cl outer) (call (.ref f) args) Q E s:=C _ _ _ _ _ _ _ _ _ _ _ _ _ _ _ _ _ B F X N T hk hd hu ret
theorem ne_app {l₁ l₂:List (Addr × Obj)} {a:Addr} (h₁:∀ p ∈ l₁, p.1 ≠ a) (h₂:∀ p ∈ l₂, p.1 ≠ a):∀ p ∈ l₁ ++ l₂, p.1 ≠ a:=fun p hp=>(List.mem_append.mp hp).elim (h₁ p) (h₂ p)
theorem Does.at {w mx} {f:Addr} {dn:Nat} {args:List Value} {a:Addr} {o:Obj} {l:List (Addr × Obj)} {g:Obj → List (Addr × Obj)} {P:Value → Obj → List (Addr × Obj) → Prop} (U:UpdF a o l g)
    (C:∀ rest, (∀ p ∈ rest, p.1 ≠ a) → Does w mx f dn args ((a, o) :: rest) (fun r n' tl=>∃ o', P r o' tl ∧ n' = (a, o') :: rest)) :
    Does w mx f dn args l (fun r n' tl=>∃ o', P r o' tl ∧ n' = g o'):=by
  refine byP fun _ q9=>?_
  obtain ⟨pre, post, rfl, hg, h1, h2⟩:=U.split
  refine q9 ?_
  intro dp un gd cn cs b ccd cl outer A₀ base h₀ L m s Q E B F X N T hk hd hu ret
  refine C (pre ++ post) (ne_app h1 h2) dp un gd cn cs b ccd cl outer A₀ base h₀ L m s Q E B F X (fun p hp=>N p ?_) T hk hd hu fun r n' tl h' tk' F' N' hl hR=>?_
  · simp only [List.mem_cons, List.mem_append] at hp ⊢
    rcases hp with hp | hp | hp
    · exact .inr (.inl hp)
    · exact .inl hp
    · exact .inr (.inr hp)
  · obtain ⟨o', hP, rfl⟩:=hR
    refine ret r (g o') tl h' tk' F' (fun p hp=>N' p ?_) (fun q hq p hp=>hl q ?_ p hp) ⟨o', hP, rfl⟩
    · rw [hg] at hp
      simp only [List.mem_cons, List.mem_append] at hp ⊢
      rcases hp with (hp | hp | hp) | hp
      · exact .inl (.inr (.inl hp))
      · exact .inl (.inl hp)
      · exact .inl (.inr (.inr hp))
      · exact .inr hp
    · simp only [List.mem_cons, List.mem_append] at hq ⊢
      rcases hq with hq | hq | hq
      · exact .inr (.inl hq)
      · exact .inl hq
      · exact .inr (.inr hq)
inductive Cut (base news':List (Addr × Obj)):List (Addr × Obj) → List (Addr × Obj) → List (Addr × Obj) → Prop
  | here0:Cut base news' news' [] []
  | here {t}:Cut base news' (news' ++ t) [] t
  | hereA {a b}:Cut base news' ((news' ++ a) ++ b) [] (a ++ b)
  | hereB {a b c}:Cut base news' (((news' ++ a) ++ b) ++ c) [] ((a ++ b) ++ c)
  | keep {a o l pre t}:Ne1 a base → Cut base news' l pre t → Cut base news' ((a, o) :: l) ((a, o) :: pre) t
  | drop {p l pre t}:Cut base news' l pre t → Cut base news' (p :: l) pre t
noncomputable def BoxObj (o:Obj) (N:Int):Prop:=∃ g c t1 t2 n, o = listOf #[.int g t1, .int c t2] n ∧ 0 ≤ g ∧ 0 ≤ c ∧ c ≤ N
inductive PV where
  | int (i:Int) | bool (b:Bool) | none | sym (s:Str)
noncomputable def PV.dat:PV → Dat
  | .int i=>.int i | .bool b=>.bool b | .none=>.none | .sym s=>.str s
inductive Pl where
  | plain (v:PV) | text (s:Str) | thing (i:Int) | l0 | l1 (p:Pl) | l2 (p q:Pl) | range (a:Int) (b:Option Int) (o:Bool)
noncomputable def optDat:Option Int → Dat
  | some i=>.int i
  | none=>.none
noncomputable def Pl.dat:Pl → Dat
  | .plain v=>.list [.str (ofString "plain"), v.dat]
  | .text s=>.list [.str (ofString "text"), .str s]
  | .thing i=>.list [.str (ofString "thing"), .int i]
  | .l0=>.list [.str (ofString "list"), .list []]
  | .l1 p=>.list [.str (ofString "list"), .list [p.dat]]
  | .l2 p q=>.list [.str (ofString "list"), .list [p.dat, q.dat]]
  | .range a b o=>.list [.str (ofString "range"), .list [.list [.str (ofString "plain"), .int a], .list [.str (ofString "plain"), optDat b], .list [.str (ofString "plain"), .bool o]]]
noncomputable def Pl.dep:Pl → Nat
  | .l0=>1
  | .l1 p=>p.dep + 1
  | .l2 p q=>max p.dep q.dep + 1
  | .range _ _ _=>1
  | _=>0
noncomputable def PV.Ok:PV → Prop
  | .int i=>i = 0 ∨ i = 1 ∨ i = 2
  | .bool _=>True
  | .none=>True
  | .sym s=>s = ofString "a" ∨ s = ofString "b"
noncomputable def Pl.Ok:Pl → Prop
  | .plain v=>v.Ok
  | .text s=>s = ofString "a" ∨ s = ofString "b" ∨ s = ofString "1"
  | .thing i=>0 ≤ i ∧ i < 3
  | .l0=>True
  | .l1 p=>p.Ok
  | .l2 p q=>p.Ok ∧ q.Ok
  | .range a b _=>(a = 0 ∨ a = 1) ∧ (b = none ∨ b = some 1 ∨ b = some 2)
theorem BoxObj.mono {o:Obj} {a b:Int} (h:BoxObj o a) (k:a ≤ b):BoxObj o b:=by
  refine byP fun _ q9=>?_
  obtain ⟨g, c, t1, t2, n, e, hg, hc, hc2⟩:=h
  refine q9 ?_
  exact ⟨g, c, t1, t2, n, e, hg, hc, by lia⟩
theorem plain7 {v:Value} {a b c d:Tok} (h:v ∈ [Value.int 0 a, .int 1 b, .int 1 c, .int 2 d, .bool true, .bool false, .none]):∃ pv:PV, pv.Ok ∧ DatIn [] v pv.dat:=by
  simp only [List.mem_cons, List.not_mem_nil, or_false] at h
  rcases h with rfl | rfl | rfl | rfl | rfl | rfl | rfl
  · exact ⟨.int 0, .inl rfl, .int _ _⟩
  · exact ⟨.int 1, .inr (.inl rfl), .int _ _⟩
  · exact ⟨.int 1, .inr (.inl rfl), .int _ _⟩
  · exact ⟨.int 2, .inr (.inr rfl), .int _ _⟩
  · exact ⟨.bool true, trivial, .bool _⟩
  · exact ⟨.bool false, trivial, .bool _⟩
  · exact ⟨.none, trivial, .none⟩
theorem sym2 {v:Value} {a b:Tok} (h:v ∈ [Value.str (ofString "a") a, .str (ofString "b") b]):∃ pv:PV, pv.Ok ∧ DatIn [] v pv.dat:=by
  simp only [List.mem_cons, List.not_mem_nil, or_false] at h
  rcases h with rfl | rfl
  · exact ⟨.sym _, .inl rfl, .str _ _⟩
  · exact ⟨.sym _, .inr rfl, .str _ _⟩
theorem text3 {v:Value} {a b c:Tok} (h:v ∈ [Value.str (ofString "a") a, .str (ofString "b") b, .str (ofString "1") c]):∃ x:Str, (x = ofString "a" ∨ x = ofString "b" ∨ x = ofString "1") ∧ DatIn [] v (.str x):=by
  simp only [List.mem_cons, List.not_mem_nil, or_false] at h
  rcases h with rfl | rfl | rfl
  · exact ⟨_, .inl rfl, .str _ _⟩
  · exact ⟨_, .inr (.inl rfl), .str _ _⟩
  · exact ⟨_, .inr (.inr rfl), .str _ _⟩
theorem opt3 {v:Value} {a b:Tok} (h:v ∈ [Value.none, .int 1 a, .int 2 b]):∃ x:Option Int, (x = none ∨ x = some 1 ∨ x = some 2) ∧ DatIn [] v (optDat x):=by
  simp only [List.mem_cons, List.not_mem_nil, or_false] at h
  rcases h with rfl | rfl | rfl
  · exact ⟨_, .inl rfl, .none⟩
  · exact ⟨_, .inr (.inl rfl), .int _ _⟩
  · exact ⟨_, .inr (.inr rfl), .int _ _⟩
set_option genInjectivity false in
structure Amb (w:World) (mx:Mx) where
  dp:Nat
  un:Nat
  gd:Option (List Code)
  cn:Str
  cs:Scope
  L:Addr
  a:Addr
  ccd:Value
  cl:List (Str × Addr)
  outer:List Env
  A₀:Around
  base:Heap
  h₀:Heap
  s:Shared
  B:Below A₀ base outer h₀
  X:(K9 w.params).In h₀
  T:TopX mx h₀
  k:cs.kind = .function
  cp:Option (Scope × List (Str × Addr) × Addr)
noncomputable abbrev Led:=List (Addr × Obj)
noncomputable abbrev Fm:=List (Str × Value)
noncomputable abbrev fm (m:Fm):Str → Option Value:=fun y=>m.lookup y
theorem fm_cons {m:Fm} {x:Str} {v:Value}:(fun y=>if y = x then some v else fm m y) = fm ((x, v) :: m):=funext fun y=>by
  by_cases e:y = x
  · rw [if_pos e, e]; simp [fm]
  · rw [if_neg e]; simp [fm, List.lookup_cons, beq_eq_false_iff_ne.mpr e]
theorem fm_set {h₀ h:Heap} {L:Addr} {m:Fm} {x:Str} {v:Value} (F:Fr h₀ L h (fun y=>if y = x then some v else fm m y)):Fr h₀ L h (fm ((x, v) :: m)):=fm_cons ▸ F
section
variable {w mx}
noncomputable abbrev Amb.env0 (c:Amb w mx):Env:=envX c.cn c.cs c.L c.a c.ccd c.cl
noncomputable def Amb.env (c:Amb w mx):Env:=match c.cp with
  | none=>c.env0
  | some (sc, cl, C)=>compEnvC sc cl C c.env0
theorem Amb.env_of {c:Amb w mx} (h:c.cp = none):c.env = c.env0:=by unfold Amb.env; rw [h]
noncomputable def Kd (c:Amb w mx) (x:Str) (k:NameKind):Prop:=c.cp = none ∧ c.cs.names.lookup x = some k
theorem Kd.of {c:Amb w mx} {sc:Scope} {x:Str} {k:NameKind} (hp:c.cp = none) (h:c.cs = sc) (e:sc.names.lookup x = some k):Kd c x k:=⟨hp, h ▸ e⟩
theorem Kx {c:Amb w mx} {sc:Scope} {x:Str} {k:NameKind} (hp:c.cp = none:=by assumption) (h:c.cs = sc:=by assumption) (e:sc.names.lookup x = some k:=by exact rfl):Kd c x k:=Kd.of hp h e
noncomputable abbrev Amb.A (c:Amb w mx):Around:=ktrTop c.dp c.un c.gd c.cn c.cs c.L c.a c.ccd c.cl c.outer
noncomputable abbrev Amb.st (c:Amb w mx) (h:Heap) (tk:Nat):Shared:={ c.s with heap:=h, toks:=tk }
noncomputable def Amb.Room (c:Amb w mx) (n:Nat):Prop:=∀ d, d < n → c.dp + d < recursionLimit ∧ c.un + 8 * d < cLine
noncomputable def Tv (c:Amb w mx) (m:Fm) (n:Led) {α:Type} (t:Sem α) (P:α → Led → Prop):Prop :=
  ∀ (Q:α → Shared → Prop) (E:Value → Shared → Prop) (h:Heap) (tk:Nat), Fr c.h₀ c.L h (fm m) → News c.h₀ c.L h n →
    (∀ v h' tk' n', Fr c.h₀ c.L h' (fm m) → News c.h₀ c.L h' n' → P v n' → Q v (c.st h' tk')) → wpAny (model PR w) c.A t Q E (c.st h tk)
noncomputable def Ts (c:Amb w mx) (m:Fm) (n:Led) (b:List Stmt) (R:Value → Led → Prop) (K:Fm → Led → Prop):Prop :=
  ∀ (Q:Flow → Shared → Prop) (E:Value → Shared → Prop) (h:Heap) (tk:Nat), PassesOwn (model PR w) c.A c.env E → Fr c.h₀ c.L h (fm m) → News c.h₀ c.L h n →
    (∀ v h' tk' m' n', Fr c.h₀ c.L h' (fm m') → News c.h₀ c.L h' n' → R v n' → Q (.ret v) (c.st h' tk')) → (∀ h' tk' m' n', Fr c.h₀ c.L h' (fm m') → News c.h₀ c.L h' n' → K m' n' → Q .next (c.st h' tk')) → wpAny (model PR w) c.A (execs b c.env) Q E (c.st h tk)
variable {c:Amb w mx} {m:Fm} {n:Led} {R:Value → Led → Prop} {K:Fm → Led → Prop} {rest:List Stmt} {P:Value → Led → Prop}
theorem Tv.re {α:Type} {t:Sem α} {P:α → Led → Prop} {k:Led} (s:∀ p ∈ k, p ∈ n) (h:Tv c m k t P):Tv c m n t P:=fun Q E h₁ tk F N ret=>h Q E h₁ tk F (News.of N s) ret
theorem Ts.re {b:List Stmt} {k:Led} (s:∀ p ∈ k, p ∈ n) (h:Ts c m k b R K):Ts c m n b R K:=fun Q E h₁ tk hE F N r1 r2=>h Q E h₁ tk hE F (News.of N s) r1 r2
theorem Tv.mono {α:Type} {t:Sem α} {P P':α → Led → Prop} (h:Tv c m n t P) (k:∀ v n', P v n' → P' v n'):Tv c m n t P':=fun Q E h₁ tk F N ret=>h Q E h₁ tk F N fun v h' tk' n' F' N' p=>ret v h' tk' n' F' N' (k v n' p)
theorem Ts.nil (h:K m n):Ts c m n [] R K:=fun Q E h₁ tk hE F N r1 r2=>wpAny_execs_nil (r2 _ _ _ _ F N h)
theorem Ts.ret {e:Expr} {pos:Pos} (h:Tv c m n (eval e c.env) R):Ts c m n (.Return (some e) pos :: rest) R K:=fun Q E h₁ tk hE F N r1 r2 =>
  wpAny_execs_cons (wpAny_Return_some (h _ _ _ _ F N fun v h' tk' n' F' N' p=>r1 v h' tk' m n' F' N' p))
theorem Ts.assign {l:Fm} {x:Str} {pos pos':Pos} {e:Expr} (hl:m = l) (h:Tv c m n (eval e c.env) fun v n'=>∀ m', m' = (x, v) :: l → Ts c m' n' rest R K)
    (hx:Kd c x .local) (hs:swapsWith e (some (.Name x pos')) pos.line c.env = pure false):Ts c m n (.Assign [.Name x pos'] e pos :: rest) R K:=fun Q E h₁ tk hE F N r1 r2 =>
  wpAny_execs_cons (wpAny_Assign_Name (h _ _ _ _ F N fun v h' tk' n' F' N' p=>by rw [Amb.env_of hx.1]; exact storeX_L F' N' (fun h'' F'' N''=>Amb.env_of hx.1 ▸ p _ rfl Q E h'' _ hE (hl ▸ fm_set F'') N'' r1 r2) c.k hx.2) hs)
theorem Ts.expr {pos:Pos} {e:Expr} (h:Tv c m n (eval e c.env) fun _ n'=>Ts c m n' rest R K) (hi:c.cp = none) (hs:swapsWith e none pos.line c.env = pure false):Ts c m n (.Expr e pos :: rest) R K:=fun Q E h₁ tk hE F N r1 r2 =>
  wpAny_execs_cons (wpAny_Expr_any (h _ _ _ _ F N fun v h' tk' n' F' N' p=>p Q E h' _ hE F' N' r1 r2) (by rw [Amb.env_of hi]; show (c.cs.kind == .module && _) = false; rw [c.k]; rfl) hs)
theorem Ts.setattr {o:Expr} {f:Str} {pos pos':Pos} {e:Expr} (h:Tv c m n (eval e c.env) fun v n'=>Tv c m n' (eval o c.env) fun ov n₂=>Tv c m n₂ (setAttr ov f v) fun _ n₃=>Ts c m n₃ rest R K)
    (hs:swapsWith e (some (.Attribute o f pos')) pos.line c.env = pure false):Ts c m n (.Assign [.Attribute o f pos'] e pos :: rest) R K:=fun Q E h₁ tk hE F N r1 r2 =>
  wpAny_execs_cons (plainObj_wpAny_Assign_Attribute (h _ _ _ _ F N fun v h' tk' n' F' N' p=>p _ _ _ _ F' N' fun ov h'' tk'' n'' F'' N'' p=>p _ _ _ _ F'' N'' fun _ h3 tk3 n3 F3 N3 p=>p Q E h3 _ hE F3 N3 r1 r2) hs)
theorem Ts.ite {test:Expr} {body orelse:List Stmt} {pos:Pos}
    (h:Tv c m n (PySem.isTrue test c.env (eval test c.env)) fun b n'=>(b = true → Ts c m n' body R fun m₂ n₂=>Ts c m₂ n₂ rest R K) ∧ (b = false → Ts c m n' orelse R fun m₂ n₂=>Ts c m₂ n₂ rest R K)):Ts c m n (.If test body orelse pos :: rest) R K:=fun Q E h₁ tk hE F N r1 r2 =>
  wpAny_execs_cons (wpAny_If (h _ _ _ _ F N fun b h' tk' n' F' N' p=>by
    cases b with
    | true=>exact p.1 rfl _ E h' _ hE F' N' r1 (fun h'' tk'' m'' n'' F'' N'' p=>p Q E h'' _ hE F'' N'' r1 r2)
    | false=>exact p.2 rfl _ E h' _ hE F' N' r1 (fun h'' tk'' m'' n'' F'' N'' p=>p Q E h'' _ hE F'' N'' r1 r2)))
theorem Tv.leaf {α:Type} {t:Sem α} {P:α → Led → Prop} (h:∀ (Q:α → Shared → Prop) (E:Value → Shared → Prop) (h:Heap) (tk:Nat), Fr c.h₀ c.L h (fm m) → News c.h₀ c.L h n → (K9 w.params).In c.h₀ → TopX mx c.h₀ →
    (∀ v h' tk' n', Fr c.h₀ c.L h' (fm m) → News c.h₀ c.L h' n' → P v n' → Q v (c.st h' tk')) → wpAny (model PR w) c.A t Q E (c.st h tk)):Tv c m n t P:=fun Q E h₁ tk F N ret=>h Q E h₁ tk F N c.X c.T ret
theorem both_t {b:Bool} {A B:Prop} (hb:b = true) (h:A):(b = true → A) ∧ (b = false → B):=⟨fun _=>h, fun e=>by rw [hb] at e; cases e⟩
theorem both_f {b:Bool} {A B:Prop} (hb:b = false) (h:B):(b = true → A) ∧ (b = false → B):=⟨fun e=>(by rw [hb] at e; cases e), fun _=>h⟩
theorem look {l:Fm} {x:Str} {v:Value} (h:m = l) (e:l.lookup x = some v):m.lookup x = some v:=by rw [h]; exact e
theorem Tv.loc {x:Str} {pos:Pos} {v:Value} (hv:m.lookup x = some v) (h:P v n) (hx:Kd c x .local) (hd:(x == ("__debug__":Str)) = false):Tv c m n (eval (.Name x pos) c.env) P:=fun Q E h₁ tk F N ret=>Amb.env_of hx.1 ▸ nameX_L F hv (ret _ _ _ _ F N h) c.k hx.2 hd
theorem Tv.cell {x:Str} {pos:Pos} {v:Value} {b:Addr} {o:Obj} (hc:c.cl.lookup x = some b) (hm:(b, o) ∈ n) (ho:o.data = .cell (some v)) (h:P v n) (hx:Kd c x .cell) (hd:(x == ("__debug__":Str)) = false):Tv c m n (eval (.Name x pos) c.env) P:=fun Q E h₁ tk F N ret=>Amb.env_of hx.1 ▸ nameX_C N hc hm ho (ret _ _ _ _ F N h) c.k hx.2 hd
theorem Tv.glob {x:Str} {pos:Pos} {v:Value} (hv:nsIn (K9 w.params) mainGlobals x = some (some v)) (h:P v n) (hx:Kd c x .globalImplicit) (hd:(x == ("__debug__":Str)) = false):Tv c m n (eval (.Name x pos) c.env) P:=fun Q E h₁ tk F N ret=>Amb.env_of hx.1 ▸ nameX_K F c.X (topRead_of c.T) hv (ret _ _ _ _ F N h) c.k hx.2 hd
theorem Tv.blt {x:Str} {pos:Pos} {v:Value} (hv:nsIn (K9 w.params) mainGlobals x = some none) (hb:bootBuiltins x = some v) (hn:x ≠ ofString "__name__") (h:P v n) (hx:Kd c x .globalImplicit) (hd:(x == ("__debug__":Str)) = false):Tv c m n (eval (.Name x pos) c.env) P:=fun Q E h₁ tk F N ret=>Amb.env_of hx.1 ▸ nameX_B F c.X (topRead_of c.T) hv hb hn (ret _ _ _ _ F N h) c.k hx.2 hd
theorem Tv.cint {i:Int} {k:Nat} {pos:Pos} (h:∀ tk, P (.int i tk) n):Tv c m n (eval (.Constant (.int i) k pos) c.env) P:=fun Q E h₁ tk F N ret=>wpAny_Constant_int (ret _ _ _ _ F N (h _))
theorem Tv.cstr {x:Str} {k:Nat} {pos:Pos} (h:∀ tk, P (.str x tk) n):Tv c m n (eval (.Constant (.str x) k pos) c.env) P:=fun Q E h₁ tk F N ret=>PySem.Calls.Constant_str (ret _ _ _ _ F N (h _))
theorem Tv.cnone {k:Nat} {pos:Pos} (h:P .none n):Tv c m n (eval (.Constant .none k pos) c.env) P:=fun Q E h₁ tk F N ret=>wpAny_Constant_none (ret _ _ _ _ F N h)
theorem Tv.cbool {b:Bool} {k:Nat} {pos:Pos} (h:P (.bool b) n):Tv c m n (eval (.Constant (.bool b) k pos) c.env) P:=fun Q E h₁ tk F N ret=>wpAny_Constant_bool (ret _ _ _ _ F N h)
theorem Tv.attr {o:Expr} {f:Str} {pos:Pos} (h:Tv c m n (eval o c.env) fun ov n'=>Tv c m n' (getAttr ov f true) P)
    (he:eval (.Attribute o f pos) c.env = (do let o' ← eval o c.env; standAt (Pos.atName pos); let r ← holding [o'] (getAttr o' f true); letTemporaryGo o o' r; pure r)):Tv c m n (eval (.Attribute o f pos) c.env) P:=fun Q E h₁ tk F N ret =>
  Attribute_any_ (h _ _ _ _ F N fun v h' tk' n' F' N' p=>p Q E h' _ F' N' ret) he
theorem Tv.ifexp {test a b:Expr} {pos:Pos} (h:Tv c m n (PySem.isTrue test c.env (eval test c.env)) fun t n'=>(t = true → Tv c m n' (eval a c.env) P) ∧ (t = false → Tv c m n' (eval b c.env) P)):Tv c m n (eval (.IfExp test a b pos) c.env) P:=fun Q E h₁ tk F N ret =>
  wpAny_IfExp (h _ _ _ _ F N fun b h' tk' n' F' N' p=>by
    cases b with
    | true=>exact p.1 rfl Q E h' _ F' N' ret
    | false=>exact p.2 rfl Q E h' _ F' N' ret)
theorem Tv.args0 {pos:Pos} {P:List Value → Led → Prop} (h:P [] n):Tv c m n (spliced (backTo pos (starEach [] c.env))) P:=fun Q E h₁ tk F N ret=>args_nil (ret _ _ _ _ F N h)
theorem Tv.args1 {e:Expr} {es:List Expr} {pos:Pos} {P:List Value → Led → Prop} (h:Tv c m n (eval e c.env) fun v n'=>Tv c m n' (spliced (backTo pos (starEach es c.env))) fun vs n₂=>P (v :: vs) n₂) (hs:starEach (e :: es) c.env = (false, eval e c.env) :: starEach es c.env):Tv c m n (spliced (backTo pos (starEach (e :: es) c.env))) P:=fun Q E h₁ tk F N ret =>
  args_cons (h _ _ _ _ F N fun v h' tk' n' F' N' p=>p _ E h' _ F' N' fun vs h'' tk'' n'' F'' N'' p=>ret _ _ _ _ F'' N'' p) hs
theorem Tv.callee {f:Expr} {es:List Expr} {pos:Pos} (h:Tv c m n (eval f c.env) fun fv n'=>Tv c m n' (callWith pos fv [] (backTo pos (starEach es c.env)) []) P)
    (he:eval (Expr.Call f es [] pos) c.env = (do let f' ← eval f c.env; callWith pos f' [] (backTo pos (starEach es c.env)) (backToKw pos (keywordEach [] c.env)))):Tv c m n (eval (.Call f es [] pos) c.env) P:=fun Q E h₁ tk F N ret =>
  Call_ (h _ _ _ _ F N fun v h' tk' n' F' N' p=>p Q E h' _ F' N' ret) he
theorem Tv.with1 {f:Value} {first:List Value} {e:Expr} {es:List Expr} {pos:Pos} (hf:keepIn (K9 w.params) f = true) (h:Tv c m n (spliced (backTo pos (starEach (e :: es) c.env))) fun vs n'=>Tv c m n' (call f (first ++ vs)) P)
    (hs:starEach (e :: es) c.env = (false, eval e c.env) :: starEach es c.env) (ha:((backTo pos (starEach es c.env)).any fun x=>x.1) = false):Tv c m n (callWith pos f first (backTo pos (starEach (e :: es) c.env)) []) P:=fun Q E h₁ tk F N ret =>
  callWith_K c.X hf (h _ _ _ _ F N fun v h' tk' n' F' N' p=>⟨c.X.keeps F'.keep, p Q E h' _ F' N' ret⟩) hs ha
theorem Tv.with0 {f:Value} {first:List Value} {pos:Pos} (hf:keepIn (K9 w.params) f = true) (h:Tv c m n (call f (first ++ [])) P):Tv c m n (callWith pos f first (backTo pos (starEach [] c.env)) []) P:=fun Q E h₁ tk F N ret =>
  callWith_K0 (c.X.keeps F.keep) hf (h Q E h₁ tk F N ret)
theorem Tv.withb {id:String} {e:Expr} {es:List Expr} {pos:Pos} (h:Tv c m n (spliced (backTo pos (starEach (e :: es) c.env))) fun vs n'=>Tv c m n' (call (.builtin id) vs) P) (hs:starEach (e :: es) c.env = (false, eval e c.env) :: starEach es c.env) (ha:((backTo pos (starEach es c.env)).any fun x=>x.1) = false):Tv c m n (callWith pos (.builtin id) [] (backTo pos (starEach (e :: es) c.env)) []) P:=fun Q E h₁ tk F N ret =>
  callWith_builtin1 (h _ _ _ _ F N fun v h' tk' n' F' N' p=>p Q E h' _ F' N' ret) hs ha
theorem Tv.witht {T:String} {e:Expr} {es:List Expr} {pos:Pos} (h:Tv c m n (spliced (backTo pos (starEach (e :: es) c.env))) fun vs n'=>Tv c m n' (call (.type T) vs) P) (hs:starEach (e :: es) c.env = (false, eval e c.env) :: starEach es c.env) (ha:((backTo pos (starEach es c.env)).any fun x=>x.1) = false):Tv c m n (callWith pos (.type T) [] (backTo pos (starEach (e :: es) c.env)) []) P:=fun Q E h₁ tk F N ret =>
  callWith_type1 (h _ _ _ _ F N fun v h' tk' n' F' N' p=>p Q E h' _ F' N' ret) hs ha
theorem Tv.withm1 {id:String} {v:Value} {e:Expr} {es:List Expr} {pos:Pos} (h:Tv c m n (spliced (backTo pos (starEach (e :: es) c.env))) fun vs n'=>Tv c m n' (call (.builtin id) (v :: vs)) P) (hs:starEach (e :: es) c.env = (false, eval e c.env) :: starEach es c.env) (ha:((backTo pos (starEach es c.env)).any fun x=>x.1) = false):Tv c m n (callWith pos (.builtin id) [v] (backTo pos (starEach (e :: es) c.env)) []) P:=fun Q E h₁ tk F N ret =>
  callWith_method1 (h _ _ _ _ F N fun v h' tk' n' F' N' p=>p Q E h' _ F' N' ret) hs ha
theorem Tv.meth {o:Expr} {f:Str} {es:List Expr} {apos pos:Pos} {pl:Sem Bool} (h:Tv c m n (eval o c.env) fun ov n'=>Tv c m n' (getMethod ov f pl) fun fx n₂=>Tv c m n₂ (callWith pos fx.1 fx.2 (backTo pos (starEach es c.env)) []) P)
    (he:eval (Expr.Call (.Attribute o f apos) es [] pos) c.env = (do let ov ← eval o c.env; standAt (Pos.atName apos); let x ← holding [ov] (getMethod ov f pl); match x with | (g, first)=>callWith pos g first (backTo pos (starEach es c.env)) [])):Tv c m n (eval (.Call (.Attribute o f apos) es [] pos) c.env) P:=fun Q E h₁ tk F N ret =>
  MethodCall_ (h _ _ _ _ F N fun v h' tk' n' F' N' p=>p _ E h' _ F' N' fun fx h'' tk'' n'' F'' N'' p=>p Q E h'' _ F'' N'' ret) he
theorem Tv.does {f:Addr} {dn d:Nat} {args:List Value} {R':Value → Led → Led → Prop} (C:Does w mx f d args n R') (hr:c.Room dn) (h:∀ r n' tl, Gt n tl → R' r n' tl → P r (n' ++ tl)) (hd:d < dn):Tv c m n (call (.ref f) args) P:=fun Q E h₁ tk F N ret =>
  does_use C c.B F c.X N c.T c.k (hr d hd).1 (hr d hd).2 fun r n' tl h' tk' F' N' g k=>ret r h' tk' _ F' N' (h r n' tl g k)
theorem Tv.doesT {f:Addr} {dn d:Nat} {args:List Value} {R':Value → Led → Led → Prop} (C:Does w mx f d args n R') (hr:c.Room dn) (h0:∀ r n' tl, R' r n' tl → n' = n) (h:∀ r tl, Gt n tl → R' r n tl → P r (n ++ tl)) (hd:d < dn):Tv c m n (call (.ref f) args) P :=
  Tv.does C hr (fun r n' tl g k=>by
    have e:=h0 r n' tl k
    subst e
    exact h r tl g k) hd
theorem Tv.does0 {f:Addr} {dn d:Nat} {args:List Value} {R':Value → Led → Led → Prop} (C:Does w mx f d args n R') (hr:c.Room dn) (h0:∀ r n' tl, R' r n' tl → n' = n ∧ tl = []) (h:∀ r, R' r n [] → P r n) (hd:d < dn):Tv c m n (call (.ref f) args) P :=
  Tv.does C hr (fun r n' tl g k=>by
    have e:=h0 r n' tl k
    rw [e.1, e.2] at k
    rw [e.1, e.2, List.append_nil]
    exact h r k) hd
theorem Tv.cmp1 {l r:Expr} {op:CmpOp} {pos:Pos} {whole:Sem Value} {P:Bool → Led → Prop} (h:Tv c m n (eval l c.env) fun a n'=>Tv c m n' (eval r c.env) fun b n₂=>Tv c m n₂ (compareOp op a b) fun v n₃=>Tv c m n₃ (truthy v) P) (hm:behindInMarks op r = false):Tv c m n (PySem.isTrue (.Compare l [op] [r] pos) c.env whole) P:=fun Q E h₁ tk F N ret =>
  wpAny_isTrue_Compare1 (h _ _ _ _ F N fun v h' tk' n' F' N' p=>p _ E h' _ F' N' fun v h' tk' n' F' N' p=>p _ E h' _ F' N' fun v h' tk' n' F' N' p=>p Q E h' _ F' N' ret) hm
theorem Tv.cmpv {l r:Expr} {op:CmpOp} {pos:Pos} (h:Tv c m n (eval l c.env) fun a n'=>Tv c m n' (eval r c.env) fun b n₂=>Tv c m n₂ (compareOp op a b) P) (hm:behindInMarks op r = false):Tv c m n (eval (.Compare l [op] [r] pos) c.env) P:=fun Q E h₁ tk F N ret =>
  wpAny_Compare1 (h _ _ _ _ F N fun v h' tk' n' F' N' p=>p _ E h' _ F' N' fun v h' tk' n' F' N' p=>p Q E h' _ F' N' ret) hm
theorem Tv.plain {e:Expr} {whole:Sem Value} {P:Bool → Led → Prop} (h:Tv c m n whole fun v n'=>Tv c m n' (truthy v) P) (he:PySem.isTrue e c.env whole = (do let v ← whole; standAt (Expr.pos e); holding [v] (truthy v))):Tv c m n (PySem.isTrue e c.env whole) P:=fun Q E h₁ tk F N ret =>
  isTrue_plain (h _ _ _ _ F N fun v h' tk' n' F' N' p=>p Q E h' _ F' N' ret) he
theorem Tv.not {x:Expr} {pos:Pos} {whole:Sem Value} {P:Bool → Led → Prop} (h:Tv c m n (PySem.isTrue x c.env (eval x c.env)) fun b n'=>P (!b) n'):Tv c m n (PySem.isTrue (.UnaryOp .Not x pos) c.env whole) P:=fun Q E h₁ tk F N ret =>
  isTrue_not (h _ _ _ _ F N fun v h' tk' n' F' N' p=>ret _ _ _ _ F' N' p)
theorem Tv.and0 {pos:Pos} {whole:Sem Value} {P:Bool → Led → Prop} (h:P true n):Tv c m n (PySem.isTrue (.BoolOp .And [] pos) c.env whole) P:=fun Q E h₁ tk F N ret=>isTrue_and_nil (ret _ _ _ _ F N h)
theorem Tv.or0 {pos:Pos} {whole:Sem Value} {P:Bool → Led → Prop} (h:P false n):Tv c m n (PySem.isTrue (.BoolOp .Or [] pos) c.env whole) P:=fun Q E h₁ tk F N ret=>isTrue_or_nil (ret _ _ _ _ F N h)
theorem Tv.and1 {x:Expr} {xs:List Expr} {pos:Pos} {whole:Sem Value} {P:Bool → Led → Prop} (h:Tv c m n (PySem.isTrue x c.env (eval x c.env)) fun b n'=>(b = true → Tv c m n' (PySem.isTrue (.BoolOp .And xs pos) c.env whole) P) ∧ (b = false → P false n')):Tv c m n (PySem.isTrue (.BoolOp .And (x :: xs) pos) c.env whole) P:=fun Q E h₁ tk F N ret =>
  isTrue_and (h _ _ _ _ F N fun b h' tk' n' F' N' p=>by
    cases b with
    | true=>exact p.1 rfl Q E h' _ F' N' ret
    | false=>exact ret _ _ _ _ F' N' (p.2 rfl))
theorem Tv.or1 {x:Expr} {xs:List Expr} {pos:Pos} {whole:Sem Value} {P:Bool → Led → Prop} (h:Tv c m n (PySem.isTrue x c.env (eval x c.env)) fun b n'=>(b = true → P true n') ∧ (b = false → Tv c m n' (PySem.isTrue (.BoolOp .Or xs pos) c.env whole) P)):Tv c m n (PySem.isTrue (.BoolOp .Or (x :: xs) pos) c.env whole) P:=fun Q E h₁ tk F N ret =>
  isTrue_or (h _ _ _ _ F N fun b h' tk' n' F' N' p=>by
    cases b with
    | true=>exact ret _ _ _ _ F' N' (p.1 rfl)
    | false=>exact p.2 rfl Q E h' _ F' N' ret)
theorem Tv.tbool {b:Bool} {P:Bool → Led → Prop} (h:P b n):Tv c m n (truthy (.bool b)) P:=fun Q E h₁ tk F N ret=>wpAny_truthy_bool (ret _ _ _ _ F N h)
theorem Tv.binop {l r:Expr} {op:Operator} {pos:Pos} (h:Tv c m n (eval l c.env) fun a n'=>Tv c m n' (eval r c.env) fun b n₂=>Tv c m n₂ (binaryOp op a b) P):Tv c m n (eval (.BinOp l op r pos) c.env) P:=fun Q E h₁ tk F N ret =>
  wpAny_BinOp (h _ _ _ _ F N fun v h' tk' n' F' N' p=>p _ E h' _ F' N' fun v h' tk' n' F' N' p=>p Q E h' _ F' N' ret)
theorem Tv.sub {v s:Expr} {pos:Pos} (h:Tv c m n (eval v c.env) fun a n'=>Tv c m n' (eval s c.env) fun b n₂=>Tv c m n₂ (subscriptTail v s a b) P):Tv c m n (eval (.Subscript v s pos) c.env) P:=fun Q E h₁ tk F N ret =>
  Subscript_ (h _ _ _ _ F N fun v h' tk' n' F' N' p=>p _ E h' _ F' N' fun v h' tk' n' F' N' p=>p Q E h' _ F' N' ret)
theorem Tv.tuple {vs:List Value} (h:∀ D, (∀ p ∈ n, p.1 < D) → P (.ref D) ((D, { cls:=.type "tuple", data:=.seq vs.toArray }) :: n)) (hz:vs.length ≤ sizeLine):Tv c m n (newTuple vs) P:=fun Q E h₁ tk F N ret=>kup_newTuple F N (fun D h' F' N' l=>ret _ _ _ _ F' N' (h D l)) hz
theorem Tv.list {vs:List Value} (h:∀ D, (∀ p ∈ n, p.1 < D) → P (.ref D) ((D, listOf vs.toArray 0) :: n)) (hz:vs.length ≤ sizeLine):Tv c m n (newList vs) P:=fun Q E h₁ tk F N ret=>newList_K F N (fun D h' F' N' l=>ret _ _ _ _ F' N' (h D l)) hz
theorem Tv.listx {es:List Expr} {pos:Pos} (h:Tv c m n (spliced (backTo pos (starEach es c.env))) fun vs n'=>Tv c m n' (newList vs) P):Tv c m n (eval (.List es pos) c.env) P:=fun Q E h₁ tk F N ret =>
  List_ (h _ _ _ _ F N fun v h' tk' n' F' N' p=>p Q E h' _ F' N' ret)
noncomputable def FieldOk (w:World) (C:Addr) (f:Str) (attr:Option Value):Prop:=plainGet (K9 w.params) C f = true ∧ hasDictIn (K9 w.params) C = true ∧ findIn (K9 w.params) (.ref C) f = some attr ∧ noGet (K9 w.params) attr = true
theorem Tv.get {x C d:Addr} {es:List DictEntry} {k:Nat} {f:Str} {v:Value} {b:Bool} {attr:Option Value} (h1:(x, instObj C d) ∈ n) (h2:(d, dictOf es k) ∈ n) (hf:FieldOk w C f attr) (hv:getL f es = some (some v)) (hh:handedIn v = true) (h:P v n):Tv c m n (getAttr (.ref x) f b) P:=fun Q E h₁ tk F N ret =>
  get_own F c.X (InstAt.of_news N h1 h2) hf.1 hf.2.1 hf.2.2.1 hf.2.2.2 hv hh (ret _ _ _ _ F N h)
noncomputable def MethOk (w:World) (C:Addr) (f:Str) (g:Addr):Prop:=plainGet (K9 w.params) C f = true ∧ findIn (K9 w.params) (.ref C) f = some (some (.ref g)) ∧ isFn (K9 w.params) (.ref g) = true
theorem Tv.getm {x C d:Addr} {es:List DictEntry} {k:Nat} {f:Str} {g:Addr} {pl:Sem Bool} {P:Value × List Value → Led → Prop} (h1:(x, instObj C d) ∈ n) (h2:(d, dictOf es k) ∈ n) (hf:MethOk w C f g) (hv:getL f es = some none) (h:P (.ref g, [.ref x]) n):Tv c m n (getMethod (.ref x) f pl) P:=fun Q E h₁ tk F N ret =>
  method_inst F c.X (InstAt.of_news N h1 h2) hf.1 hf.2.1 hf.2.2 hv (ret _ _ _ _ F N h)
end
section
variable {w mx} {name qual:Str} {params:Arguments} {body:List Stmt} {scope:Scope} {dV kV doc pm cdv ct oc:Value} {an od:Option Addr} {osl:Array (Option Value)} {f:Addr} {args:List Value} {binds:List (Str × Value)} {dn:Nat} {news:Led} {R:Value → Led → Led → Prop} {bm:Fm}
noncomputable def Owes (news:Led) (R:Value → Led → Led → Prop) (r:Value) (n:Led):Prop:=∃ news' tl, (∀ p ∈ news' ++ tl, p ∈ n) ∧ Gt news tl ∧ R r news' tl
theorem Owes.map {R':Value → Led → Led → Prop} {r:Value} {n:Led} (h:∀ r n tl, R r n tl → R' r n tl) (o:Owes news R r n):Owes news R' r n:=o.elim fun a o=>o.elim fun b o=>⟨a, b, o.1, o.2.1, h _ _ _ o.2.2⟩
theorem Owes.same {r:Value} (h:R r news []):Owes news R r news:=⟨news, [], fun p hp=>by rwa [List.append_nil] at hp, Gt.nil, h⟩
structure Ex (l n tl:Led):Prop where
  sub:∀ p ∈ l ++ tl, p ∈ n
  gt:Gt l tl
theorem Ex.old {l n tl:Led} (h:Ex l n tl):∀ p ∈ l, p ∈ n:=fun p hp=>h.sub p (iL hp)
theorem Ex.tail {l n tl:Led} (h:Ex l n tl):∀ p ∈ tl, p ∈ n:=fun p hp=>h.sub p (iR hp)
theorem Ex.of {l n:Led} (h:∀ p ∈ l, p ∈ n):Ex l n []:=⟨fun p hp=>h p (by rwa [List.append_nil] at hp), Gt.nil⟩
theorem Ex.add {l n tl:Led} {D:Addr} {o:Obj} (h:Ex l n tl) (hD:∀ p ∈ n, (p.1:Nat) ≠ D):Ex l ((D, o) :: n) ((D, o) :: tl) :=
  ⟨fun p hp=>(List.mem_append.mp hp).elim (fun k=>iC (h.old p k)) (fun k=>(List.mem_cons.mp k).elim (fun e=>e ▸ iH) fun k=>iC (h.tail p k)), fun q hq p hp=>(List.mem_cons.mp hp).elim (fun e=>e ▸ hD q (h.old q hq)) fun k=>h.gt q hq p k⟩
theorem Ex.new {l n tl:Led} {D:Addr} {o:Obj} (h:Ex l n tl) (hD:∀ p ∈ n, p.1 < D):Ex l ((D, o) :: n) ((D, o) :: tl):=h.add fun p hp=>Nat.ne_of_lt (hD p hp)
theorem Ex.app {l n tl t:Led} (h:Ex l n tl) (g:Gt n t):Ex l (n ++ t) (tl ++ t) :=
  ⟨fun p hp=>(List.mem_append.mp hp).elim (fun k=>iL (h.old p k)) (fun k=>(List.mem_append.mp k).elim (fun k=>iL (h.tail p k)) fun k=>iR k), Gt.app h.gt (Gt.sub h.old g)⟩
theorem Ex.owes {l n tl:Led} (h:Ex l n tl) {r:Value} {R:Value → Led → Led → Prop} (k:R r l tl):Owes l R r n:=⟨l, tl, h.sub, h.gt, k⟩
theorem room_a {dp dn d lim:Nat} (h:dp + dn < lim) (hd:d < dn):dp + 1 + d < lim:=by lia
theorem room_b {un dn d lim:Nat} (h:un + 8 * dn < lim) (hd:d < dn):un + 3 + 8 * d < lim:=by lia
theorem room_c {dp dn lim:Nat} (h:dp + dn < lim):dp < lim:=Nat.lt_of_le_of_lt (Nat.le_add_right _ _) h
theorem does_enter (ho:(K9 w.params).lookup f = some ⟨oc, od, .func (fnOf name qual params body scope dV kV doc pm an cdv ct), osl⟩) (hcd:codeIn (K9 w.params) cdv qual = true)
    (hb:∀ s:Shared, (K9 w.params).In s.heap → BindsTo s (fnOf name qual params body scope dV kV doc pm an cdv ct) ⟨args, []⟩ binds)
    (hl:(binds.all fun x=>decide (scope.names.lookup x.1 = some .local)) = true) (hco:scope.isCoroutine = false) (hg:scope.isGenerator = false) (hk:scope.kind = .function) (hc:(scope.names.all fun x=>decide (x.2 ≠ .cell)) = true) (hd:0 < dn) (hbm:binds.reverse = bm)
    (h:∀ (c:Amb w mx) (m:Fm), m = bm → c.cp = none → c.cs = scope → c.cl = [] → c.Room dn → Ts c m news body (Owes news R) fun _ n=>Owes news R .none n):Does w mx f dn args news R:=by
  intro dp un gd cn cs a ccd cl outer A₀ base h₀ L m s Q E B F X N T hkd hdd hu hret
  refine wpAny_call ?_
  refine code_def (A₀:=A₀) (base:=base) B F X N T rfl rfl hkd ho hcd (room_c hdd) (hb s (X.keeps F.keep)) (locs hl) (fun g' L' h' FG F' N' B' X' T'=>?_) hco hg hk (fun x hx=>by simpa using List.all_eq_true.mp hc x hx)
  have owe:∀ v h'' tk'' m'' n'', Fr g' L' h'' (fm m'') → News g' L' h'' n'' → Owes news R v n'' → LeaveK h₀ L m g' (fun r s'=>match r with | .ok (.ret v)=>Q v s' | .ok _=>False | .error e=>E e s') v { s with heap:=h'', toks:=tk'' }:=fun v h'' tk'' m'' n'' F'' N'' ⟨news', tl, hs, hg, hR⟩ =>
    ⟨L', fm m'', n'', F'', N'', fun F3 N3=>hret v news' tl h'' tk'' F3 (News.of N3 hs) hg hR⟩
  exact h ⟨dp + 1, un + 3, gd, qual, scope, L', f, cdv, [], envX cn cs L a ccd cl :: outer, ktrTop dp un gd cn cs L a ccd cl outer, base, g', s, B', X', T', hk, none⟩ binds.reverse hbm rfl rfl rfl
    (fun d hd=>⟨room_a hdd hd, room_b hu hd⟩) _ _ h' _ (by passes_own) F' N' (fun v h'' tk'' m'' n'' F'' N'' o=>owe v h'' tk'' m'' n'' F'' N'' o) (fun h'' tk'' m'' n'' F'' N'' o=>owe .none h'' tk'' m'' n'' F'' N'' o)
theorem cls_enter {C:Addr} {binds:Addr → List (Str × Value)} {bmx:Addr → Fm} (mk:makesIn (K9 w.params) C = true) (hi:findIn (K9 w.params) (.ref C) "__init__" = some (some (.ref f))) (hfn:isFn (K9 w.params) (.ref f) = true)
    (ho:(K9 w.params).lookup f = some ⟨oc, od, .func (fnOf name qual params body scope dV kV doc pm an cdv ct), osl⟩) (hcd:codeIn (K9 w.params) cdv qual = true)
    (hb:∀ (x:Addr) (s:Shared), (K9 w.params).In s.heap → BindsTo s (fnOf name qual params body scope dV kV doc pm an cdv ct) ⟨.ref x :: args, []⟩ (binds x))
    (hl:∀ x, ((binds x).all fun y=>decide (scope.names.lookup y.1 = some .local)) = true) (hco:scope.isCoroutine = false) (hg:scope.isGenerator = false) (hk:scope.kind = .function) (hc:(scope.names.all fun x=>decide (x.2 ≠ .cell)) = true) (hd:1 < dn) (hbm:∀ x, (binds x).reverse = bmx x)
    (h:∀ (c:Amb w mx) (m:Fm) (x d:Addr), m = bmx x → c.cp = none → c.cs = scope → c.cl = [] → c.Room (dn - 1) → (∀ p ∈ news, p.1 < d) → @LT.lt Nat _ d x → Ts c m ((x, instObj C d) :: (d, dictOf [] 0) :: news) body (fun v n=>v = .none ∧ Owes news R (.ref x) n) fun _ n=>Owes news R (.ref x) n):Does w mx C dn args news R:=by
  intro dp un gd cn cs a ccd cl outer A₀ base h₀ L m s Q E B F X N T hkd hdd hu hret
  refine call_cls F X N mk hi hfn fun x d h' F' N' l1 l2=>?_
  have X':=X.keeps F'.keep
  refine code_def (A₀:=A₀) (base:=base) B F' X N' T rfl rfl hkd ho hcd (by show dp + 1 < recursionLimit; lia) (hb x _ X') (locs (hl x)) (fun g' L' h'' FG F'' N'' B' X' T'=>?_) hco hg hk (fun x hx=>by simpa using List.all_eq_true.mp hc x hx)
  have owe:∀ h3 tk3 m3 n3, Fr g' L' h3 (fm m3) → News g' L' h3 n3 → Owes news R (.ref x) n3 → LeaveK h₀ L m g' (InitBack x fun r s'=>match r with | .ok (.ret v)=>Q v s' | .ok _=>False | .error e=>E e s') .none { s with heap:=h3, toks:=tk3 }:=fun h3 tk3 m3 n3 F3 N3 ⟨news', tl, hs, hg, hR⟩ =>
    ⟨L', fm m3, n3, F3, N3, fun F4 N4=>⟨rfl, hret _ news' tl h3 tk3 F4 (News.of N4 hs) hg hR⟩⟩
  exact h ⟨dp + 1 + 1, un + 1 + 3, gd, qual, scope, L', f, cdv, [], envX cn cs L a ccd cl :: outer, (ktrTop dp un gd cn cs L a ccd cl outer).under (.builtin "type.__call__" ⟨.ref C :: args, []⟩), base, g', s, B', X', T', hk, none⟩ (binds x).reverse x d (hbm x) rfl rfl rfl
    (fun d hd=>⟨by show dp + 1 + 1 + d < _; lia, by show un + 1 + 3 + 8 * d < _; lia⟩) l1 l2 _ _ h'' _ (by passes_own) F'' N'' (fun v h3 tk3 m3 n3 F3 N3 o=>by obtain ⟨rfl, o⟩:=o; exact owe h3 tk3 m3 n3 F3 N3 o) (fun h3 tk3 m3 n3 F3 N3 o=>owe h3 tk3 m3 n3 F3 N3 o)
noncomputable def locsOf (names:List (Str × NameKind)):List (Str × Value) → Fm → Fm
  | [], l=>l
  | (x, v) :: r, l=>locsOf names r (if names.lookup x = some .local then (x, v) :: l else l)
theorem bindL_locs {k:Str → Option NameKind} {names:List (Str × NameKind)} (hk:∀ x, k x = names.lookup x):∀ (bs:List (Str × Value)) (l:Fm), bindL k bs (fm l) = fm (locsOf names bs l)
  | [], l=>rfl
  | (x, v) :: r, l=>by
    unfold bindL locsOf
    rw [hk x]
    split
    · rw [← bindL_locs hk r, fm_cons]
    · exact bindL_locs hk r l
theorem does_enterC (ho:(K9 w.params).lookup f = some ⟨oc, od, .func (fnOf name qual params body scope dV kV doc pm an cdv ct), osl⟩) (hcd:codeIn (K9 w.params) cdv qual = true)
    (hb:∀ s:Shared, (K9 w.params).In s.heap → BindsTo s (fnOf name qual params body scope dV kV doc pm an cdv ct) ⟨args, []⟩ binds)
    (hl:(binds.all fun y=>scope.names.lookup y.1 == some .local || scope.names.lookup y.1 == some .cell) = true) (hnd:((cellsFrom 0 scope.names []).map (·.1)).Nodup) (hco:scope.isCoroutine = false) (hg:scope.isGenerator = false) (hk:scope.kind = .function) (hd:0 < dn) (hbm:locsOf scope.names binds [] = bm)
    (h:∀ (c:Amb w mx) (m:Fm) (cells:Led), m = bm → c.cp = none → c.cs = scope → c.cl = cellsFrom (c.L + 1) scope.names [] → CellsAre (bindC (fun x=>scope.names.lookup x) binds fun _=>none) (cellsFrom (c.L + 1) scope.names []) cells → (∀ p ∈ news, p.1 < c.L) → c.Room dn → Ts c m (cells ++ news) body (Owes news R) fun _ n=>Owes news R .none n):Does w mx f dn args news R:=by
  intro dp un gd cn cs a ccd cl outer A₀ base h₀ L m s Q E B F X N T hkd hdd hu hret
  refine wpAny_call ?_
  refine code_defC (A₀:=A₀) (base:=base) B F X N T rfl rfl hkd ho hcd (room_c hdd) (hb s (X.keeps F.keep)) hl hnd (fun g' L' h' tk' cells FG F' N' Y B' X' T' lt=>?_) hco hg hk
  have owe:∀ v h'' tk'' m'' n'', Fr g' L' h'' (fm m'') → News g' L' h'' n'' → Owes news R v n'' → LeaveK h₀ L m g' (fun r s'=>match r with | .ok (.ret v)=>Q v s' | .ok _=>False | .error e=>E e s') v { s with heap:=h'', toks:=tk'' }:=fun v h'' tk'' m'' n'' F'' N'' ⟨news', tl, hs, hg, hR⟩ =>
    ⟨L', fm m'', n'', F'', N'', fun F3 N3=>hret v news' tl h'' tk'' F3 (News.of N3 hs) hg hR⟩
  have F2:Fr g' L' h' (fm (locsOf scope.names binds [])):=by
    rw [← bindL_locs (k:=(envOfC qual scope L' f cdv).kindOf) (names:=scope.names) (fun x=>rfl)]
    exact F'
  exact h ⟨dp + 1, un + 3, gd, qual, scope, L', f, cdv, cellsFrom (L' + 1) scope.names [], envX cn cs L a ccd cl :: outer, ktrTop dp un gd cn cs L a ccd cl outer, base, g', s, B', X', T', hk, none⟩ (locsOf scope.names binds []) cells hbm rfl rfl rfl Y lt
    (fun d hd=>⟨room_a hdd hd, room_b hu hd⟩) _ _ h' _ (by passes_own) F2 N' (fun v h'' tk'' m'' n'' F'' N'' o=>owe v h'' tk'' m'' n'' F'' N'' o) (fun h'' tk'' m'' n'' F'' N'' o=>owe .none h'' tk'' m'' n'' F'' N'' o)
end
example:PySem.Challenge.rw_nz0048_01.Holds → (∃ w, KK w = K9 w.params) → True:=by
  k_fill
  intros; trivial
section
variable {w mx} {c:Amb w mx} {m l:Fm} {n:Led} {R:Value → Led → Prop} {K:Fm → Led → Prop} {rest:List Stmt} {P:Value → Led → Prop}
noncomputable def Ev (c:Amb w mx) (m:Fm) (n:Led) (e:Expr) (v:Value):Prop:=∀ P:Value → Led → Prop, P v n → Tv c m n (eval e c.env) P
noncomputable def Evs (c:Amb w mx) (m:Fm) (n:Led) (es:List Expr) (vs:List Value):Prop:=∀ (pos:Pos) (P:List Value → Led → Prop), P vs n → Tv c m n (spliced (backTo pos (starEach es c.env))) P
noncomputable def Te (c:Amb w mx) (m:Fm) (n:Led) (e:Expr) (b:Bool):Prop:=∀ P:Bool → Led → Prop, P b n → Tv c m n (PySem.isTrue e c.env (eval e c.env)) P
theorem Ev.loc {x:Str} {pos:Pos} {v:Value} (hl:m = l) (hv:l.lookup x = some v) (hx:Kd c x .local) (hd:(x == ("__debug__":Str)) = false):Ev c m n (.Name x pos) v:=fun P h=>Tv.loc (look hl hv) h hx hd
theorem Ev.cell {x:Str} {pos:Pos} {v:Value} {b:Addr} {o:Obj} (hc:c.cl.lookup x = some b) (hm:(b, o) ∈ n) (ho:o.data = .cell (some v)) (hx:Kd c x .cell) (hd:(x == ("__debug__":Str)) = false):Ev c m n (.Name x pos) v:=fun P h=>Tv.cell hc hm ho h hx hd
theorem Ev.glob {x:Str} {pos:Pos} {v:Value} (hv:nsIn (K9 w.params) mainGlobals x = some (some v)) (hx:Kd c x .globalImplicit) (hd:(x == ("__debug__":Str)) = false):Ev c m n (.Name x pos) v:=fun P h=>Tv.glob hv h hx hd
theorem Ev.none {k:Nat} {pos:Pos}:Ev c m n (.Constant .none k pos) .none:=fun P h=>Tv.cnone h
theorem Ev.bool {b:Bool} {k:Nat} {pos:Pos}:Ev c m n (.Constant (.bool b) k pos) (.bool b):=fun P h=>Tv.cbool h
theorem Evs.nil:Evs c m n [] []:=fun pos P h=>Tv.args0 h
theorem Evs.cons {e:Expr} {es:List Expr} {v:Value} {vs:List Value} (h1:Ev c m n e v) (h2:Evs c m n es vs) (hs:starEach (e :: es) c.env = (false, eval e c.env) :: starEach es c.env):Evs c m n (e :: es) (v :: vs):=fun pos P h=>Tv.args1 (h1 _ (h2 _ _ h)) hs
theorem Ts.ift {test:Expr} {body orelse:List Stmt} {pos:Pos} (ht:Te c m n test true) (h:Ts c m n body R fun m₂ n₂=>Ts c m₂ n₂ rest R K):Ts c m n (.If test body orelse pos :: rest) R K:=Ts.ite (ht _ (both_t rfl h))
theorem Ts.iff {test:Expr} {body orelse:List Stmt} {pos:Pos} (ht:Te c m n test false) (h:Ts c m n orelse R fun m₂ n₂=>Ts c m₂ n₂ rest R K):Ts c m n (.If test body orelse pos :: rest) R K:=Ts.ite (ht _ (both_f rfl h))
theorem Ts.skip {test:Expr} {body:List Stmt} {pos:Pos} (ht:Te c m n test false) (h:Ts c m n rest R K):Ts c m n (.If test body [] pos :: rest) R K:=Ts.iff ht (Ts.nil h)
theorem Ts.hand {test e:Expr} {orelse:List Stmt} {pos p2:Pos} (ht:Te c m n test true) (h:Tv c m n (eval e c.env) R):Ts c m n (.If test [.Return (some e) p2] orelse pos :: rest) R K:=Ts.ift ht (Ts.ret h)
theorem Tv.ext {test a b:Expr} {pos:Pos} (ht:Te c m n test true) (h:Tv c m n (eval a c.env) P):Tv c m n (eval (.IfExp test a b pos) c.env) P:=Tv.ifexp (ht _ (both_t rfl h))
theorem Tv.exf {test a b:Expr} {pos:Pos} (ht:Te c m n test false) (h:Tv c m n (eval b c.env) P):Tv c m n (eval (.IfExp test a b pos) c.env) P:=Tv.ifexp (ht _ (both_f rfl h))
theorem Te.isNone {x:Str} {p1 p2 p3:Pos} {k:Nat} {v:Value} {b:Bool} (h1:Ev c m n (.Name x p1) v) (hb:∀ (A:Around) (Q:Value → Shared → Prop) (E:Value → Shared → Prop) (s:Shared), Q (.bool b) s → wpAny (model PR w) A (compareOp .Is v .none) Q E s):Te c m n (.Compare (.Name x p1) [.Is] [.Constant .none k p2] p3) b:=fun P h =>
  Tv.cmp1 (h1 _ (Tv.cnone (fun Q E h₁ tk F N ret=>hb _ _ _ _ (ret _ _ _ _ F N (Tv.tbool h))))) rfl
theorem Te.eqs {x y:Str} {p1 p2 p3:Pos} {k:Nat} {u:Str} {t:Tok} {b:Bool} (h1:Ev c m n (.Name x p1) (.str u t)) (hb:(u == y) = b):Te c m n (.Compare (.Name x p1) [.Eq] [.Constant (.str y) k p2] p3) b:=fun P h =>
  Tv.cmp1 (h1 _ (Tv.cstr (fun tk Q E h₁ tk F N ret=>eq_str (ret _ _ _ _ F N (Tv.tbool (by rw [hb]; exact h)))))) rfl
theorem Te.nes {x y:Str} {p1 p2 p3:Pos} {k:Nat} {u:Str} {t:Tok} {b:Bool} (h1:Ev c m n (.Name x p1) (.str u t)) (hb:(u != y) = b):Te c m n (.Compare (.Name x p1) [.NotEq] [.Constant (.str y) k p2] p3) b:=fun P h =>
  Tv.cmp1 (h1 _ (Tv.cstr (fun tk Q E h₁ tk F N ret=>ne_str (ret _ _ _ _ F N (Tv.tbool (by rw [hb]; exact h)))))) rfl
noncomputable def Isi (w:World) (mx:Mx) (l:Led) (v:Value) (x:Str) (b:Bool):Prop :=
  ∃ cv:Value, (nsIn (K9 w.params) mainGlobals x = some (some cv) ∨ (nsIn (K9 w.params) mainGlobals x = some none ∧ bootBuiltins x = some cv ∧ x ≠ ofString "__name__")) ∧ (x == ("__debug__":Str)) = false ∧
    ∀ (c:Amb w mx) (m:Fm) (n:Led) (P:Value → Led → Prop), (∀ p ∈ l, p ∈ n) → P (.bool b) n → Tv c m n (call (.builtin "isinstance") [v, cv]) P
theorem isi_name:nsIn (K9 w.params) mainGlobals (ofString "isinstance") = some none:=by k_is
theorem Te.isi {x y:Str} {p1 p2 p3 p4:Pos} {v:Value} {k:Led} {b:Bool} (h1:Ev c m n (.Name x p1) v) (hi:Isi w mx k v y b) (hs:∀ p ∈ k, p ∈ n) (hk:Kd c (ofString "isinstance") .globalImplicit) (hy:Kd c y .globalImplicit):Te c m n (.Call (.Name (ofString "isinstance") p2) [.Name x p1, .Name y p3] [] p4) b:=fun P h=>by
  refine byP fun _ q9=>?_
  obtain ⟨cv, hn, hd, hi⟩:=hi
  refine q9 ?_
  refine Tv.plain (Tv.callee (Tv.blt isi_name (by boot_fast) (by decide) (Tv.withb (Tv.args1 (h1 _ (Tv.args1 ?_ rfl)) rfl) rfl rfl) hk rfl) rfl) rfl
  have go:Tv c m n (call (.builtin "isinstance") [v, cv]) fun v n'=>Tv c m n' (truthy v) P:=hi c m n _ hs (Tv.tbool h)
  rcases hn with hn | ⟨h2, h3, h4⟩
  · exact Tv.glob hn (Tv.args0 go) hy hd
  · exact Tv.blt h2 h3 h4 (Tv.args0 go) hy hd
end
theorem isi_bool_bool {w mx} {l:Led} {b:Bool}:Isi w mx l (Value.bool b) (ofString "bool") true:=by refine ⟨_, .inr ⟨by k_is, by k_dflt boot_fast, by decide⟩, rfl, fun c m n P hs h=>?_⟩; refine' Tv.leaf ?_; intro _ _ _ _ F N _ _ r; walk1; exact r _ _ _ _ F N h
theorem isi_int_bool {w mx} {l:Led} {i:Int} {t:Tok}:Isi w mx l (Value.int i t) (ofString "bool") false:=by refine ⟨_, .inr ⟨by k_is, by k_dflt boot_fast, by decide⟩, rfl, fun c m n P hs h=>?_⟩; refine' Tv.leaf ?_; intro _ _ _ _ F N _ _ r; walk1; exact r _ _ _ _ F N h
theorem isi_int_int {w mx} {l:Led} {i:Int} {t:Tok}:Isi w mx l (Value.int i t) (ofString "int") true:=by refine ⟨_, .inr ⟨by k_is, by k_dflt boot_fast, by decide⟩, rfl, fun c m n P hs h=>?_⟩; refine' Tv.leaf ?_; intro _ _ _ _ F N _ _ r; walk1; exact r _ _ _ _ F N h
theorem isi_str_bool {w mx} {l:Led} {s:Str} {t:Tok}:Isi w mx l (Value.str s t) (ofString "bool") false:=by refine ⟨_, .inr ⟨by k_is, by k_dflt boot_fast, by decide⟩, rfl, fun c m n P hs h=>?_⟩; refine' Tv.leaf ?_; intro _ _ _ _ F N _ _ r; walk1; exact r _ _ _ _ F N h
theorem isi_str_int {w mx} {l:Led} {s:Str} {t:Tok}:Isi w mx l (Value.str s t) (ofString "int") false:=by refine ⟨_, .inr ⟨by k_is, by k_dflt boot_fast, by decide⟩, rfl, fun c m n P hs h=>?_⟩; refine' Tv.leaf ?_; intro _ _ _ _ F N _ _ r; walk1; exact r _ _ _ _ F N h
theorem isi_str_str {w mx} {l:Led} {s:Str} {t:Tok}:Isi w mx l (Value.str s t) (ofString "str") true:=by refine ⟨_, .inr ⟨by k_is, by k_dflt boot_fast, by decide⟩, rfl, fun c m n P hs h=>?_⟩; refine' Tv.leaf ?_; intro _ _ _ _ F N _ _ r; walk1; exact r _ _ _ _ F N h
theorem isi_40_bool {w mx} {l:Led} {a d:Addr} {es:List DictEntry} {k:Nat} (h1:(a, instObj 40 d) ∈ l) (h2:(d, dictOf es k) ∈ l):Isi w mx l (.ref a) (ofString "bool") false:=by
  refine ⟨_, .inr ⟨by k_is, by k_dflt boot_fast, by decide⟩, rfl, fun c m n P hs h=>?_⟩
  replace h1:=hs _ h1
  replace h2:=hs _ h2
  refine' Tv.leaf ?_; intro _ _ _ _ F N _ _ r; walk1; exact r _ _ _ _ F N h
theorem isi_40_int {w mx} {l:Led} {a d:Addr} {es:List DictEntry} {k:Nat} (h1:(a, instObj 40 d) ∈ l) (h2:(d, dictOf es k) ∈ l):Isi w mx l (.ref a) (ofString "int") false:=by
  refine ⟨_, .inr ⟨by k_is, by k_dflt boot_fast, by decide⟩, rfl, fun c m n P hs h=>?_⟩
  replace h1:=hs _ h1
  replace h2:=hs _ h2
  refine' Tv.leaf ?_; intro _ _ _ _ F N _ _ r; walk1; exact r _ _ _ _ F N h
theorem isi_40_str {w mx} {l:Led} {a d:Addr} {es:List DictEntry} {k:Nat} (h1:(a, instObj 40 d) ∈ l) (h2:(d, dictOf es k) ∈ l):Isi w mx l (.ref a) (ofString "str") false:=by
  refine ⟨_, .inr ⟨by k_is, by k_dflt boot_fast, by decide⟩, rfl, fun c m n P hs h=>?_⟩
  replace h1:=hs _ h1
  replace h2:=hs _ h2
  refine' Tv.leaf ?_; intro _ _ _ _ F N _ _ r; walk1; exact r _ _ _ _ F N h
theorem isi_40_Text {w mx} {l:Led} {a d:Addr} {es:List DictEntry} {k:Nat} (h1:(a, instObj 40 d) ∈ l) (h2:(d, dictOf es k) ∈ l):Isi w mx l (.ref a) (ofString "Text") false:=by
  refine ⟨_, .inl (by k_is), rfl, fun c m n P hs h=>?_⟩
  replace h1:=hs _ h1
  replace h2:=hs _ h2
  refine' Tv.leaf ?_; intro _ _ _ _ F N _ _ r; walk1; exact r _ _ _ _ F N h
theorem isi_40_ListThing {w mx} {l:Led} {a d:Addr} {es:List DictEntry} {k:Nat} (h1:(a, instObj 40 d) ∈ l) (h2:(d, dictOf es k) ∈ l):Isi w mx l (.ref a) (ofString "ListThing") false:=by
  refine ⟨_, .inl (by k_is), rfl, fun c m n P hs h=>?_⟩
  replace h1:=hs _ h1
  replace h2:=hs _ h2
  refine' Tv.leaf ?_; intro _ _ _ _ F N _ _ r; walk1; exact r _ _ _ _ F N h
theorem isi_40_RangeThing {w mx} {l:Led} {a d:Addr} {es:List DictEntry} {k:Nat} (h1:(a, instObj 40 d) ∈ l) (h2:(d, dictOf es k) ∈ l):Isi w mx l (.ref a) (ofString "RangeThing") false:=by
  refine ⟨_, .inl (by k_is), rfl, fun c m n P hs h=>?_⟩
  replace h1:=hs _ h1
  replace h2:=hs _ h2
  refine' Tv.leaf ?_; intro _ _ _ _ F N _ _ r; walk1; exact r _ _ _ _ F N h
theorem isi_62_bool {w mx} {l:Led} {a d:Addr} {es:List DictEntry} {k:Nat} (h1:(a, instObj 62 d) ∈ l) (h2:(d, dictOf es k) ∈ l):Isi w mx l (.ref a) (ofString "bool") false:=by
  refine ⟨_, .inr ⟨by k_is, by k_dflt boot_fast, by decide⟩, rfl, fun c m n P hs h=>?_⟩
  replace h1:=hs _ h1
  replace h2:=hs _ h2
  refine' Tv.leaf ?_; intro _ _ _ _ F N _ _ r; walk1; exact r _ _ _ _ F N h
theorem isi_62_int {w mx} {l:Led} {a d:Addr} {es:List DictEntry} {k:Nat} (h1:(a, instObj 62 d) ∈ l) (h2:(d, dictOf es k) ∈ l):Isi w mx l (.ref a) (ofString "int") false:=by
  refine ⟨_, .inr ⟨by k_is, by k_dflt boot_fast, by decide⟩, rfl, fun c m n P hs h=>?_⟩
  replace h1:=hs _ h1
  replace h2:=hs _ h2
  refine' Tv.leaf ?_; intro _ _ _ _ F N _ _ r; walk1; exact r _ _ _ _ F N h
theorem isi_62_str {w mx} {l:Led} {a d:Addr} {es:List DictEntry} {k:Nat} (h1:(a, instObj 62 d) ∈ l) (h2:(d, dictOf es k) ∈ l):Isi w mx l (.ref a) (ofString "str") false:=by
  refine ⟨_, .inr ⟨by k_is, by k_dflt boot_fast, by decide⟩, rfl, fun c m n P hs h=>?_⟩
  replace h1:=hs _ h1
  replace h2:=hs _ h2
  refine' Tv.leaf ?_; intro _ _ _ _ F N _ _ r; walk1; exact r _ _ _ _ F N h
theorem isi_62_Text {w mx} {l:Led} {a d:Addr} {es:List DictEntry} {k:Nat} (h1:(a, instObj 62 d) ∈ l) (h2:(d, dictOf es k) ∈ l):Isi w mx l (.ref a) (ofString "Text") true:=by
  refine ⟨_, .inl (by k_is), rfl, fun c m n P hs h=>?_⟩
  replace h1:=hs _ h1
  replace h2:=hs _ h2
  refine' Tv.leaf ?_; intro _ _ _ _ F N _ _ r; walk1; exact r _ _ _ _ F N h
theorem isi_82_bool {w mx} {l:Led} {a d:Addr} {es:List DictEntry} {k:Nat} (h1:(a, instObj 82 d) ∈ l) (h2:(d, dictOf es k) ∈ l):Isi w mx l (.ref a) (ofString "bool") false:=by
  refine ⟨_, .inr ⟨by k_is, by k_dflt boot_fast, by decide⟩, rfl, fun c m n P hs h=>?_⟩
  replace h1:=hs _ h1
  replace h2:=hs _ h2
  refine' Tv.leaf ?_; intro _ _ _ _ F N _ _ r; walk1; exact r _ _ _ _ F N h
theorem isi_82_int {w mx} {l:Led} {a d:Addr} {es:List DictEntry} {k:Nat} (h1:(a, instObj 82 d) ∈ l) (h2:(d, dictOf es k) ∈ l):Isi w mx l (.ref a) (ofString "int") false:=by
  refine ⟨_, .inr ⟨by k_is, by k_dflt boot_fast, by decide⟩, rfl, fun c m n P hs h=>?_⟩
  replace h1:=hs _ h1
  replace h2:=hs _ h2
  refine' Tv.leaf ?_; intro _ _ _ _ F N _ _ r; walk1; exact r _ _ _ _ F N h
theorem isi_82_str {w mx} {l:Led} {a d:Addr} {es:List DictEntry} {k:Nat} (h1:(a, instObj 82 d) ∈ l) (h2:(d, dictOf es k) ∈ l):Isi w mx l (.ref a) (ofString "str") false:=by
  refine ⟨_, .inr ⟨by k_is, by k_dflt boot_fast, by decide⟩, rfl, fun c m n P hs h=>?_⟩
  replace h1:=hs _ h1
  replace h2:=hs _ h2
  refine' Tv.leaf ?_; intro _ _ _ _ F N _ _ r; walk1; exact r _ _ _ _ F N h
theorem isi_82_Text {w mx} {l:Led} {a d:Addr} {es:List DictEntry} {k:Nat} (h1:(a, instObj 82 d) ∈ l) (h2:(d, dictOf es k) ∈ l):Isi w mx l (.ref a) (ofString "Text") false:=by
  refine ⟨_, .inl (by k_is), rfl, fun c m n P hs h=>?_⟩
  replace h1:=hs _ h1
  replace h2:=hs _ h2
  refine' Tv.leaf ?_; intro _ _ _ _ F N _ _ r; walk1; exact r _ _ _ _ F N h
theorem isi_82_ListThing {w mx} {l:Led} {a d:Addr} {es:List DictEntry} {k:Nat} (h1:(a, instObj 82 d) ∈ l) (h2:(d, dictOf es k) ∈ l):Isi w mx l (.ref a) (ofString "ListThing") true:=by
  refine ⟨_, .inl (by k_is), rfl, fun c m n P hs h=>?_⟩
  replace h1:=hs _ h1
  replace h2:=hs _ h2
  refine' Tv.leaf ?_; intro _ _ _ _ F N _ _ r; walk1; exact r _ _ _ _ F N h
theorem isi_82_RangeThing {w mx} {l:Led} {a d:Addr} {es:List DictEntry} {k:Nat} (h1:(a, instObj 82 d) ∈ l) (h2:(d, dictOf es k) ∈ l):Isi w mx l (.ref a) (ofString "RangeThing") false:=by
  refine ⟨_, .inl (by k_is), rfl, fun c m n P hs h=>?_⟩
  replace h1:=hs _ h1
  replace h2:=hs _ h2
  refine' Tv.leaf ?_; intro _ _ _ _ F N _ _ r; walk1; exact r _ _ _ _ F N h
theorem isi_120_bool {w mx} {l:Led} {a d:Addr} {es:List DictEntry} {k:Nat} (h1:(a, instObj 120 d) ∈ l) (h2:(d, dictOf es k) ∈ l):Isi w mx l (.ref a) (ofString "bool") false:=by
  refine ⟨_, .inr ⟨by k_is, by k_dflt boot_fast, by decide⟩, rfl, fun c m n P hs h=>?_⟩
  replace h1:=hs _ h1
  replace h2:=hs _ h2
  refine' Tv.leaf ?_; intro _ _ _ _ F N _ _ r; walk1; exact r _ _ _ _ F N h
theorem isi_120_int {w mx} {l:Led} {a d:Addr} {es:List DictEntry} {k:Nat} (h1:(a, instObj 120 d) ∈ l) (h2:(d, dictOf es k) ∈ l):Isi w mx l (.ref a) (ofString "int") false:=by
  refine ⟨_, .inr ⟨by k_is, by k_dflt boot_fast, by decide⟩, rfl, fun c m n P hs h=>?_⟩
  replace h1:=hs _ h1
  replace h2:=hs _ h2
  refine' Tv.leaf ?_; intro _ _ _ _ F N _ _ r; walk1; exact r _ _ _ _ F N h
theorem isi_120_str {w mx} {l:Led} {a d:Addr} {es:List DictEntry} {k:Nat} (h1:(a, instObj 120 d) ∈ l) (h2:(d, dictOf es k) ∈ l):Isi w mx l (.ref a) (ofString "str") false:=by
  refine ⟨_, .inr ⟨by k_is, by k_dflt boot_fast, by decide⟩, rfl, fun c m n P hs h=>?_⟩
  replace h1:=hs _ h1
  replace h2:=hs _ h2
  refine' Tv.leaf ?_; intro _ _ _ _ F N _ _ r; walk1; exact r _ _ _ _ F N h
theorem isi_120_Text {w mx} {l:Led} {a d:Addr} {es:List DictEntry} {k:Nat} (h1:(a, instObj 120 d) ∈ l) (h2:(d, dictOf es k) ∈ l):Isi w mx l (.ref a) (ofString "Text") false:=by
  refine ⟨_, .inl (by k_is), rfl, fun c m n P hs h=>?_⟩
  replace h1:=hs _ h1
  replace h2:=hs _ h2
  refine' Tv.leaf ?_; intro _ _ _ _ F N _ _ r; walk1; exact r _ _ _ _ F N h
theorem isi_120_ListThing {w mx} {l:Led} {a d:Addr} {es:List DictEntry} {k:Nat} (h1:(a, instObj 120 d) ∈ l) (h2:(d, dictOf es k) ∈ l):Isi w mx l (.ref a) (ofString "ListThing") false:=by
  refine ⟨_, .inl (by k_is), rfl, fun c m n P hs h=>?_⟩
  replace h1:=hs _ h1
  replace h2:=hs _ h2
  refine' Tv.leaf ?_; intro _ _ _ _ F N _ _ r; walk1; exact r _ _ _ _ F N h
theorem isi_120_RangeThing {w mx} {l:Led} {a d:Addr} {es:List DictEntry} {k:Nat} (h1:(a, instObj 120 d) ∈ l) (h2:(d, dictOf es k) ∈ l):Isi w mx l (.ref a) (ofString "RangeThing") false:=by
  refine ⟨_, .inl (by k_is), rfl, fun c m n P hs h=>?_⟩
  replace h1:=hs _ h1
  replace h2:=hs _ h2
  refine' Tv.leaf ?_; intro _ _ _ _ F N _ _ r; walk1; exact r _ _ _ _ F N h
theorem isi_140_bool {w mx} {l:Led} {a d:Addr} {es:List DictEntry} {k:Nat} (h1:(a, instObj 140 d) ∈ l) (h2:(d, dictOf es k) ∈ l):Isi w mx l (.ref a) (ofString "bool") false:=by
  refine ⟨_, .inr ⟨by k_is, by k_dflt boot_fast, by decide⟩, rfl, fun c m n P hs h=>?_⟩
  replace h1:=hs _ h1
  replace h2:=hs _ h2
  refine' Tv.leaf ?_; intro _ _ _ _ F N _ _ r; walk1; exact r _ _ _ _ F N h
theorem isi_140_int {w mx} {l:Led} {a d:Addr} {es:List DictEntry} {k:Nat} (h1:(a, instObj 140 d) ∈ l) (h2:(d, dictOf es k) ∈ l):Isi w mx l (.ref a) (ofString "int") false:=by
  refine ⟨_, .inr ⟨by k_is, by k_dflt boot_fast, by decide⟩, rfl, fun c m n P hs h=>?_⟩
  replace h1:=hs _ h1
  replace h2:=hs _ h2
  refine' Tv.leaf ?_; intro _ _ _ _ F N _ _ r; walk1; exact r _ _ _ _ F N h
theorem isi_140_str {w mx} {l:Led} {a d:Addr} {es:List DictEntry} {k:Nat} (h1:(a, instObj 140 d) ∈ l) (h2:(d, dictOf es k) ∈ l):Isi w mx l (.ref a) (ofString "str") false:=by
  refine ⟨_, .inr ⟨by k_is, by k_dflt boot_fast, by decide⟩, rfl, fun c m n P hs h=>?_⟩
  replace h1:=hs _ h1
  replace h2:=hs _ h2
  refine' Tv.leaf ?_; intro _ _ _ _ F N _ _ r; walk1; exact r _ _ _ _ F N h
theorem isi_140_Text {w mx} {l:Led} {a d:Addr} {es:List DictEntry} {k:Nat} (h1:(a, instObj 140 d) ∈ l) (h2:(d, dictOf es k) ∈ l):Isi w mx l (.ref a) (ofString "Text") false:=by
  refine ⟨_, .inl (by k_is), rfl, fun c m n P hs h=>?_⟩
  replace h1:=hs _ h1
  replace h2:=hs _ h2
  refine' Tv.leaf ?_; intro _ _ _ _ F N _ _ r; walk1; exact r _ _ _ _ F N h
theorem isi_140_ListThing {w mx} {l:Led} {a d:Addr} {es:List DictEntry} {k:Nat} (h1:(a, instObj 140 d) ∈ l) (h2:(d, dictOf es k) ∈ l):Isi w mx l (.ref a) (ofString "ListThing") false:=by
  refine ⟨_, .inl (by k_is), rfl, fun c m n P hs h=>?_⟩
  replace h1:=hs _ h1
  replace h2:=hs _ h2
  refine' Tv.leaf ?_; intro _ _ _ _ F N _ _ r; walk1; exact r _ _ _ _ F N h
theorem isi_140_RangeThing {w mx} {l:Led} {a d:Addr} {es:List DictEntry} {k:Nat} (h1:(a, instObj 140 d) ∈ l) (h2:(d, dictOf es k) ∈ l):Isi w mx l (.ref a) (ofString "RangeThing") true:=by
  refine ⟨_, .inl (by k_is), rfl, fun c m n P hs h=>?_⟩
  replace h1:=hs _ h1
  replace h2:=hs _ h2
  refine' Tv.leaf ?_; intro _ _ _ _ F N _ _ r; walk1; exact r _ _ _ _ F N h
theorem isi_228_bool {w mx} {l:Led} {a d:Addr} {es:List DictEntry} {k:Nat} (h1:(a, instObj 228 d) ∈ l) (h2:(d, dictOf es k) ∈ l):Isi w mx l (.ref a) (ofString "bool") false:=by
  refine ⟨_, .inr ⟨by k_is, by k_dflt boot_fast, by decide⟩, rfl, fun c m n P hs h=>?_⟩
  replace h1:=hs _ h1
  replace h2:=hs _ h2
  refine' Tv.leaf ?_; intro _ _ _ _ F N _ _ r; walk1; exact r _ _ _ _ F N h
theorem isi_228_int {w mx} {l:Led} {a d:Addr} {es:List DictEntry} {k:Nat} (h1:(a, instObj 228 d) ∈ l) (h2:(d, dictOf es k) ∈ l):Isi w mx l (.ref a) (ofString "int") false:=by
  refine ⟨_, .inr ⟨by k_is, by k_dflt boot_fast, by decide⟩, rfl, fun c m n P hs h=>?_⟩
  replace h1:=hs _ h1
  replace h2:=hs _ h2
  refine' Tv.leaf ?_; intro _ _ _ _ F N _ _ r; walk1; exact r _ _ _ _ F N h
theorem isi_228_str {w mx} {l:Led} {a d:Addr} {es:List DictEntry} {k:Nat} (h1:(a, instObj 228 d) ∈ l) (h2:(d, dictOf es k) ∈ l):Isi w mx l (.ref a) (ofString "str") false:=by
  refine ⟨_, .inr ⟨by k_is, by k_dflt boot_fast, by decide⟩, rfl, fun c m n P hs h=>?_⟩
  replace h1:=hs _ h1
  replace h2:=hs _ h2
  refine' Tv.leaf ?_; intro _ _ _ _ F N _ _ r; walk1; exact r _ _ _ _ F N h
theorem isi_228_Text {w mx} {l:Led} {a d:Addr} {es:List DictEntry} {k:Nat} (h1:(a, instObj 228 d) ∈ l) (h2:(d, dictOf es k) ∈ l):Isi w mx l (.ref a) (ofString "Text") false:=by
  refine ⟨_, .inl (by k_is), rfl, fun c m n P hs h=>?_⟩
  replace h1:=hs _ h1
  replace h2:=hs _ h2
  refine' Tv.leaf ?_; intro _ _ _ _ F N _ _ r; walk1; exact r _ _ _ _ F N h
theorem isi_228_ListThing {w mx} {l:Led} {a d:Addr} {es:List DictEntry} {k:Nat} (h1:(a, instObj 228 d) ∈ l) (h2:(d, dictOf es k) ∈ l):Isi w mx l (.ref a) (ofString "ListThing") false:=by
  refine ⟨_, .inl (by k_is), rfl, fun c m n P hs h=>?_⟩
  replace h1:=hs _ h1
  replace h2:=hs _ h2
  refine' Tv.leaf ?_; intro _ _ _ _ F N _ _ r; walk1; exact r _ _ _ _ F N h
theorem isi_228_RangeThing {w mx} {l:Led} {a d:Addr} {es:List DictEntry} {k:Nat} (h1:(a, instObj 228 d) ∈ l) (h2:(d, dictOf es k) ∈ l):Isi w mx l (.ref a) (ofString "RangeThing") false:=by
  refine ⟨_, .inl (by k_is), rfl, fun c m n P hs h=>?_⟩
  replace h1:=hs _ h1
  replace h2:=hs _ h2
  refine' Tv.leaf ?_; intro _ _ _ _ F N _ _ r; walk1; exact r _ _ _ _ F N h
theorem comp_loop {prog:Program} {w:World} {A:Around} {h₀:Heap} {L:Addr} {m:Str → Option Value} {env:Env} {elt:PySem.Expr} {x:Str} {scope:Scope} {cl:List (Str × Addr)} {s:Shared} {S:Led → Prop} {P:Nat → Value → Prop} {Fin:List Value → Led → Prop} {n:Nat}
    (J:Nat → List Value → Led → Prop)
    (step:∀ i ys news, i < n → J i ys news → ∀ v I oI C oC D m₂ h tk (E':Value → Shared → Prop), P i v → LCg.NsObj oC m₂ → m₂ x = some v → Fr h₀ L h m → News h₀ L h ((I, oI) :: (C, oC) :: (D, LCg.lst ys) :: news) → LCg.Off3 I C D news → ((@Ne Nat I C) ∧ (@Ne Nat I D) ∧ (@Ne Nat C D)) →
      wpAny (model prog w) A (eval elt (compEnvC scope cl C env)) (LCg.CompEnd h₀ L m { s with heap:=h, toks:=tk } I oI C oC D (LCg.lst ys) S (fun y news'=>J (i + 1) (ys ++ [y]) news')) E' { s with heap:=h, toks:=tk })
    (fin:∀ ys news, J n ys news → Fin ys news) {news₀:Led} (J0:J 0 [] news₀):LCg.CompRest prog w A h₀ L m env elt x scope cl s S P Fin n 0 [] news₀:=by
  have key:∀ (k i:Nat), i + k = n → ∀ ys news, J i ys news → LCg.CompRest prog w A h₀ L m env elt x scope cl s S P Fin k i ys news:=by
    intro k
    induction k with
    | zero =>
      intro i hi ys news hJ
      have e:i = n:=by lia
      subst e
      exact fin ys news hJ
    | succ k ih =>
      intro i hi ys news hJ
      refine LCg.CompRest.succ fun v I oI C oC D m₂ h tk E' h1 h2 h3 h4 h5 h6 h7=>?_
      refine wpAny_mono (step i ys news (by lia) hJ v I oI C oC D m₂ h tk E' h1 h2 h3 h4 h5 h6 h7) (fun y s' hq=>?_) fun _ _ e=>e
      refine byP fun _ q9=>?_
      obtain ⟨h', tk', n', e, F, N, o, q, r⟩:=hq
      refine q9 ?_
      exact ⟨h', tk', n', e, F, N, o, q, ih (i + 1) (by lia) _ _ r⟩
  exact key n 0 (by lia) [] news₀ J0
section
variable {w mx}
noncomputable def Amb.inC (c:Amb w mx) (sc:Scope) (cl:List (Str × Addr)) (C:Addr):Amb w mx:={ c with cp:=some (sc, cl, C) }
variable {c:Amb w mx} {m:Fm} {n:Led} {sc sc0:Scope} {cl:List (Str × Addr)} {C:Addr} {P:Value → Led → Prop}
noncomputable def relab (sc sc0:Scope):List (Str × NameKind):=sc.names.map fun (n, k)=>if (k == .free && sc0.kind == .function && sc0.names.lookup n == some .cell) then (n, .cell) else (n, k)
structure Kc (c:Amb w mx) (sc:Scope) (x:Str) (k:NameKind):Prop where
  fn:sc.kind = .function
  kd:(relab sc c.cs).lookup x = some k
theorem Kc.of {x:Str} {k:NameKind} (h:c.cs = sc0) (hk:sc.kind = .function) (e:(relab sc sc0).lookup x = some k):Kc c sc x k:=⟨hk, h ▸ e⟩
theorem Ev.own {x:Str} {pos:Pos} {v:Value} {oC:Obj} {m₂:Str → Option Value} (hm:(C, oC) ∈ n) (hC:LCg.NsObj oC m₂) (hv:m₂ x = some v) (hx:Kc c sc x .local) (hd:(x == ("__debug__":Str)) = false):Ev (c.inC sc cl C) m n (.Name x pos) v:=fun P h Q E h₁ tk F N ret =>
  LCgL.ld_own N hm hC hv (ret _ _ _ _ F N h) hx.fn hx.kd hd
theorem Ev.cglob {x:Str} {pos:Pos} {v:Value} (hv:nsIn (K9 w.params) mainGlobals x = some (some v)) (hx:Kc c sc x .globalImplicit) (hd:(x == ("__debug__":Str)) = false):Ev (c.inC sc cl C) m n (.Name x pos) v:=fun P h Q E h₁ tk F N ret =>
  LCgL.ld_global (env:=c.env0) F c.X c.T hv (ret _ _ _ _ F N h) rfl hx.fn hx.kd hd
theorem Ev.ccell {x:Str} {pos:Pos} {v:Value} {b:Addr} {o:Obj} (hc:cl.lookup x = some b) (hm:(b, o) ∈ n) (ho:o.data = .cell (some v)) (hx:Kc c sc x .cell) (hd:(x == ("__debug__":Str)) = false):Ev (c.inC sc cl C) m n (.Name x pos) v:=fun P h Q E h₁ tk F N ret =>
  wpAny_Name (wpAny_loadName_cell hx.fn hx.kd hc ⟨o, N.get hm, ho⟩ (ret _ _ _ _ F N h)) hd
theorem Tv.comp {elt iter:Expr} {x:Str} {px:Pos} {pos:Pos} {ax:Addr} {its:Array Value} {k:Nat} (J:Nat → List Value → Led → Prop)
    (hp:c.cp = none) (hit:Ev c m n iter (.ref ax)) (hm:(ax, ({ cls:=.type "list", data:=.seq its k }:Obj)) ∈ n) (hsz:its.size ≤ sizeLine)
    (hclos:closureFor sc c.env = pure cl) (hcell:∀ y ∈ sc.names, y.2 ≠ .cell) (hkind:sc.kind = .function) (hnames:∀ y ∈ sc.names, y.2 = .local → sc.names.lookup y.1 = some .local) (hx:sc.names.lookup x = some .local) (hs:∀ v, foldedSetIterable iter c.env v = pure v)
    (J0:J 0 [] n) (hJ:∀ i ys n', J i ys n' → (ax, ({ cls:=.type "list", data:=.seq its k }:Obj)) ∈ n')
    (step:∀ i ys n' v heads C oC m₂, its[i]? = some v → J i ys n' → (C, oC) ∈ heads → LCg.NsObj oC m₂ → m₂ x = some v → (∀ q ∈ heads, ∀ p ∈ n', (p.1:Nat) ≠ q.1) →
      Tv (c.inC sc cl C) m (heads ++ n') (eval elt (c.inC sc cl C).env) fun y f=>∃ n'', (∀ p ∈ heads ++ n'', p ∈ f) ∧ (∀ q ∈ heads, ∀ p ∈ n'', (p.1:Nat) ≠ q.1) ∧ J (i + 1) (ys ++ [y]) n'')
    (fin:∀ D ys n', J its.size ys n' → (∀ p ∈ n', (p.1:Nat) ≠ D) → P (.ref D) ((D, LCg.lst ys) :: n')):Tv c m n (eval (.ListComp elt [⟨.Name x px, iter, [], 0⟩] sc pos) c.env) P:=by
  intro Q E h₁ tk F N ret
  refine LCg.ListComp_U (cl:=cl) F hclos hcell hkind hnames hx (hit (fun v n'=>v = .ref ax ∧ n' = n) ⟨rfl, rfl⟩ _ E h₁ tk F N fun v h' tk' n' F' N' ⟨e1, e2⟩=>?_) hs
  subst e1
  subst e2
  refine LCg.CompSrc.ledger rfl F' N' hm hsz fun g=>comp_loop J ?_ ?_ J0
  · intro i ys news hi hj v I oI C oC D m₂ h tk E' hv hC hx2 F2 N2 off ne
    have off9:=off.mem
    have key:=step i ys news v [(I, oI), (C, oC), (D, LCg.lst ys)] C oC m₂ hv hj (iC iH) hC hx2 (fun q hq p hp=>by
      have:=off9 p hp
      simp only [List.mem_cons, List.not_mem_nil, or_false] at hq
      rcases hq with rfl | rfl | rfl
      · exact this.1
      · exact this.2.1
      · exact this.2.2)
    rw [Amb.env_of hp]
    exact key _ E' h tk F2 N2 fun y h' tk' f F3 N3 z9=>by refine byP fun _ q9=>?_; obtain ⟨n2, s, o, j⟩:=z9; exact q9 (LCg.CompEnd.intro F3 N3 n2 s (LCg.Off3.of fun p hp=>⟨o (I, oI) iH p hp, o (C, oC) (iC iH) p hp, o (D, LCg.lst ys) (iC (iC iH)) p hp⟩) (.inr ⟨_, hJ _ _ _ j, rfl, _, rfl⟩) j)
  · intro ys news hj D h tk F2 N2 o1
    exact ret _ _ _ _ F2 N2 (fin D ys news hj (Ne1.of_off1 o1 fun p hp=>hp))
theorem Ts.comp {elt iter:Expr} {x y:Str} {px py:Pos} {pos spos:Pos} {ax:Addr} {its:Array Value} {k:Nat} {rest:List Stmt} {R:Value → Led → Prop} {K:Fm → Led → Prop} (J:Nat → List Value → Led → Prop)
    (hp:c.cp = none) (hit:Ev c m n iter (.ref ax)) (hm:(ax, ({ cls:=.type "list", data:=.seq its k }:Obj)) ∈ n) (hsz:its.size ≤ sizeLine)
    (hclos:closureFor sc c.env0 = pure cl) (hcell:∀ y ∈ sc.names, y.2 ≠ .cell) (hkind:sc.kind = .function) (hnames:∀ y ∈ sc.names, y.2 = .local → sc.names.lookup y.1 = some .local) (hx:sc.names.lookup x = some .local) (hs:∀ v, foldedSetIterable iter c.env0 v = pure v)
    (J0:J 0 [] n) (hJ:∀ i ys n', J i ys n' → (ax, ({ cls:=.type "list", data:=.seq its k }:Obj)) ∈ n')
    (step:∀ i ys n' v heads C oC m₂, its[i]? = some v → J i ys n' → (C, oC) ∈ heads → LCg.NsObj oC m₂ → m₂ x = some v → (∀ q ∈ heads, ∀ p ∈ n', (p.1:Nat) ≠ q.1) →
      Tv (c.inC sc cl C) m (heads ++ n') (eval elt (c.inC sc cl C).env) fun y f=>∃ n'', (∀ p ∈ heads ++ n'', p ∈ f) ∧ (∀ q ∈ heads, ∀ p ∈ n'', (p.1:Nat) ≠ q.1) ∧ J (i + 1) (ys ++ [y]) n'')
    (fin:∀ D ys n', J its.size ys n' → (∀ p ∈ n', (p.1:Nat) ≠ D) → ∀ m', m' = (y, .ref D) :: m → Ts c m' ((D, LCg.lst ys) :: n') rest R K) (hy:Kd c y .local)
    (hsw:swapsWith (.ListComp elt [⟨.Name x px, iter, [], 0⟩] sc pos) (some (.Name y py)) spos.line c.env0 = pure true):Ts c m n (.Assign [.Name y py] (.ListComp elt [⟨.Name x px, iter, [], 0⟩] sc pos) spos :: rest) R K:=fun Q E h₁ tk hE F N r1 r2=>by
  have hit':=hit (fun v n'=>v = .ref ax ∧ n' = n) ⟨rfl, rfl⟩
  have fin':=fin
  have hE':=hE
  unfold Tv at hit'
  unfold Ts at fin'
  rw [Amb.env_of hp] at hE' hit' fin'
  refine wpAny_execs_cons ?_
  rw [Amb.env_of hp]
  refine LCg.Assign_ListComp_U (cl:=cl) F rfl hsw hclos hcell hkind hnames hx hy.2 (by show (c.cs.kind == .class || (c.cs.kind == .module && _)) = false; rw [c.k]; rfl) (hit' _ E h₁ tk F N fun v h' tk' n' F' N' ⟨e1, e2⟩=>?_) hs
  subst e1
  subst e2
  refine LCg.CompSrc.ledger rfl F' N' hm hsz fun g=>comp_loop J ?_ ?_ J0
  · intro i ys news hi hj v I oI C oC D m₂ h tk E' hv hC hx2 F2 N2 off ne
    have off9:=off.mem
    have key:=step i ys news v [(I, oI), (C, oC), (D, LCg.lst ys)] C oC m₂ hv hj (iC iH) hC hx2 (fun q hq p hp=>by
      have:=off9 p hp
      simp only [List.mem_cons, List.not_mem_nil, or_false] at hq
      rcases hq with rfl | rfl | rfl
      · exact this.1
      · exact this.2.1
      · exact this.2.2)
    exact key _ E' h tk F2 N2 fun y h' tk' f F3 N3 z9=>by refine byP fun _ q9=>?_; obtain ⟨n2, s, o, j⟩:=z9; exact q9 (LCg.CompEnd.intro F3 N3 n2 s (LCg.Off3.of fun p hp=>⟨o (I, oI) iH p hp, o (C, oC) (iC iH) p hp, o (D, LCg.lst ys) (iC (iC iH)) p hp⟩) (.inr ⟨_, hJ _ _ _ j, rfl, _, rfl⟩) j)
  · intro ys news hj D h tk F2 N2 o1
    exact fin' D ys news hj (Ne1.of_off1 o1 fun p hp=>hp) _ rfl Q E h tk hE' (fm_set F2) N2 r1 r2
theorem range_size (n:Nat):Builtin.Range.rangeSize 0 (n:Int) 1 = (n:Int):=by
  unfold Builtin.Range.rangeSize
  simp
  try lia
noncomputable abbrev rng (N:Int) (t u z:Tok):Obj:={ cls:=.type "range", data:=.fields #[.int 0 t, .int N u, .int 1 z] }
theorem Tv.range {n:Led} {N:Int} {t:Tok} (h:∀ D u z, (∀ p ∈ n, p.1 < D) → P (.ref D) ((D, rng N u t z) :: n)):Tv c m n (call (.type "range") [.int N t]) P:=fun Q E h₁ tk F N' ret =>
  call_range_1 (ret _ _ _ _ (F.push _) (N'.push F _) (h _ _ _ fun p hp=>Heap.lt_size (N' p hp).1))
noncomputable def Turns (c:Amb w mx) (m:Fm) (sc:Scope) (cl:List (Str × Addr)) (x:Str) (elt:Expr) (Pi:Nat → Value → Prop) (N:Nat) (P:Value → Led → Prop) (n:Led):Prop:=∃ J:Nat → List Value → Led → Prop, J 0 [] n ∧
  (∀ i ys n' v heads C oC m₂, i < N → Pi i v → J i ys n' → (C, oC) ∈ heads → LCg.NsObj oC m₂ → m₂ x = some v → (∀ q ∈ heads, ∀ p ∈ n', (p.1:Nat) ≠ q.1) →
      Tv (c.inC sc cl C) m (heads ++ n') (eval elt (c.inC sc cl C).env) fun y f=>∃ n'', (∀ p ∈ heads ++ n'', p ∈ f) ∧ (∀ q ∈ heads, ∀ p ∈ n'', (p.1:Nat) ≠ q.1) ∧ J (i + 1) (ys ++ [y]) n'') ∧
  ∀ D ys n', J N ys n' → (∀ p ∈ n', (p.1:Nat) ≠ D) → P (.ref D) ((D, LCg.lst ys) :: n')
theorem Tv.compR {n:Led} {sc:Scope} {cl:List (Str × Addr)} {elt iter:Expr} {x:Str} {px:Pos} {pos:Pos} (hp:c.cp = none) (hit:Tv c m n (eval iter c.env) fun v n1=>∃ (r:Addr) (N:Nat) (t u z:Tok), v = .ref r ∧ (r, rng N t u z) ∈ n1 ∧ N ≤ 1000 ∧ Turns c m sc cl x elt (fun i v=>∃ t, v = .int (i:Int) t) N P n1)
    (hclos:closureFor sc c.env = pure cl) (hcell:∀ y ∈ sc.names, y.2 ≠ .cell) (hkind:sc.kind = .function) (hnames:∀ y ∈ sc.names, y.2 = .local → sc.names.lookup y.1 = some .local) (hx:sc.names.lookup x = some .local) (hs:∀ v, foldedSetIterable iter c.env v = pure v) :
    Tv c m n (eval (.ListComp elt [⟨.Name x px, iter, [], 0⟩] sc pos) c.env) P:=by
  intro Q E h₁ tk F N ret
  refine LCg.ListComp_U (cl:=cl) F hclos hcell hkind hnames hx (hit _ E h₁ tk F N fun v h' tk' n' F' N' z9=>?_) hs
  refine byP fun _ q9=>?_
  obtain ⟨r, N1, t, u, z, e1, hm, hN, J, J0, step, fin⟩:=z9
  refine q9 ?_
  subst e1
  refine LCg.CompSrc.range (n:=N1) rfl F' N' (N' _ hm).1 (small_one (by decide) (by decide) (by lia) (by lia)) ?_ (by rw [sizeLine_eq]; lia) fun g=>comp_loop J ?_ ?_ J0
  · exact range_size N1
  · intro i ys news hi hj v I oI C oC D m₂ h tk E' ⟨tv, hv⟩ hC hx2 F2 N2 off ne
    have off9:=off.mem
    rw [Int.zero_add] at hv
    have key:=step i ys news v [(I, oI), (C, oC), (D, LCg.lst ys)] C oC m₂ hi ⟨tv, hv⟩ hj (iC iH) hC hx2 (fun q hq p hp=>by
      have:=off9 p hp
      simp only [List.mem_cons, List.not_mem_nil, or_false] at hq
      rcases hq with rfl | rfl | rfl
      · exact this.1
      · exact this.2.1
      · exact this.2.2)
    rw [Amb.env_of hp]
    exact key _ E' h tk F2 N2 fun y h' tk' f F3 N3 z9=>by refine byP fun _ q9=>?_; obtain ⟨n2, s, o, j⟩:=z9; exact q9 (LCg.CompEnd.intro F3 N3 n2 s (LCg.Off3.of fun p hp=>⟨o (I, oI) iH p hp, o (C, oC) (iC iH) p hp, o (D, LCg.lst ys) (iC (iC iH)) p hp⟩) trivial j)
  · intro ys news hj D h tk F2 N2 o1
    exact ret _ _ _ _ F2 N2 (fin D ys news hj (Ne1.of_off1 o1 fun p hp=>hp))
theorem Ex.turn {heads n' f tl:Led} {y:Value} {J:Value → Led → Prop} (h:Ex (heads ++ n') f tl) (off:∀ q ∈ heads, ∀ p ∈ n', (p.1:Nat) ≠ q.1) (j:J y (n' ++ tl)):∃ n'', (∀ p ∈ heads ++ n'', p ∈ f) ∧ (∀ q ∈ heads, ∀ p ∈ n'', (p.1:Nat) ≠ q.1) ∧ J y n'' :=
  ⟨n' ++ tl, fun p hp=>h.sub p (by rwa [List.append_assoc]), fun q hq p hp=>(List.mem_append.mp hp).elim (off q hq p) fun k=>Ne.symm (h.gt q (iL hq) p k), j⟩
end
inductive Kind (l:Led):Value → String → Prop
  | none:Kind l .none "nil"
  | bool (b:Bool):Kind l (.bool b) "bool"
  | int (i:Int) (t:Tok):Kind l (.int i t) "int"
  | str (s:Str) (t:Tok):Kind l (.str s t) "sym"
  | inst {a C d:Addr} {es:List DictEntry} {n:Nat}:C ∈ ([40, 62, 82, 120, 140, 228]:List Nat) → (a, instObj C d) ∈ l → (d, dictOf es n) ∈ l → Kind l (.ref a) "thing"
theorem isN {w mx} {c:Amb w mx} {m:Fm} {n:Led} {x:Str} {p1 p2 p3:Pos} {k:Nat} (h1:Ev c m n (.Name x p1) .none):Te c m n (.Compare (.Name x p1) [.Is] [.Constant .none k p2] p3) true:=Te.isNone h1 fun A Q E s h=>by walk1; exact h
theorem isNb {w mx} {c:Amb w mx} {m:Fm} {n:Led} {x:Str} {p1 p2 p3:Pos} {k:Nat} {b:Bool} (h1:Ev c m n (.Name x p1) (.bool b)):Te c m n (.Compare (.Name x p1) [.Is] [.Constant .none k p2] p3) false:=Te.isNone h1 fun A Q E s h=>by walk1; exact h
theorem isNi {w mx} {c:Amb w mx} {m:Fm} {n:Led} {x:Str} {p1 p2 p3:Pos} {k:Nat} {i:Int} {t:Tok} (h1:Ev c m n (.Name x p1) (.int i t)):Te c m n (.Compare (.Name x p1) [.Is] [.Constant .none k p2] p3) false:=Te.isNone h1 fun A Q E s h=>by walk1; exact h
theorem isNs {w mx} {c:Amb w mx} {m:Fm} {n:Led} {x:Str} {p1 p2 p3:Pos} {k:Nat} {i:Str} {t:Tok} (h1:Ev c m n (.Name x p1) (.str i t)):Te c m n (.Compare (.Name x p1) [.Is] [.Constant .none k p2] p3) false:=Te.isNone h1 fun A Q E s h=>by walk1; exact h
theorem isNr {w mx} {c:Amb w mx} {m:Fm} {n:Led} {x:Str} {p1 p2 p3:Pos} {k:Nat} {i:Addr} (h1:Ev c m n (.Name x p1) (.ref i)):Te c m n (.Compare (.Name x p1) [.Is] [.Constant .none k p2] p3) false:=Te.isNone h1 fun A Q E s h=>by walk1; exact h
theorem sort_ok {w mx} {l:Led} {v:Value} {x:String} (hv:Kind l v x):Does w mx 237 1 [v] l (fun r n' tl=>∃ t, r = .str (ofString x) t ∧ n' = l ∧ tl = []):=by
  refine does_enter (binds:=[(ofString "value", v)]) (bm:=[(ofString "value", v)]) (by k_is) (by k_is) (by first | exact fun s X=>BindsTo.of_eq rfl | exact fun s X=>binds_K X rfl (by k_is) rfl rfl rfl) (by exact rfl) (by exact rfl) (by exact rfl) (by exact rfl) (by exact rfl) (by first | decide | lia) (by exact rfl) fun b m hm hcp hcs hcl hr=>?_
  have ev:∀ p, Ev b m l (.Name (ofString "value") p) v:=fun p=>by exact Ev.loc hm rfl Kx rfl
  have ki:Kd b (ofString "isinstance") .globalImplicit:=Kx
  have kb:Kd b (ofString "bool") .globalImplicit:=Kx
  have kn:Kd b (ofString "int") .globalImplicit:=Kx
  have ks:Kd b (ofString "str") .globalImplicit:=Kx
  have fin:∀ (y:String) (t:Tok) (R:Value → Led → Led → Prop), (∀ t, R (.str (ofString y) t) l []) → Owes l R (.str (ofString y) t) l:=fun y t R h=>Owes.same (h t)
  clear hm hcp hcs hcl hr
  cases hv with
  | none=>exact Ts.hand (isN (ev _)) (Tv.cstr fun t=>fin _ t _ fun t=>⟨_, rfl, rfl, rfl⟩)
  | bool q=>exact Ts.skip (isNb (ev _)) (Ts.hand (Te.isi (ev _) isi_bool_bool (fun _ h=>h) ki kb) (Tv.cstr fun t=>fin _ t _ fun t=>⟨_, rfl, rfl, rfl⟩))
  | int i t=>exact Ts.skip (isNi (ev _)) (Ts.skip (Te.isi (ev _) isi_int_bool (fun _ h=>h) ki kb) (Ts.hand (Te.isi (ev _) isi_int_int (fun _ h=>h) ki kn) (Tv.cstr fun t=>fin _ t _ fun t=>⟨_, rfl, rfl, rfl⟩)))
  | str i t=>exact Ts.skip (isNs (ev _)) (Ts.skip (Te.isi (ev _) isi_str_bool (fun _ h=>h) ki kb) (Ts.skip (Te.isi (ev _) isi_str_int (fun _ h=>h) ki kn) (Ts.ret (Tv.ext (Te.isi (ev _) isi_str_str (fun _ h=>h) ki ks) (Tv.cstr fun t=>fin _ t _ fun t=>⟨_, rfl, rfl, rfl⟩)))))
  | @inst a C d es n hC h1 h2 =>
    have go:Isi w mx l (.ref a) (ofString "bool") false ∧ Isi w mx l (.ref a) (ofString "int") false ∧ Isi w mx l (.ref a) (ofString "str") false:=by
      rcases hC with _ | ⟨_, _ | ⟨_, _ | ⟨_, _ | ⟨_, _ | ⟨_, _ | ⟨_, h⟩⟩⟩⟩⟩⟩
      · exact ⟨isi_40_bool h1 h2, isi_40_int h1 h2, isi_40_str h1 h2⟩
      · exact ⟨isi_62_bool h1 h2, isi_62_int h1 h2, isi_62_str h1 h2⟩
      · exact ⟨isi_82_bool h1 h2, isi_82_int h1 h2, isi_82_str h1 h2⟩
      · exact ⟨isi_120_bool h1 h2, isi_120_int h1 h2, isi_120_str h1 h2⟩
      · exact ⟨isi_140_bool h1 h2, isi_140_int h1 h2, isi_140_str h1 h2⟩
      · exact ⟨isi_228_bool h1 h2, isi_228_int h1 h2, isi_228_str h1 h2⟩
      · cases h
    exact Ts.skip (isNr (ev _)) (Ts.skip (Te.isi (ev _) go.1 (fun _ h=>h) ki kb) (Ts.skip (Te.isi (ev _) go.2.1 (fun _ h=>h) ki kn) (Ts.ret (Tv.exf (Te.isi (ev _) go.2.2 (fun _ h=>h) ki ks) (Tv.cstr fun t=>fin _ t _ fun t=>⟨_, rfl, rfl, rfl⟩)))))
set_option genInjectivity false in
structure Th where
  a0:Addr
  a1:Addr
  a2:Addr
  n0:Int
  n1:Int
  n2:Int
noncomputable def Th.at (th:Th) (i:Int):Addr:=if i = 0 then th.a0 else if i = 1 then th.a1 else th.a2
noncomputable def Th.num (th:Th) (i:Int):Int:=if i = 0 then th.n0 else if i = 1 then th.n1 else th.n2
noncomputable def Ins (l:Led) (a C:Addr) (es:List DictEntry):Prop:=∃ d n, (a, instObj C d) ∈ l ∧ (d, dictOf es n) ∈ l
noncomputable abbrev has (x:String) (es:List DictEntry) (v:Value):Prop:=getL (ofString x) es = some (some v)
structure ThLed (th:Th) (l:Led):Prop where
  i0:∃ es t, Ins l th.a0 40 es ∧ has "number" es (.int th.n0 t)
  i1:∃ es t, Ins l th.a1 120 es ∧ has "number" es (.int th.n1 t)
  i2:∃ es t, Ins l th.a2 228 es ∧ has "number" es (.int th.n2 t)
inductive VIn (th:Th) (l:Led):Value → Pl → Prop
  | plain {v:Value} {pv:PV}:DatIn [] v pv.dat → VIn th l v (.plain pv)
  | text {a:Addr} {es:List DictEntry} {x:Str} {t:Tok}:Ins l a 62 es → has "text" es (.str x t) → VIn th l (.ref a) (.text x)
  | thing {i:Int}:0 ≤ i → i < 3 → VIn th l (.ref (th.at i)) (.thing i)
  | l0 {a b:Addr} {es:List DictEntry} {n:Nat}:Ins l a 82 es → has "items" es (.ref b) → (b, listOf [].toArray n) ∈ l → VIn th l (.ref a) .l0
  | l1 {a b:Addr} {es:List DictEntry} {n:Nat} {v:Value} {p:Pl}:Ins l a 82 es → has "items" es (.ref b) → (b, listOf [v].toArray n) ∈ l → VIn th l v p → VIn th l (.ref a) (.l1 p)
  | l2 {a b:Addr} {es:List DictEntry} {n:Nat} {v u:Value} {p q:Pl}:Ins l a 82 es → has "items" es (.ref b) → (b, listOf [v, u].toArray n) ∈ l → VIn th l v p → VIn th l u q → VIn th l (.ref a) (.l2 p q)
  | range {a:Addr} {es:List DictEntry} {x:Int} {t:Tok} {y:Option Int} {vy:Value} {o:Bool}:Ins l a 140 es → has "first" es (.int x t) → has "last" es vy → DatIn [] vy (optDat y) → has "open" es (.bool o) → VIn th l (.ref a) (.range x y o)
theorem Ins.mono {l k:Led} (s:∀ p ∈ l, p ∈ k) {a C:Addr} {es:List DictEntry} (h:Ins l a C es):Ins k a C es:=by
  refine byP fun _ q9=>?_
  obtain ⟨d, n, h1, h2⟩:=h
  refine q9 ?_
  exact ⟨d, n, s _ h1, s _ h2⟩
theorem VIn.mono {th:Th} {l k:Led} (s:∀ p ∈ l, p ∈ k) {v:Value} {p:Pl} (h:VIn th l v p):VIn th k v p:=by
  induction h with
  | plain h=>exact .plain h
  | text h1 h2=>exact .text (h1.mono s) h2
  | thing h1 h2=>exact .thing h1 h2
  | l0 h1 h2 h3=>exact .l0 (h1.mono s) h2 (s _ h3)
  | l1 h1 h2 h3 _ ih=>exact .l1 (h1.mono s) h2 (s _ h3) ih
  | l2 h1 h2 h3 _ _ ih ih2=>exact .l2 (h1.mono s) h2 (s _ h3) ih ih2
  | range h1 h2 h3 h4 h5=>exact .range (h1.mono s) h2 h3 h4 h5
theorem ThLed.mono {th:Th} {l k:Led} (s:∀ p ∈ l, p ∈ k) (h:ThLed th l):ThLed th k:=by
  refine byP fun _ q9=>?_
  obtain ⟨⟨e0, t0, h0, g0⟩, ⟨e1, t1, h1, g1⟩, ⟨e2, t2, h2, g2⟩⟩:=h
  refine q9 ?_
  exact ⟨⟨e0, t0, h0.mono s, g0⟩, ⟨e1, t1, h1.mono s, g1⟩, ⟨e2, t2, h2.mono s, g2⟩⟩
noncomputable def PV.code:PV → Dat
  | .int i=>.tuple [.str (ofString "int"), .int i]
  | .bool b=>.tuple [.str (ofString "bool"), .bool b]
  | .none=>.tuple [.str (ofString "nil"), .none]
  | .sym s=>.tuple [.str (ofString "sym"), .str s]
noncomputable def optCode:Option Int → Dat
  | some i=>.tuple [.str (ofString "int"), .int i]
  | none=>.tuple [.str (ofString "nil"), .none]
noncomputable def Pl.code (th:Th):Pl → Dat
  | .plain v=>v.code
  | .text s=>.tuple [.str (ofString "text"), .str s]
  | .thing i=>.tuple [.str (ofString "thing"), .int (th.num i)]
  | .l0=>.tuple [.str (ofString "list"), .tuple []]
  | .l1 p=>.tuple [.str (ofString "list"), .tuple [p.code th]]
  | .l2 p q=>.tuple [.str (ofString "list"), .tuple [p.code th, q.code th]]
  | .range a b o=>.tuple [.str (ofString "range"), .tuple [.str (ofString "int"), .int a], optCode b, .bool o]
noncomputable def Bnd (args:List Value) (v:Value) (deep:Int) (tk:Tok):Prop:=args = [v, .int deep tk] ∨ (args = [v] ∧ deep = 12 ∧ tk = 258)
section
variable {w mx} {c:Amb w mx} {m l:Fm} {n:Led} {R:Value → Led → Prop} {K:Fm → Led → Prop} {rest:List Stmt} {P:Value → Led → Prop}
theorem Tv.tup {es:List Expr} {k:Nat} {pos:Pos} (h:Tv c m n (spliced (backTo pos (starEach es c.env))) fun vs n'=>Tv c m n' (newTuple vs) P):Tv c m n (eval (.Tuple es k pos) c.env) P:=fun Q E h₁ tk F N ret =>
  Tuple_ (h _ _ _ _ F N fun v h' tk' n' F' N' p=>p Q E h' _ F' N' ret)
theorem Tv.tupL {b:Addr} {vs:List Value} {k:Nat} (hm:(b, ({ cls:=.type "list", data:=.seq vs.toArray k }:Obj)) ∈ n) (hsz:vs.length ≤ sizeLine) (h:∀ D, (∀ p ∈ n, p.1 < D) → P (.ref D) ((D, { cls:=.type "tuple", data:=.seq vs.toArray }) :: n)):Tv c m n (call (.type "tuple") [.ref b]) P:=fun Q E h₁ tk F N ret =>
  call_tuple_list ⟨_, (N _ hm).1, rfl, _, rfl⟩ (fun h' hk=>by
    have F':=F.keeps hk
    have N':News c.h₀ c.L h' n:=fun p hp=>⟨hk _ _ (N p hp).1, (N p hp).2⟩
    exact ret _ _ _ _ (F'.push _) (N'.push F' _) (h _ fun p hp=>Heap.lt_size (N' p hp).1)) (by rw [List.size_toArray]; exact hsz)
theorem Tv.subi {a b:Int} {t u:Tok} (h:∀ t, P (.int (a - b) t) n):Tv c m n (binaryOp .Sub (.int a t) (.int b u)) P:=by
  intro Q E h₁ tk F N ret
  walk1
  exact ret _ _ _ _ F N (h _)
theorem Tv.code {y z:Str} {e:Expr} {v:Value} {deep:Int} {tk:Tok} {k d dn:Nat} {p1 p2 p3 p4 p5:Pos} {dd:Dat} (hf:Ev c m n (.Name y p1) (.ref 250)) (he:Ev c m n e v) (hp:Ev c m n (.Name z p2) (.int deep tk)) (hr:c.Room dn) (C:∀ t, Does w mx 250 d [v, .int (deep - 1) t] n (fun r n' tl=>n' = n ∧ DatIn tl r dd))
    (h:∀ r tl, Gt n tl → DatIn tl r dd → P r (n ++ tl)) (hd:d < dn) (hs:starEach [e, .BinOp (.Name z p2) .Sub (.Constant (.int 1) k p3) p4] c.env = (false, eval e c.env) :: starEach [.BinOp (.Name z p2) .Sub (.Constant (.int 1) k p3) p4] c.env) :
    Tv c m n (eval (.Call (.Name y p1) [e, .BinOp (.Name z p2) .Sub (.Constant (.int 1) k p3) p4] [] p5) c.env) P :=
  Tv.callee (hf _ (Tv.with1 (by k_is) (Tv.args1 (he _ (Tv.args1 (Tv.binop (hp _ (Tv.cint fun t=>Tv.subi fun t=>Tv.args0 (Tv.doesT (C t) hr (fun r n' tl q=>q.1) (fun r tl g q=>h r tl g q.2) hd)))) rfl)) hs) hs rfl)) rfl
theorem Tv.tup2 {e1 e2:Expr} {k:Nat} {pos:Pos} {v1 v2:Value} (h1:Ev c m n e1 v1) (h2:Ev c m n e2 v2) (hs:starEach [e1, e2] c.env = (false, eval e1 c.env) :: starEach [e2] c.env) (hs2:starEach [e2] c.env = (false, eval e2 c.env) :: starEach [] c.env) (h:∀ D, (∀ p ∈ n, p.1 < D) → P (.ref D) ((D, { cls:=.type "tuple", data:=.seq [v1, v2].toArray }) :: n)):Tv c m n (eval (.Tuple [e1, e2] k pos) c.env) P :=
  Tv.tup (Tv.args1 (h1 _ (Tv.args1 (h2 _ (Tv.args0 (Tv.tuple h (Nat.le_of_ble_eq_true rfl)))) hs2)) hs)
theorem Tv.tupw {x:Str} {e:Expr} {k k2:Nat} {pos p2:Pos} {v:Value} (h1:Ev c m n e v) (hs:starEach [e] c.env = (false, eval e c.env) :: starEach [] c.env) (h:∀ D tk, (∀ p ∈ n, p.1 < D) → P (.ref D) ((D, { cls:=.type "tuple", data:=.seq [.str x tk, v].toArray }) :: n)):Tv c m n (eval (.Tuple [.Constant (.str x) k2 p2, e] k pos) c.env) P :=
  Tv.tup (Tv.args1 (Tv.cstr fun tk=>Tv.args1 (h1 _ (Tv.args0 (Tv.tuple (fun D=>h D tk) (Nat.le_of_ble_eq_true rfl)))) hs) rfl)
theorem Ev.field {x f:Str} {p1 p2:Pos} {a C:Addr} {es:List DictEntry} {v:Value} {attr:Option Value} (h1:Ev c m n (.Name x p1) (.ref a)) (hi:Ins n a C es) (hf:FieldOk w C f attr) (hv:getL f es = some (some v)) (hh:handedIn v = true):Ev c m n (.Attribute (.Name x p1) f p2) v:=fun P h=>by
  refine byP fun _ q9=>?_
  obtain ⟨d, k, m1, m2⟩:=hi
  refine q9 ?_
  exact Tv.attr (h1 _ (Tv.get m1 m2 hf hv hh h)) rfl
theorem Te.and2 {a b:Expr} {pos:Pos} {t:Bool} (h1:Te c m n a true) (h2:Te c m n b t):Te c m n (.BoolOp .And [a, b] pos) t:=fun P h=>Tv.and1 (h1 _ (both_t rfl (Tv.and1 (h2 _ ⟨fun e=>Tv.and0 (e ▸ h), fun e=>e ▸ h⟩))))
theorem Te.andF {a:Expr} {es:List Expr} {pos:Pos} (h1:Te c m n a false):Te c m n (.BoolOp .And (a :: es) pos) false:=fun P h=>Tv.and1 (h1 _ (both_f rfl h))
theorem Te.andX {a b:Expr} {pos:Pos} {t:Bool} (h1:Te c m n a t) (h2:t = true → Te c m n b false):Te c m n (.BoolOp .And [a, b] pos) false:=by
  cases t with
  | true=>exact Te.and2 h1 (h2 rfl)
  | false=>exact Te.andF h1
theorem Te.cmpi {x:Str} {p1 p2 p3:Pos} {k:Nat} {v:Value} {i:Int} {op:CmpOp} {b:Bool} (h1:Ev c m n (.Name x p1) v) (hb:∀ (t:Tok) (A:Around) (Q:Value → Shared → Prop) (E:Value → Shared → Prop) (s:Shared), Q (.bool b) s → wpAny (model PR w) A (compareOp op v (.int i t)) Q E s) (hm:behindInMarks op (.Constant (.int i) k p2) = false):Te c m n (.Compare (.Name x p1) [op] [.Constant (.int i) k p2] p3) b:=fun P h =>
  Tv.cmp1 (h1 _ (Tv.cint (fun tk Q E h₁ tk' F N ret=>hb _ _ _ _ _ (ret _ _ _ _ F N (Tv.tbool h))))) hm
theorem Te.isi' {x y:Str} {p1 p2 p3 p4:Pos} {a C:Addr} {es:List DictEntry} {k:Led} {b:Bool} (h1:Ev c m n (.Name x p1) (.ref a)) (hI:Ins k a C es) (hi:∀ {d:Addr} {q:Nat}, (a, instObj C d) ∈ k → (d, dictOf es q) ∈ k → Isi w mx k (.ref a) y b) (hs:∀ p ∈ k, p ∈ n) (hk:Kd c (ofString "isinstance") .globalImplicit) (hy:Kd c y .globalImplicit):Te c m n (.Call (.Name (ofString "isinstance") p2) [.Name x p1, .Name y p3] [] p4) b:=by
  refine byP fun _ q9=>?_
  obtain ⟨d, q, h2, h3⟩:=hI
  refine q9 ?_
  exact Te.isi h1 (hi h2 h3) hs hk hy
end
theorem Kind.mono {l k:Led} {v:Value} {x:String} (s:∀ p ∈ l, p ∈ k) (h:Kind l v x):Kind k v x:=by
  cases h with
  | none=>exact .none
  | bool b=>exact .bool b
  | int i t=>exact .int i t
  | str i t=>exact .str i t
  | inst hC h1 h2=>exact .inst hC (s _ h1) (s _ h2)
theorem Kind.ins {l:Led} {a C:Addr} {es:List DictEntry} (hC:C ∈ ([40, 62, 82, 120, 140, 228]:List Nat)) (h:Ins l a C es):Kind l (.ref a) "thing":=by
  refine byP fun _ q9=>?_
  obtain ⟨d, n, h1, h2⟩:=h
  refine q9 ?_
  exact .inst hC h1 h2
theorem n_40:FieldOk w 40 (ofString "number") none:=⟨by k_is, by k_is, by k_is, by k_is⟩
theorem n_82:FieldOk w 82 (ofString "number") none:=⟨by k_is, by k_is, by k_is, by k_is⟩
theorem n_120:FieldOk w 120 (ofString "number") none:=⟨by k_is, by k_is, by k_is, by k_is⟩
theorem n_228:FieldOk w 228 (ofString "number") none:=⟨by k_is, by k_is, by k_is, by k_is⟩
theorem gt0 {A:Around} {Q:Value → Shared → Prop} {E:Value → Shared → Prop} {s:Shared} {deep:Int} {tk t:Tok} {b:Bool} (hb:decide (0 < deep) = b) (h:Q (.bool b) s):wpAny (model PR w) A (compareOp .Gt (.int deep tk) (.int 0 t)) Q E s:=by
  walk1
  have e:decide (deep > 0) = b:=hb
  rw [e]
  exact h
theorem f_text:FieldOk w 62 (ofString "text") none:=⟨by k_is, by k_is, by k_is, by k_is⟩
noncomputable def codeSc:Scope:=by
  refine (?f:top 16 = .FunctionDef ?n ?a ?b ?c ?d ?e ?s ?g ?h ?p → Scope) ?q
  case q=>exact rfl
  exact fun _=>?s
noncomputable def codeRest:List Stmt:=by
  refine (?f:top 16 = .FunctionDef ?n ?a (?b1 :: ?b) ?c ?d ?e ?s ?g ?h ?p → List Stmt) ?q
  case q=>exact rfl
  exact fun _=>?b
theorem code_enter {w mx} {l:Led} {v:Value} {x:String} {deep:Int} {tk:Tok} {args:List Value} (hargs:Bnd args v deep tk) (hk:Kind l v x) {dn:Nat} (hdn:1 < dn) {R:Value → Led → Led → Prop}
    (h:∀ (c:Amb w mx) (m:Fm) (n:Led) (b:Addr) (o:Obj) (t:Tok), m = [(ofString "sort", .str (ofString x) t), (ofString "value", v)] → c.cp = none → c.cs = codeSc → c.cl = [(ofString "deep", b)] → (b, o) ∈ n → o.data = .cell (some (.int deep tk)) → Ex l n [] → c.Room dn →
      Ts c m n codeRest (Owes l R) fun _ n=>Owes l R .none n):Does w mx 250 dn args l R:=by
  k_dflt (refine' does_enterC (binds:=[(ofString "value", v), (ofString "deep", .int deep tk)]) (bm:=[(ofString "value", v)]) ?h1 ?h2 ?h3 ?h4 ?h5 ?h6 ?h7 ?h8 ?h9 ?hb ?_; (case h1=>k_is); (case h2=>k_is); (case h4=>exact rfl); (case h5=>decide +kernel); (case h6=>exact rfl); (case h7=>exact rfl); (case h8=>exact rfl); (case h9=>lia); (case hb=>exact rfl); (case h3=>(rcases hargs with rfl | ⟨rfl, rfl, rfl⟩); (all_goals exact fun s X=>binds_K X rfl (by k_is) rfl rfl rfl)); intro b m cells hm hcp hcs hcl hY hlt hr)
  obtain ⟨o, rfl, ho⟩:=CellsAre.one (n:=ofString "deep") (c:=b.L + 1) hY
  have sub:∀ p ∈ l, p ∈ (b.L + 1, o) :: l:=fun p hp=>iC hp
  exact Ts.assign hm (Tv.callee ((show ∀ p, Ev b m _ (.Name (ofString "sort_of") p) (.ref 237) from fun p=>by exact Ev.glob (by k_is) Kx rfl) _ _ (Tv.with1 (by k_is) (Tv.args1 ((show ∀ p, Ev b m _ (.Name (ofString "value") p) v from fun p=>by exact Ev.loc hm rfl Kx rfl) _ _ (Tv.args0 (Tv.does0 (sort_ok (hk.mono sub)) hr (fun r n' tl z9=>by refine byP fun _ q9=>?_; obtain ⟨t, e1, e2, e3⟩:=z9; exact q9 (⟨e2, e3⟩)) (fun r ⟨t, e1, _⟩=>by subst e1; exact fun m' hm'=>h b m' _ _ o t hm' hcp hcs hcl iH ho (Ex.of sub) hr) hdn))) rfl) rfl rfl)) rfl) Kx rfl
theorem code_flat {w mx} {l:Led} {v:Value} {x:String} {d:Dat} {deep:Int} {tk:Tok} {args:List Value} (hargs:Bnd args v deep tk) (hk:Kind l v x) (hx:(ofString x != ofString "thing") = true) (hd:∀ k, DatIn k v d):Does w mx 250 6 args l (fun r n' tl=>n' = l ∧ DatIn tl r (.tuple [.str (ofString x), d])) :=
  code_enter hargs hk (by decide) fun c m n b o t hm hcp hcs hcl hb ho hn hr =>
    Ts.hand (Te.nes (by exact Ev.loc hm rfl Kx rfl) hx) (Tv.tup2 (by exact Ev.loc hm rfl Kx rfl) (by exact Ev.loc hm rfl Kx rfl) rfl rfl fun D hD=>(hn.new hD).owes ⟨rfl, .tuple iH (.cons (.str _ _) (.cons (hd _) .nil))⟩)
theorem code_plain {w mx} {th:Th} {pv:PV} {l:Led} {v:Value} {deep:Int} {tk:Tok} (hD:DatIn [] v pv.dat) {args:List Value} (hargs:Bnd args v deep tk):Does w mx 250 6 args l (fun r n' tl=>n' = l ∧ DatIn tl r (Pl.code th (.plain pv))):=by
  cases pv <;> cases hD
  · exact code_flat hargs (.int _ _) (by decide) fun k=>.int _ _
  · exact code_flat hargs (.bool _) (by decide) fun k=>.bool _
  · exact code_flat hargs .none (by decide) fun k=>.none
  · exact code_flat hargs (.str _ _) (by decide) fun k=>.str _ _
theorem code_text {w mx} {th:Th} {l:Led} {a:Addr} {es:List DictEntry} {x:Str} {t:Tok} {deep:Int} {tk:Tok} (hI:Ins l a 62 es) (hx:has "text" es (.str x t)) {args:List Value} (hargs:Bnd args (.ref a) deep tk):Does w mx 250 6 args l (fun r n' tl=>n' = l ∧ DatIn tl r (Pl.code th (.text x))) :=
  code_enter hargs (.ins (by decide) hI) (by decide) fun c m n b o t hm hcp hcs hcl hb ho hn hr =>
    Ts.skip (Te.nes (by exact Ev.loc hm rfl Kx rfl) rfl) (Ts.hand (Te.isi' (by exact Ev.loc hm rfl Kx rfl) hI isi_62_Text hn.old Kx Kx) (Tv.tupw (Ev.field (by exact Ev.loc hm rfl Kx rfl) (hI.mono hn.old) f_text hx rfl) rfl fun D tk hD=>(hn.new hD).owes ⟨rfl, .tuple iH (.cons (.str _ _) (.cons (.str _ _) .nil))⟩))
theorem code_num {w mx} {l:Led} {a C:Addr} {es:List DictEntry} {i:Int} {t:Tok} {deep:Int} {tk:Tok} {args:List Value} {bL bR:Bool} (hargs:Bnd args (.ref a) deep tk) (hC:C ∈ ([40, 62, 82, 120, 140, 228]:List Nat)) (hI:Ins l a C es) (hx:has "number" es (.int i t)) (hf:FieldOk w C (ofString "number") none)
    (iT:∀ {d:Addr} {q:Nat}, (a, instObj C d) ∈ l → (d, dictOf es q) ∈ l → Isi w mx l (.ref a) (ofString "Text") false) (jL:∀ {d:Addr} {q:Nat}, (a, instObj C d) ∈ l → (d, dictOf es q) ∈ l → Isi w mx l (.ref a) (ofString "ListThing") bL) (jR:∀ {d:Addr} {q:Nat}, (a, instObj C d) ∈ l → (d, dictOf es q) ∈ l → Isi w mx l (.ref a) (ofString "RangeThing") bR)
    (hL:bL = true → ¬ 0 < deep) (hR:bR = true → ¬ 0 < deep):Does w mx 250 6 args l (fun r n' tl=>n' = l ∧ DatIn tl r (.tuple [.str (ofString "thing"), .int i])) :=
  code_enter hargs (.ins hC hI) (by decide) fun c m n b o u hm hcp hcs hcl hb ho hn hr =>
    have ev:∀ p, Ev c m n (.Name (ofString "value") p) (.ref a):=fun p=>by exact Ev.loc hm rfl Kx rfl
    have ed:∀ p, Ev c m n (.Name (ofString "deep") p) (.int deep tk):=fun p=>Ev.cell (by rw [hcl]; rfl) hb ho Kx rfl
    have ki:Kd c (ofString "isinstance") .globalImplicit:=Kx
    Ts.skip (Te.nes (by exact Ev.loc hm rfl Kx rfl) rfl) (Ts.skip (Te.isi' (ev _) hI iT hn.old ki Kx) (Ts.skip (Te.andX (Te.isi' (ev _) hI jL hn.old ki Kx) fun e=>Te.cmpi (ed _) (fun t A Q E s h=>gt0 (decide_eq_false (hL e)) h) rfl)
      (Ts.skip (Te.andX (Te.isi' (ev _) hI jR hn.old ki Kx) fun e=>Te.cmpi (ed _) (fun t A Q E s h=>gt0 (decide_eq_false (hR e)) h) rfl)
        (Ts.ret (Tv.tupw (Ev.field (ev _) (hI.mono hn.old) hf hx rfl) rfl fun D tk hD=>(hn.new hD).owes ⟨rfl, .tuple iH (.cons (.str _ _) (.cons (.int _ _) .nil))⟩)))))
theorem code_thing {w mx} {th:Th} {l:Led} {i deep:Int} {tk:Tok} (h0:0 ≤ i) (h3:i < 3) (hth:ThLed th l) {args:List Value} (hargs:Bnd args (.ref (th.at i)) deep tk):Does w mx 250 6 args l (fun r n' tl=>n' = l ∧ DatIn tl r (Pl.code th (.thing i))):=by
  refine byP fun _ q9=>?_
  obtain ⟨⟨e0, u0, g0, p0⟩, ⟨e1, u1, g1, p1⟩, ⟨e2, u2, g2, p2⟩⟩:=hth
  refine q9 ?_
  have hi:i = 0 ∨ i = 1 ∨ i = 2:=by lia
  rcases hi with rfl | rfl | rfl
  · exact code_num (C:=40) hargs (by decide) g0 p0 n_40 isi_40_Text isi_40_ListThing isi_40_RangeThing nofun nofun
  · exact code_num (C:=120) hargs (by decide) g1 p1 n_120 isi_120_Text isi_120_ListThing isi_120_RangeThing nofun nofun
  · exact code_num (C:=228) hargs (by decide) g2 p2 n_228 isi_228_Text isi_228_ListThing isi_228_RangeThing nofun nofun
theorem code_low {w mx} {l:Led} {a:Addr} {es:List DictEntry} {i deep:Int} {t tk:Tok} (hI:Ins l a 82 es) (hx:has "number" es (.int i t)) (hp:¬ 0 < deep) {args:List Value} (hargs:Bnd args (.ref a) deep tk):Does w mx 250 6 args l (fun r n' tl=>n' = l ∧ DatIn tl r (.tuple [.str (ofString "thing"), .int i])) :=
  code_num hargs (by decide) hI hx n_82 isi_82_Text isi_82_ListThing isi_82_RangeThing (fun _=>hp) nofun
theorem DatAll.snoc {l:Led}:∀ {vs:List Value} {ds:List Dat} {v:Value} {d:Dat}, DatAll l vs ds → DatIn l v d → DatAll l (vs ++ [v]) (ds ++ [d])
  | [], _, _, _, .nil, h=>.cons h .nil
  | _ :: _, _, _, _, .cons a b, h=>.cons a (DatAll.snoc b h)
theorem DatAll.len {l:Led}:∀ {vs:List Value} {ds:List Dat}, DatAll l vs ds → vs.length = ds.length
  | _, _, .nil=>rfl
  | _, _, .cons _ h=>congrArg (· + 1) (DatAll.len h)
theorem f_items:FieldOk w 82 (ofString "items") none:=⟨by k_is, by k_is, by k_is, by k_is⟩
theorem f_first:FieldOk w 140 (ofString "first") none:=⟨by k_is, by k_is, by k_is, by k_is⟩
theorem f_last:FieldOk w 140 (ofString "last") none:=⟨by k_is, by k_is, by k_is, by k_is⟩
theorem f_open:FieldOk w 140 (ofString "open") none:=⟨by k_is, by k_is, by k_is, by k_is⟩
theorem code_range {w mx} {l:Led} {a:Addr} {es:List DictEntry} {v1 v2:Value} {d1 d2:Dat} {o:Bool} {deep:Int} {tk:Tok} {dn:Nat} (hI:Ins l a 140 es) (hx:has "first" es v1) (hy:has "last" es v2) (ho:has "open" es (.bool o)) (k1:handedIn v1 = true) (k2:handedIn v2 = true) (hp:0 < deep)
    (I1:∀ {l':Led} {t:Tok}, (∀ p ∈ l, p ∈ l') → Does w mx 250 dn [v1, .int (deep - 1) t] l' (fun r n' tl=>n' = l' ∧ DatIn tl r d1)) (I2:∀ {l':Led} {t:Tok}, (∀ p ∈ l, p ∈ l') → Does w mx 250 dn [v2, .int (deep - 1) t] l' (fun r n' tl=>n' = l' ∧ DatIn tl r d2))
    {args:List Value} (hargs:Bnd args (.ref a) deep tk):Does w mx 250 (dn + 3) args l (fun r n' tl=>n' = l ∧ DatIn tl r (.tuple [.str (ofString "range"), d1, d2, .bool o])) :=
  code_enter hargs (.ins (by decide) hI) (by lia) fun c m n b ob u hm hcp hcs hcl hb hob hn hr =>
    have ev:∀ k p, Ev c m (n ++ k) (.Name (ofString "value") p) (.ref a):=fun k p=>by exact Ev.loc hm rfl Kx rfl
    have ev0:∀ p, Ev c m n (.Name (ofString "value") p) (.ref a):=fun p=>by exact Ev.loc hm rfl Kx rfl
    have ed:∀ k p, (∀ q ∈ n, q ∈ k) → Ev c m k (.Name (ofString "deep") p) (.int deep tk):=fun k p s=>Ev.cell (by rw [hcl]; rfl) (s _ hb) hob Kx rfl
    have ec:∀ k p, Ev c m k (.Name (ofString "code_of") p) (.ref 250):=fun k p=>by exact Ev.glob (by k_is) Kx rfl
    have ki:Kd c (ofString "isinstance") .globalImplicit:=Kx
    Ts.skip (Te.nes (by exact Ev.loc hm rfl Kx rfl) rfl) (Ts.skip (Te.isi' (ev0 _) hI isi_140_Text hn.old ki Kx) (Ts.skip (Te.andF (Te.isi' (ev0 _) hI isi_140_ListThing hn.old ki Kx))
      (Ts.hand (Te.and2 (Te.isi' (ev0 _) hI isi_140_RangeThing hn.old ki Kx) (Te.cmpi (ed _ _ fun _ h=>h) (fun t A Q E s h=>gt0 (decide_eq_true hp) h) rfl))
        (Tv.tup (Tv.args1 (Tv.cstr fun t=>Tv.args1 (Tv.code (ec _ _) (Ev.field (ev0 _) (hI.mono hn.old) f_first hx k1) (ed _ _ fun _ h=>h) hr (fun t=>I1 hn.old) (fun r1 t1 g1 q1 =>
          Tv.args1 (Tv.code (ec _ _) (Ev.field (ev _ _) (hI.mono fun p hp=>iL (hn.old p hp)) f_last hy k2) (ed _ _ fun _ h=>iL h) hr (fun t=>I2 fun p hp=>iL (hn.old p hp)) (fun r2 t2 g2 q2 =>
            Tv.args1 (Ev.field (by exact Ev.loc hm rfl Kx rfl) (hI.mono fun p hp=>iL (iL (hn.old p hp))) f_open ho rfl _ (Tv.args0 (Tv.tuple (fun D hD=>(((hn.app g1).app g2).new hD).owes
              ⟨rfl, .tuple iH (.cons (.str _ _) (.cons (q1.mono fun p hp=>iC (iL hp)) (.cons (q2.mono fun p hp=>iC (iR hp)) (.cons (.bool _) .nil))))⟩) (Nat.le_of_ble_eq_true rfl)))) rfl) (by lia) rfl) rfl) (by lia) rfl) rfl) rfl)))))
theorem tuple_bt {w:World}:nsIn (K9 w.params) mainGlobals (ofString "tuple") = some none:=by k_is
theorem code_list {w mx} {l:Led} {a b:Addr} {es:List DictEntry} {n0:Nat} {vs:List Value} {ds:List Dat} {deep:Int} {tk:Tok} {dn:Nat} (hI:Ins l a 82 es) (hx:has "items" es (.ref b)) (hb:(b, listOf vs.toArray n0) ∈ l) (hlen:vs.length = ds.length) (hsz:vs.length ≤ sizeLine) (hp:0 < deep)
    (IH:∀ (i:Nat) (v:Value) (d:Dat), vs[i]? = some v → ds[i]? = some d → ∀ {l':Led} {t:Tok}, (∀ p ∈ l, p ∈ l') → Does w mx 250 dn [v, .int (deep - 1) t] l' (fun r n' tl=>n' = l' ∧ DatIn tl r d))
    {args:List Value} (hargs:Bnd args (.ref a) deep tk):Does w mx 250 (dn + 3) args l (fun r n' tl=>n' = l ∧ DatIn tl r (.tuple [.str (ofString "list"), .tuple ds])) :=
  code_enter hargs (.ins (by decide) hI) (by lia) fun c m n bc ob u hm hcp hcs hcl hbc hob hn hr=>by
    have ev0:∀ p, Ev c m n (.Name (ofString "value") p) (.ref a):=fun p=>by exact Ev.loc hm rfl Kx rfl
    have ed:∀ p, Ev c m n (.Name (ofString "deep") p) (.int deep tk):=fun p=>Ev.cell (by rw [hcl]; rfl) hbc hob Kx rfl
    have ki:Kd c (ofString "isinstance") .globalImplicit:=Kx
    refine' Ts.skip (Te.nes (by exact Ev.loc hm rfl Kx rfl) rfl) (Ts.skip (Te.isi' (ev0 _) hI isi_82_Text hn.old ki Kx) (Ts.hand (Te.and2 (Te.isi' (ev0 _) hI isi_82_ListThing hn.old ki Kx) (Te.cmpi (ed _) (fun t A Q E s h=>gt0 (decide_eq_true hp) h) rfl))
      (Tv.tup (Tv.args1 (Tv.cstr fun t=>Tv.args1 (Tv.callee (Tv.blt tuple_bt (by boot_fast) (by decide) (Tv.witht (Tv.args1 (Tv.comp (fun i ys n'=>∃ tl, n' = n ++ tl ∧ Gt n tl ∧ DatAll tl ys (ds.take i)) hcp (Ev.field (ev0 _) (hI.mono hn.old) f_items hx rfl) (hn.old _ hb) (by rw [List.size_toArray]; exact hsz) ?clos ?cell rfl ?names rfl (fun v=>rfl) ⟨[], (List.append_nil n).symm, Gt.nil, .nil⟩ (fun i ys n' z9=>by refine byP fun _ q9=>?_; obtain ⟨tl, e, g, h⟩:=z9; exact q9 (e ▸ iL (hn.old _ hb))) ?step ?fin) rfl) rfl rfl) Kx rfl) rfl) rfl) rfl))))
    case clos =>
      rw [Amb.env_of hcp]
      show closureFor _ (envX c.cn c.cs c.L c.a c.ccd c.cl) = _
      rw [hcs, hcl]
      rfl
    case cell=>decide
    case names=>decide
    case step =>
      intro i ys n' v heads C oC m₂ hv z9 hC hoC hm2 off
      refine byP fun _ q9=>?_
      obtain ⟨tl, rfl, g, hD⟩:=z9
      refine q9 ?_
      have hi:i < vs.length:=by
        have:=(List.getElem?_eq_some_iff.mp (by simpa using hv)).1
        exact this
      have hd:ds[i]? = some (ds[i]'(hlen ▸ hi)):=List.getElem?_eq_getElem _
      have old:∀ p ∈ n, p ∈ heads ++ (n ++ tl):=fun p hp=>iR (iL hp)
      exact Tv.code (Ev.cglob (by k_is) (Kc.of hcs rfl rfl) rfl) (Ev.own (iL hC) hoC hm2 (Kc.of hcs rfl rfl) rfl) (Ev.ccell rfl (old _ hbc) hob (Kc.of hcs rfl rfl) rfl) hr (fun t=>IH i v _ (by simpa using hv) hd fun p hp=>old p (hn.old p hp))
        (fun r t2 g2 q2=>Ex.turn (J:=fun y n''=>∃ tl, n'' = n ++ tl ∧ Gt n tl ∧ DatAll tl (ys ++ [y]) (ds.take (i + 1))) (Ex.app (Ex.of fun p hp=>hp) g2) off ⟨tl ++ t2, List.append_assoc .., Gt.app g (Gt.sub old g2), by
          rw [List.take_succ, hd]
          exact DatAll.snoc (hD.mono fun p hp=>iL hp) (q2.mono fun p hp=>iR hp)⟩) (by lia) rfl
    case fin =>
      intro D ys n' z9 o1
      refine byP fun _ q9=>?_
      obtain ⟨tl, rfl, g, hD⟩:=z9
      refine q9 ?_
      rw [List.size_toArray, hlen, List.take_length] at hD
      exact Tv.args0 (Tv.tupL iH (by rw [DatAll.len hD, ← hlen]; exact hsz) fun D2 hD2=>Tv.args0 (Tv.tuple (fun D3 hD3=>((((hn.app g).add o1).new hD2).new hD3).owes ⟨rfl, .tuple iH (.cons (.str _ _) (.cons (.tuple (iC iH) (hD.mono fun p hp=>iC (iC (iC hp)))) .nil))⟩) (Nat.le_of_ble_eq_true rfl)))
noncomputable def CodeD (w:World) (mx:Mx) (th:Th) (p:Pl) (dn:Nat):Prop:=∀ {l:Led} {v:Value} {deep:Int} {tk:Tok} {args:List Value} (_:VIn th l v p) (_:ThLed th l) (_:(p.dep:Int) ≤ deep) (_:Bnd args v deep tk), Does w mx 250 dn args l (fun r n' tl=>n' = l ∧ DatIn tl r (p.code th))
theorem CodeD.le {w mx th p} {n k:Nat} (h:CodeD w mx th p n) (hk:n ≤ k):CodeD w mx th p k:=by
  intro l v deep tk args hv ht hd hb
  intro dp un gd cn cs a ccd cl outer A₀ base h₀ L m s Q E B F X N T hk' hd' hu hret
  exact h hv ht hd hb dp un gd cn cs a ccd cl outer A₀ base h₀ L m s Q E B F X N T hk' (by lia) (by lia) hret
theorem code_ok {w mx} {th:Th}:∀ p:Pl, CodeD w mx th p (3 * p.dep + 6)
  | .plain pv=>fun hv _ _ hb=>by
    cases hv with
    | plain hD=>exact code_plain hD hb
  | .text x=>fun hv _ _ hb=>by
    cases hv with
    | text h1 h2=>exact code_text h1 h2 hb
  | .thing i=>fun hv ht _ hb=>by
    cases hv with
    | thing h1 h2=>exact code_thing h1 h2 ht hb
  | .l0=>fun hv ht hd hb=>by
    have hd':((1:Nat):Int) ≤ _:=hd
    cases hv with
    | l0 h1 h2 h3=>exact code_list (vs:=[]) (ds:=[]) (dn:=6) h1 h2 h3 rfl (Nat.zero_le _) (by lia) (fun i v d hv=>nomatch hv) hb
  | .l1 p=>fun hv ht hd hb=>by
    have IH:CodeD w mx th p (3 * p.dep + 6):=code_ok p
    have hd':((p.dep + 1:Nat):Int) ≤ _:=hd
    cases hv with
    | @l1 _ _ _ _ v0 _ h1 h2 h3 h4 =>
      refine code_list (vs:=[v0]) (ds:=[p.code th]) h1 h2 h3 rfl (by rw [sizeLine_eq]; exact Nat.le_of_ble_eq_true rfl) (by lia) ?_ hb
      rintro (_ | i) v d hv hd l' t s
      · cases hv
        cases hd
        exact IH (h4.mono s) (ht.mono s) (by lia) (.inl rfl)
      · cases hv
  | .l2 p q=>fun hv ht hd hb=>by
    have IH1:CodeD w mx th p (3 * max p.dep q.dep + 6):=CodeD.le (code_ok p) (by lia)
    have IH2:CodeD w mx th q (3 * max p.dep q.dep + 6):=CodeD.le (code_ok q) (by lia)
    have hd':((max p.dep q.dep + 1:Nat):Int) ≤ _:=hd
    cases hv with
    | @l2 _ _ _ _ v0 v1 _ _ h1 h2 h3 h4 h5 =>
      refine code_list (vs:=[v0, v1]) (ds:=[p.code th, q.code th]) h1 h2 h3 rfl (by rw [sizeLine_eq]; exact Nat.le_of_ble_eq_true rfl) (by lia) ?_ hb
      rintro (_ | _ | i) v d hv hd l' t s
      · cases hv
        cases hd
        exact IH1 (h4.mono s) (ht.mono s) (by lia) (.inl rfl)
      · cases hv
        cases hd
        exact IH2 (h5.mono s) (ht.mono s) (by lia) (.inl rfl)
      · cases hv
  | .range x y o=>fun hv ht hd hb=>by
    have hd':((1:Nat):Int) ≤ _:=hd
    cases hv with
    | range h1 h2 h3 h4 h5 =>
      have I1:∀ {l':Led} {j:Int} {t t2:Tok}, Does w mx 250 6 [.int x t2, .int j t] l' (fun r n' tl=>n' = l' ∧ DatIn tl r (Pl.code th (.plain (.int x)))):=code_plain (.int _ _) (.inl rfl)
      cases y with
      | none=>cases h4; exact code_range h1 h2 h3 h5 rfl rfl (by lia) (fun _=>I1) (fun _=>code_plain (th:=th) (pv:=.none) .none (.inl rfl)) hb
      | some y=>cases h4; exact code_range h1 h2 h3 h5 rfl rfl (by lia) (fun _=>I1) (fun _=>code_plain (th:=th) (pv:=.int y) (.int _ _) (.inl rfl)) hb
theorem mle {a b c:Nat} (h:a ≤ c) (k:b ≤ c):max a b ≤ c:=Nat.max_le.mpr ⟨h, k⟩
theorem upm {a x m k:Nat} (h:a ≤ 2 * x + k) (e:x ≤ m):a ≤ 2 * m + k:=Nat.le_trans h (Nat.add_le_add_right (Nat.mul_le_mul_left 2 e) k)
inductive Cd where
  | plain (v:PV) | text (s:Str) | thing (i:Int) | l0 | l1 (p:Cd) | l2 (p q:Cd) | range (a:Int) (b:Option Int) (o:Bool)
noncomputable def Cd.dat:Cd → Dat
  | .plain v=>v.code
  | .text s=>.tuple [.str (ofString "text"), .str s]
  | .thing n=>.tuple [.str (ofString "thing"), .int n]
  | .l0=>.tuple [.str (ofString "list"), .tuple []]
  | .l1 p=>.tuple [.str (ofString "list"), .tuple [p.dat]]
  | .l2 p q=>.tuple [.str (ofString "list"), .tuple [p.dat, q.dat]]
  | .range a b o=>.tuple [.str (ofString "range"), .tuple [.str (ofString "int"), .int a], optCode b, .bool o]
noncomputable def Pl.cd (th:Th):Pl → Cd
  | .plain v=>.plain v
  | .text s=>.text s
  | .thing i=>.thing (th.num i)
  | .l0=>.l0
  | .l1 p=>.l1 (p.cd th)
  | .l2 p q=>.l2 (p.cd th) (q.cd th)
  | .range a b o=>.range a b o
theorem cd_dat {th:Th}:∀ p:Pl, (p.cd th).dat = p.code th
  | .plain _=>rfl
  | .text _=>rfl
  | .thing _=>rfl
  | .l0=>rfl
  | .l1 p=>by simp only [Pl.cd, Cd.dat, Pl.code, cd_dat p]
  | .l2 p q=>by simp only [Pl.cd, Cd.dat, Pl.code, cd_dat p, cd_dat q]
  | .range _ _ _=>rfl
structure Th.Apart (th:Th):Prop where
  h01:th.n0 ≠ th.n1
  h02:th.n0 ≠ th.n2
  h12:th.n1 ≠ th.n2
theorem Th.num_inj {th:Th} (h:th.Apart) {i j:Int} (hi:0 ≤ i ∧ i < 3) (hj:0 ≤ j ∧ j < 3) (e:th.num i = th.num j):i = j:=by
  have c3:∀ {k:Int}, 0 ≤ k ∧ k < 3 → k = 0 ∨ k = 1 ∨ k = 2:=fun h=>by lia
  rcases c3 hi with rfl | rfl | rfl <;> rcases c3 hj with rfl | rfl | rfl <;> first | rfl | exact absurd e h.h01 | exact absurd e h.h02 | exact absurd e h.h12 | exact absurd e.symm h.h01 | exact absurd e.symm h.h02 | exact absurd e.symm h.h12
theorem cd_inj {th:Th} (h:th.Apart):∀ {p q:Pl}, p.Ok → q.Ok → p.cd th = q.cd th → p = q:=by
  intro p
  induction p with
  | plain v=>intro q hp hq e; cases q <;> simp_all [Pl.cd]
  | text v=>intro q hp hq e; cases q <;> simp_all [Pl.cd]
  | thing i =>
    intro q hp hq e
    cases q with
    | thing j=>rw [Th.num_inj h hp hq (by simpa [Pl.cd] using e)]
    | _=>simp [Pl.cd] at e
  | l0=>intro q hp hq e; cases q <;> simp_all [Pl.cd]
  | l1 p ih =>
    intro q hp hq e
    cases q with
    | l1 q =>
      have e:p.cd th = q.cd th:=by simpa [Pl.cd] using e
      rw [ih (q:=q) hp hq e]
    | _=>simp [Pl.cd] at e
  | l2 p p' ih ih' =>
    intro q hp hq e
    cases q with
    | l2 q q' =>
      have e:p.cd th = q.cd th ∧ p'.cd th = q'.cd th:=by simpa [Pl.cd] using e
      rw [ih (q:=q) hp.1 hq.1 e.1, ih' (q:=q') hp.2 hq.2 e.2]
    | _=>simp [Pl.cd] at e
  | range a b o=>intro q hp hq e; cases q <;> simp_all [Pl.cd]
theorem tag_ne {a b:String} (h:(ofString a == ofString b) = false) (xs ys:List PyData):PyData.eqv (.tuple (.str (ofString a) :: xs)) (.tuple (.str (ofString b) :: ys)) = false:=by
  simp only [PyData.eqv, PyData.eqvAll, h, Bool.false_and]
theorem tag_eq {a:String} (xs ys:List PyData):PyData.eqv (.tuple (.str (ofString a) :: xs)) (.tuple (.str (ofString a) :: ys)) = PyData.eqvAll xs ys:=by
  have:(ofString a == ofString a) = true:=beq_self_eq_true _
  simp only [PyData.eqv, PyData.eqvAll, this, Bool.true_and]
noncomputable def PV.tag:PV → String
  | .int _=>"int" | .bool _=>"bool" | .none=>"nil" | .sym _=>"sym"
noncomputable def Cd.tag:Cd → String
  | .plain v=>v.tag | .text _=>"text" | .thing _=>"thing" | .l0=>"list" | .l1 _=>"list" | .l2 _ _=>"list" | .range _ _ _=>"range"
noncomputable def PV.arg:PV → List PyData
  | .int i=>[.int i] | .bool b=>[.bool b] | .none=>[.none] | .sym s=>[.str s]
noncomputable def optP:Option Int → PyData
  | some i=>.tuple [.str (ofString "int"), .int i]
  | none=>.tuple [.str (ofString "nil"), .none]
noncomputable def Cd.arg:Cd → List PyData
  | .plain v=>v.arg | .text s=>[.str s] | .thing n=>[.int n] | .l0=>[.tuple []] | .l1 p=>[.tuple [kqdP p.dat]] | .l2 p q=>[.tuple [kqdP p.dat, kqdP q.dat]]
  | .range a b o=>[.tuple [.str (ofString "int"), .int a], optP b, .bool o]
theorem cd_P (c:Cd):kqdP c.dat = .tuple (.str (ofString c.tag) :: c.arg):=by
  cases c with
  | plain v=>cases v <;> simp [Cd.dat, PV.code, kqdP, kqdPs, Cd.tag, PV.tag, Cd.arg, PV.arg]
  | range a b o=>cases b <;> simp [Cd.dat, optCode, kqdP, kqdPs, Cd.tag, Cd.arg, optP]
  | _=>simp [Cd.dat, kqdP, kqdPs, Cd.tag, Cd.arg]
noncomputable def tagS:List String:=["int", "bool", "nil", "sym", "text", "thing", "list", "range"]
noncomputable def PV.ix:PV → Nat
  | .int _=>0 | .bool _=>1 | .none=>2 | .sym _=>3
noncomputable def Cd.ix:Cd → Nat
  | .plain v=>v.ix | .text _=>4 | .thing _=>5 | .l0=>6 | .l1 _=>6 | .l2 _ _=>6 | .range _ _ _=>7
theorem tag_ix:∀ c:Cd, tagS[c.ix]? = some c.tag
  | .plain (.int _) | .plain (.bool _) | .plain .none | .plain (.sym _) | .text _ | .thing _ | .l0 | .l1 _ | .l2 _ _ | .range _ _ _=>rfl
theorem tag_mem (c:Cd):c.tag ∈ tagS:=List.mem_of_getElem? (tag_ix c)
theorem tags_ne {x y:String} (hx:x ∈ tagS) (hy:y ∈ tagS) (h:x ≠ y):(ofString x == ofString y) = false:=by
  have key:∀ x ∈ tagS, ∀ y ∈ tagS, x ≠ y → (ofString x == ofString y) = false:=by decide +kernel
  exact key x hx y hy h
theorem ix_inj:∀ i < 8, ∀ j < 8, tagS[i]? = tagS[j]? → Nat.beq i j = true:=by decide +kernel
theorem ix_lt {c:Cd}:c.ix < 8:=(List.getElem?_eq_some_iff.mp (tag_ix c)).1
theorem ne_ix {c d:Cd} (h:Nat.beq c.ix d.ix = false):PyData.eqv (kqdP c.dat) (kqdP d.dat) = true ↔ c = d:=by
  have e:c.tag ≠ d.tag:=fun e=>by
    have:=ix_inj _ ix_lt _ ix_lt ((tag_ix c).trans ((congrArg some e).trans (tag_ix d).symm))
    rw [h] at this
    cases this
  rw [cd_P, cd_P, tag_ne (tags_ne (tag_mem c) (tag_mem d) e)]
  exact ⟨fun h=>(nomatch h), fun k=>absurd (congrArg Cd.tag k) e⟩
theorem eq_ix {c d:Cd} (h:c.tag = d.tag) (k:PyData.eqvAll c.arg d.arg = true ↔ c = d):PyData.eqv (kqdP c.dat) (kqdP d.dat) = true ↔ c = d:=by
  rw [cd_P, cd_P, h, tag_eq]; exact k
theorem cons_iff {x y:PyData} {xs ys:List PyData}:PyData.eqvAll (x :: xs) (y :: ys) = true ↔ PyData.eqv x y = true ∧ PyData.eqvAll xs ys = true:=by simp [PyData.eqvAll]
theorem one_iff {x y:PyData}:PyData.eqvAll [x] [y] = true ↔ PyData.eqv x y = true:=by simp [PyData.eqvAll]
theorem two_iff {x y u v:PyData}:PyData.eqvAll [x, u] [y, v] = true ↔ PyData.eqv x y = true ∧ PyData.eqv u v = true:=cons_iff.trans (and_congr Iff.rfl one_iff)
theorem tup_iff {xs ys:List PyData}:PyData.eqvAll [.tuple xs] [.tuple ys] = true ↔ PyData.eqvAll xs ys = true:=one_iff.trans (by simp [PyData.eqv])
theorem int_iff {i j:Int}:PyData.eqv (.int i) (.int j) = true ↔ i = j:=by simp [PyData.eqv]
theorem str_iff {i j:Str}:PyData.eqv (.str i) (.str j) = true ↔ i = j:=by simp [PyData.eqv]
theorem bool_iff1 {i j:Bool}:PyData.eqv (.bool i) (.bool j) = true ↔ i = j:=by simp [PyData.eqv]
theorem opt_iff {a b:Option Int}:PyData.eqv (optP a) (optP b) = true ↔ a = b:=by
  have t1:(ofString "int" == ofString "nil") = false:=by decide +kernel
  have t2:(ofString "nil" == ofString "int") = false:=by decide +kernel
  cases a <;> cases b <;> simp [optP, PyData.eqvAll, PyData.eqv, t1, t2]
theorem cd_eqv:∀ c d:Cd, PyData.eqv (kqdP c.dat) (kqdP d.dat) = true ↔ c = d:=by
  intro c
  induction c with
  | plain v =>
    intro d
    cases d with
    | plain u =>
      cases v <;> cases u
      all_goals first
        | exact ne_ix rfl
        | exact eq_ix rfl (one_iff.trans (int_iff.trans ⟨fun h=>h ▸ rfl, fun h=>by cases h; rfl⟩))
        | exact eq_ix rfl (one_iff.trans (bool_iff1.trans ⟨fun h=>h ▸ rfl, fun h=>by cases h; rfl⟩))
        | exact eq_ix rfl (one_iff.trans (str_iff.trans ⟨fun h=>h ▸ rfl, fun h=>by cases h; rfl⟩))
        | exact eq_ix rfl (one_iff.trans ⟨fun _=>rfl, fun _=>by simp [PyData.eqv]⟩)
    | _=>cases v <;> exact ne_ix rfl
  | text s =>
    intro d
    cases d with
    | text t=>exact eq_ix rfl (one_iff.trans (str_iff.trans ⟨fun h=>h ▸ rfl, fun h=>by cases h; rfl⟩))
    | plain v=>cases v <;> exact ne_ix rfl
    | _=>exact ne_ix rfl
  | thing s =>
    intro d
    cases d with
    | thing t=>exact eq_ix rfl (one_iff.trans (int_iff.trans ⟨fun h=>h ▸ rfl, fun h=>by cases h; rfl⟩))
    | plain v=>cases v <;> exact ne_ix rfl
    | _=>exact ne_ix rfl
  | l0 =>
    intro d
    cases d with
    | plain v=>cases v <;> exact ne_ix rfl
    | l0=>exact eq_ix rfl (tup_iff.trans ⟨fun _=>rfl, fun _=>by simp [PyData.eqvAll]⟩)
    | l1 _=>exact eq_ix rfl (tup_iff.trans ⟨fun h=>by simp [PyData.eqvAll] at h, fun h=>(nomatch h)⟩)
    | l2 _ _=>exact eq_ix rfl (tup_iff.trans ⟨fun h=>by simp [PyData.eqvAll] at h, fun h=>(nomatch h)⟩)
    | _=>exact ne_ix rfl
  | l1 p ih =>
    intro d
    cases d with
    | plain v=>cases v <;> exact ne_ix rfl
    | l0=>exact eq_ix rfl (tup_iff.trans ⟨fun h=>by simp [PyData.eqvAll] at h, fun h=>(nomatch h)⟩)
    | l1 q=>exact eq_ix rfl (tup_iff.trans (one_iff.trans ((ih q).trans ⟨fun h=>h ▸ rfl, fun h=>by cases h; rfl⟩)))
    | l2 _ _=>exact eq_ix rfl (tup_iff.trans ⟨fun h=>by simp [PyData.eqvAll] at h, fun h=>(nomatch h)⟩)
    | _=>exact ne_ix rfl
  | l2 p p' ih ih' =>
    intro d
    cases d with
    | plain v=>cases v <;> exact ne_ix rfl
    | l0=>exact eq_ix rfl (tup_iff.trans ⟨fun h=>by simp [PyData.eqvAll] at h, fun h=>(nomatch h)⟩)
    | l1 _=>exact eq_ix rfl (tup_iff.trans ⟨fun h=>by simp [PyData.eqvAll] at h, fun h=>(nomatch h)⟩)
    | l2 q q'=>exact eq_ix rfl (tup_iff.trans (two_iff.trans ((and_congr (ih q) (ih' q')).trans ⟨fun h=>h.1 ▸ h.2 ▸ rfl, fun h=>by cases h; exact ⟨rfl, rfl⟩⟩)))
    | _=>exact ne_ix rfl
  | range a b o =>
    intro d
    cases d with
    | plain v=>cases v <;> exact ne_ix rfl
    | range a' b' o'=>exact eq_ix rfl (cons_iff.trans ((and_congr (one_iff.symm.trans (tup_iff.trans (two_iff.trans ((and_congr str_iff int_iff).trans ⟨fun h=>h.2, fun h=>⟨rfl, h⟩⟩)))) (two_iff.trans (and_congr opt_iff bool_iff1))).trans ⟨fun h=>h.1 ▸ h.2.1 ▸ h.2.2 ▸ rfl, fun h=>by cases h; exact ⟨rfl, rfl, rfl⟩⟩))
    | _=>exact ne_ix rfl
noncomputable def Cd.dep:Cd → Nat
  | .l0=>1 | .l1 p=>p.dep + 1 | .l2 p q=>max p.dep q.dep + 1 | .range _ _ _=>1 | _=>0
noncomputable def PV.Fits:PV → Prop
  | .sym s=>PyData.strOk s = true
  | _=>True
noncomputable def Cd.Fits:Cd → Prop
  | .plain v=>v.Fits
  | .text s=>PyData.strOk s = true
  | .l1 p=>p.Fits
  | .l2 p q=>p.Fits ∧ q.Fits
  | _=>True
theorem tagOk:∀ x ∈ tagS, PyData.strOk (ofString x) = true:=by decide +kernel
theorem lay_of {c:Cd} {m:Nat} (h1:PyData.canLayAll0 c.arg = true) (h2:PyData.depthAll c.arg ≤ m):(kqdP c.dat).canLay0 = true ∧ (kqdP c.dat).depth ≤ m + 1:=by
  rw [cd_P]
  refine ⟨?_, ?_⟩
  · simp only [PyData.canLay0, PyData.canLayAll0, tagOk _ (tag_mem c), h1, Bool.and_true]
  · simp only [PyData.depth, PyData.depthAll]
    exact Nat.succ_le_succ (mle (Nat.zero_le _) h2)
theorem lay1 {x:PyData} {m:Nat} (h:x.canLay0 = true ∧ x.depth ≤ m):PyData.canLayAll0 [x] = true ∧ PyData.depthAll [x] ≤ m:=by
  simp only [PyData.canLayAll0, PyData.depthAll, h.1, Bool.and_true, true_and]
  exact mle h.2 (Nat.zero_le _)
theorem lay_t {xs:List PyData} {m:Nat} (h:PyData.canLayAll0 xs = true ∧ PyData.depthAll xs ≤ m):(PyData.tuple xs).canLay0 = true ∧ (PyData.tuple xs).depth ≤ m + 1:=by
  simp only [PyData.canLay0, PyData.depth, h.1, true_and]
  exact Nat.succ_le_succ h.2
theorem lay_c {x:PyData} {xs:List PyData} {m:Nat} (h:x.canLay0 = true ∧ x.depth ≤ m) (k:PyData.canLayAll0 xs = true ∧ PyData.depthAll xs ≤ m):PyData.canLayAll0 (x :: xs) = true ∧ PyData.depthAll (x :: xs) ≤ m:=by
  simp only [PyData.canLayAll0, PyData.depthAll, h.1, k.1, Bool.and_true, true_and]
  exact mle h.2 k.2
theorem lay_i {i:Int} {m:Nat}:(PyData.int i).canLay0 = true ∧ (PyData.int i).depth ≤ m:=by simp [PyData.canLay0, PyData.depth]
theorem lay_b {i:Bool} {m:Nat}:(PyData.bool i).canLay0 = true ∧ (PyData.bool i).depth ≤ m:=by simp [PyData.canLay0, PyData.depth]
theorem lay_n {m:Nat}:PyData.none.canLay0 = true ∧ PyData.none.depth ≤ m:=by simp [PyData.canLay0, PyData.depth]
theorem lay_s {i:Str} {m:Nat} (h:PyData.strOk i = true):(PyData.str i).canLay0 = true ∧ (PyData.str i).depth ≤ m:=by simp [PyData.canLay0, PyData.depth, h]
theorem lay_0 {m:Nat}:PyData.canLayAll0 [] = true ∧ PyData.depthAll [] ≤ m:=by simp [PyData.canLayAll0, PyData.depthAll]
theorem lay_to {c:Cd} {m:Nat} (h:PyData.canLayAll0 c.arg = true ∧ PyData.depthAll c.arg ≤ m):(kqdP c.dat).canLay0 = true ∧ (kqdP c.dat).depth ≤ m + 1:=lay_of h.1 h.2
theorem cd_lay:∀ c:Cd, c.Fits → (kqdP c.dat).canLay0 = true ∧ (kqdP c.dat).depth ≤ 2 * c.dep + 1
  | .plain (.int _), _=>lay_to (lay1 lay_i)
  | .plain (.bool _), _=>lay_to (lay1 lay_b)
  | .plain .none, _=>lay_to (lay1 lay_n)
  | .plain (.sym _), h=>lay_to (lay1 (lay_s h))
  | .text _, h=>lay_to (lay1 (lay_s h))
  | .thing _, _=>lay_to (lay1 lay_i)
  | .l0, _=>lay_to (lay1 (lay_t (m:=1) lay_0))
  | .l1 p, h=>lay_to (lay1 (lay_t (m:=2 * p.dep + 1) (lay1 (cd_lay p h))))
  | .l2 p q, h=>lay_to (lay1 (lay_t (m:=2 * max p.dep q.dep + 1) (lay_c ⟨(cd_lay p h.1).1, upm (cd_lay p h.1).2 (Nat.le_max_left _ _)⟩ (lay1 ⟨(cd_lay q h.2).1, upm (cd_lay q h.2).2 (Nat.le_max_right _ _)⟩))))
  | .range _ (some _) _, _=>lay_to (lay_c (lay_t (m:=1) (lay_c (lay_s (tagOk "int" (by decide))) (lay1 lay_i))) (lay_c (lay_t (m:=1) (lay_c (lay_s (tagOk "int" (by decide))) (lay1 lay_i))) (lay1 lay_b)))
  | .range _ none _, _=>lay_to (lay_c (lay_t (m:=1) (lay_c (lay_s (tagOk "int" (by decide))) (lay1 lay_i))) (lay_c (lay_t (m:=1) (lay_c (lay_s (tagOk "nil" (by decide))) (lay1 lay_n))) (lay1 lay_b)))
mutual
noncomputable def tupOk:Dat → Bool
  | .none=>true
  | .bool _=>true
  | .int _=>true
  | .str _=>true
  | .tuple ds=>tupOks ds
  | _=>false
noncomputable def tupOks:List Dat → Bool
  | []=>true
  | d :: ds=>tupOk d && tupOks ds
end
theorem cd_tup:∀ c:Cd, tupOk c.dat = true
  | .plain v=>by cases v <;> rfl
  | .text _=>rfl
  | .thing _=>rfl
  | .l0=>rfl
  | .l1 p=>by simp [Cd.dat, tupOk, tupOks, cd_tup p]
  | .l2 p q=>by simp [Cd.dat, tupOk, tupOks, cd_tup p, cd_tup q]
  | .range a b o=>by cases b <;> rfl
noncomputable def Rp (p:Pl):List Nat:=(kqdP p.dat).shown.cps.toList
noncomputable def leaves:List Pl:=[.plain (.int 0), .plain (.int 1), .plain (.int 2), .plain (.bool true), .plain (.bool false), .plain .none, .plain (.sym (ofString "a")), .plain (.sym (ofString "b")),
  .text (ofString "a"), .text (ofString "b"), .text (ofString "1"), .thing 0, .thing 1, .thing 2, .l0,
  .range 0 none true, .range 0 none false, .range 0 (some 1) true, .range 0 (some 1) false, .range 0 (some 2) true, .range 0 (some 2) false,
  .range 1 none true, .range 1 none false, .range 1 (some 1) true, .range 1 (some 1) false, .range 1 (some 2) true, .range 1 (some 2) false]
noncomputable def A1:List Nat:=(ofString "['list', [").cps.toList
noncomputable def Zz:List Nat:=[93, 93]
noncomputable def leafTexts:List (List Nat):=leaves.map Rp
theorem leaf_len:leaves.length = 27:=rfl
theorem leaf_free:∀ i < 27, ∀ j < 27, (leafTexts[i]?.getD []).isPrefixOf (leafTexts[j]?.getD []) = true → i = j:=by decide +kernel
theorem leaf_head:∀ i < 27, 11 ≤ (leafTexts[i]?.getD []).length ∧ (leafTexts[i]?.getD []).length ≤ 100 ∧ (leafTexts[i]?.getD []).take 11 ≠ A1 ++ [91]:=by decide +kernel
noncomputable def Pl.leaf:Pl → Bool
  | .l1 _=>false | .l2 _ _=>false | _=>true
theorem leaf_mem {p:Pl} (h:p.leaf = true) (hp:p.Ok):p ∈ leaves:=by
  cases p with
  | plain v =>
    cases v with
    | int i=>rcases hp with rfl | rfl | rfl <;> (repeat (first | exact .head _ | refine .tail _ ?_))
    | bool b=>cases b <;> (repeat (first | exact .head _ | refine .tail _ ?_))
    | none=>(repeat (first | exact .head _ | refine .tail _ ?_))
    | sym s=>rcases hp with rfl | rfl <;> (repeat (first | exact .head _ | refine .tail _ ?_))
  | text s=>rcases hp with rfl | rfl | rfl <;> (repeat (first | exact .head _ | refine .tail _ ?_))
  | thing i =>
    obtain ⟨h0, h3⟩:=hp
    have:i = 0 ∨ i = 1 ∨ i = 2:=by lia
    rcases this with rfl | rfl | rfl <;> (repeat (first | exact .head _ | refine .tail _ ?_))
  | l0=>(repeat (first | exact .head _ | refine .tail _ ?_))
  | l1 p=>cases h
  | l2 p q=>cases h
  | range a b o =>
    obtain ⟨ha, hb⟩:=hp
    rcases ha with rfl | rfl <;> rcases hb with rfl | rfl | rfl <;> cases o <;> (repeat (first | exact .head _ | refine .tail _ ?_))
theorem leaf_at {p:Pl} (h:p.leaf = true) (hp:p.Ok):∃ i, i < 27 ∧ leaves[i]? = some p ∧ leafTexts[i]?.getD [] = Rp p:=by
  obtain ⟨i, hi⟩:=List.mem_iff_getElem?.mp (leaf_mem h hp)
  refine ⟨i, ?_, hi, ?_⟩
  · have:=(List.getElem?_eq_some_iff.mp hi).1
    rwa [leaf_len] at this
  · unfold leafTexts; rw [List.getElem?_map, hi]; rfl
theorem join1 (x:Str):Str.join ", " [x] = x:=by simp [Str.join]
theorem join2 (x y:Str):Str.join ", " [x, y] = x ++ ", " ++ y:=by simp [Str.join]
theorem cp_app (a b:Str):(a ++ b).cps.toList = a.cps.toList ++ b.cps.toList:=by show (a.cps ++ b.cps).toList = _; simp
theorem qlist:(reprText (ofString "list")).cps.toList = (ofString "'list'").cps.toList:=by decide +kernel
theorem Rp_l1 (p:Pl):Rp (.l1 p) = A1 ++ (Rp p ++ Zz):=by
  have h1:=qlist
  unfold Rp A1 Zz
  simp only [Pl.dat, kqdP, kqdPs, PyData.shown_list, PyData.shownAll_cons, PyData.shownAll_nil, PyData.shown_str, join1, join2, cp_app, h1]
  simp only [List.append_assoc]
  have e:(ofString "[").cps.toList ++ ((ofString "'list'").cps.toList ++ ((ofString ", ").cps.toList ++ (ofString "[").cps.toList)) = (ofString "['list', [").cps.toList:=by decide +kernel
  rw [← e]
  simp only [List.append_assoc]
  rfl
theorem Rp_l2 (p q:Pl):Rp (.l2 p q) = A1 ++ (Rp p ++ ([44, 32] ++ (Rp q ++ Zz))):=by
  have h1:=qlist
  unfold Rp A1 Zz
  simp only [Pl.dat, kqdP, kqdPs, PyData.shown_list, PyData.shownAll_cons, PyData.shownAll_nil, PyData.shown_str, join1, join2, cp_app, h1]
  simp only [List.append_assoc]
  have e:(ofString "[").cps.toList ++ ((ofString "'list'").cps.toList ++ ((ofString ", ").cps.toList ++ (ofString "[").cps.toList)) = (ofString "['list', [").cps.toList:=by decide +kernel
  rw [← e]
  simp only [List.append_assoc]
  rfl
theorem Rp_open (p:Pl):∃ r, Rp p = 91 :: r:=by
  have key:∀ ds:List PyData, ∃ r, (PyData.list ds).shown.cps.toList = 91 :: r:=fun ds=>by
    rw [PyData.shown_list, cp_app, cp_app]
    exact ⟨_, rfl⟩
  cases p <;> exact key _
theorem head_len {i:Nat} (h:i < 27) {x:List Nat} (hx:leafTexts[i]?.getD [] = x) (r y z:List Nat):x ++ y ≠ A1 ++ (91 :: r ++ z):=fun e=>by
  have k:=leaf_head i h
  rw [hx] at k
  refine k.2.2 ?_
  have e1:(x ++ y).take 11 = x.take 11:=List.take_append_of_le_length k.1
  rw [← e1, e, show A1 ++ (91 :: r ++ z) = (A1 ++ [91]) ++ (r ++ z) from by simp, List.take_append_of_le_length (by decide)]
  rfl
theorem Rp_free:∀ {p q:Pl}, p.Ok → q.Ok → ∀ {x y:List Nat}, Rp p ++ x = Rp q ++ y → p = q ∧ x = y:=by
  have leafs:∀ {p q:Pl}, p.leaf = true → q.leaf = true → p.Ok → q.Ok → ∀ {x y:List Nat}, Rp p ++ x = Rp q ++ y → p = q ∧ x = y:=by
    intro p q hp hq op oq x y e
    refine byP fun _ q9=>?_
    obtain ⟨i, hi, pi, ti⟩:=leaf_at hp op
    obtain ⟨j, hj, pj, tj⟩:=leaf_at hq oq
    refine q9 ?_
    have hpq:p = q:=by
      have pre:(Rp p).isPrefixOf (Rp q) = true ∨ (Rp q).isPrefixOf (Rp p) = true:=by
        simp only [List.isPrefixOf_iff_prefix]
        exact List.prefix_or_prefix_of_prefix (l₃:=Rp p ++ x) (List.prefix_append _ _) (e ▸ List.prefix_append _ _)
      rw [← ti, ← tj] at pre
      have:i = j:=by
        rcases pre with h | h
        · exact leaf_free i hi j hj h
        · exact (leaf_free j hj i hi h).symm
      subst this
      rw [pi] at pj
      exact Option.some.inj pj
    subst hpq
    exact ⟨rfl, List.append_cancel_left e⟩
  have mixed:∀ {p:Pl}, p.leaf = true → p.Ok → ∀ (q:Pl) (x z:List Nat), Rp p ++ x ≠ A1 ++ (Rp q ++ z):=by
    intro p hp op q x z e
    refine byP fun _ q9=>?_
    obtain ⟨i, hi, _, ti⟩:=leaf_at hp op
    obtain ⟨r, hr⟩:=Rp_open q
    refine q9 ?_
    rw [hr] at e
    exact head_len hi ti r x z e
  intro p
  induction p with
  | l1 p ih =>
    intro q op oq x y e
    cases q with
    | l1 q =>
      rw [Rp_l1, Rp_l1] at e
      simp only [List.append_assoc] at e
      obtain ⟨h1, h2⟩:=ih (q:=q) op oq (List.append_cancel_left e)
      rw [h1]
      exact ⟨rfl, List.append_cancel_left h2⟩
    | l2 q q' =>
      rw [Rp_l1, Rp_l2] at e
      simp only [List.append_assoc] at e
      obtain ⟨h1, h2⟩:=ih (q:=q) op oq.1 (List.append_cancel_left e)
      simp [Zz] at h2
    | _ =>
      rw [Rp_l1] at e
      simp only [List.append_assoc] at e
      exact absurd e.symm (mixed rfl oq _ _ _)
  | l2 p p' ih ih' =>
    intro q op oq x y e
    cases q with
    | l1 q =>
      rw [Rp_l1, Rp_l2] at e
      simp only [List.append_assoc] at e
      obtain ⟨h1, h2⟩:=ih (q:=q) op.1 oq (List.append_cancel_left e)
      simp [Zz] at h2
    | l2 q q' =>
      rw [Rp_l2, Rp_l2] at e
      simp only [List.append_assoc] at e
      obtain ⟨h1, h2⟩:=ih (q:=q) op.1 oq.1 (List.append_cancel_left e)
      obtain ⟨h3, h4⟩:=ih' (q:=q') op.2 oq.2 (List.append_cancel_left h2)
      rw [h1, h3]
      exact ⟨rfl, List.append_cancel_left h4⟩
    | _ =>
      rw [Rp_l2] at e
      simp only [List.append_assoc] at e
      exact absurd e.symm (mixed rfl oq _ _ _)
  | _ =>
    intro q op oq x y e
    cases q with
    | l1 q=>rw [Rp_l1] at e; simp only [List.append_assoc] at e; exact absurd e (mixed rfl op _ _ _)
    | l2 q q'=>rw [Rp_l2] at e; simp only [List.append_assoc] at e; exact absurd e (mixed rfl op _ _ _)
    | _=>exact leafs rfl rfl op oq e
theorem Rp_inj {p q:Pl} (hp:p.Ok) (hq:q.Ok):(kqdP p.dat).shown = (kqdP q.dat).shown ↔ p = q :=
  ⟨fun e=>(Rp_free hp hq (x:=[]) (y:=[]) (by unfold Rp; rw [e])).1, fun e=>by rw [e]⟩
theorem Rp_len:∀ {p:Pl}, p.Ok → (Rp p).length ≤ 100 * 3 ^ p.dep:=by
  intro p
  induction p with
  | l1 p ih =>
    intro op
    have:=ih op
    rw [Rp_l1]
    simp only [List.length_append, Pl.dep, Nat.pow_succ]
    have h1:A1.length = 10:=by decide +kernel
    have h2:Zz.length = 2:=rfl
    have h3:1 ≤ 3 ^ p.dep:=Nat.one_le_pow _ _ (by decide)
    lia
  | l2 p q ih ih' =>
    intro op
    have a:=ih op.1
    have b:=ih' op.2
    rw [Rp_l2]
    simp only [List.length_append, Pl.dep, Nat.pow_succ]
    have h1:A1.length = 10:=by decide +kernel
    have h2:Zz.length = 2:=rfl
    have h4:([44, 32]:List Nat).length = 2:=rfl
    have h3:1 ≤ 3 ^ (max p.dep q.dep):=Nat.one_le_pow _ _ (by decide)
    have h5:3 ^ p.dep ≤ 3 ^ (max p.dep q.dep):=Nat.pow_le_pow_right (by decide) (Nat.le_max_left _ _)
    have h6:3 ^ q.dep ≤ 3 ^ (max p.dep q.dep):=Nat.pow_le_pow_right (by decide) (Nat.le_max_right _ _)
    lia
  | _ =>
    intro op
    refine byP fun _ q9=>?_
    obtain ⟨i, hi, _, ti⟩:=leaf_at rfl op
    refine q9 ?_
    have k:=(leaf_head i hi).2.1
    rw [ti] at k
    exact Nat.le_trans k (Nat.le_mul_of_pos_right _ (Nat.pow_pos (by decide)))
theorem code_l1g {w mx} {c₁:Cd} {dn:Nat} {v:Value} {l:Led} {a b:Addr} {es:List DictEntry} {n:Nat} {deep:Int} {tk:Tok} (IH:∀ {l':Led} {t:Tok}, (∀ p ∈ l, p ∈ l') → Does w mx 250 dn [v, .int (deep - 1) t] l' (fun r n' tl=>n' = l' ∧ DatIn tl r c₁.dat)) (hI:Ins l a 82 es) (hx:has "items" es (.ref b)) (hb:(b, listOf [v].toArray n) ∈ l) (hpos:0 < deep) {args:List Value} (hargs:Bnd args (.ref a) deep tk):Does w mx 250 (dn + 3) args l (fun r n' tl=>n' = l ∧ DatIn tl r (Cd.l1 c₁).dat):=by
  refine code_list (vs:=[v]) (ds:=[c₁.dat]) hI hx hb rfl (by rw [sizeLine_eq]; exact Nat.le_of_ble_eq_true rfl) hpos ?_ hargs
  rintro (_ | i) u d hv hd l' t s
  · cases hv
    cases hd
    exact IH s
  · cases hv
theorem code_deep0 {w mx} {l:Led} {a:Addr} {es:List DictEntry} {i:Int} {t tk:Tok} (hI:Ins l a 82 es) (hx:has "number" es (.int i t)):Does w mx 250 6 [.ref a, .int 0 tk] l (fun r n' tl=>n' = l ∧ DatIn tl r (Cd.thing i).dat):=code_low hI hx (by decide) (.inl rfl)
mutual
inductive HIn (h:Heap):Value → Dat → Prop
  | none:HIn h Value.none Dat.none
  | bool (b:Bool):HIn h (Value.bool b) (Dat.bool b)
  | int (i:Int) (t:Tok):HIn h (Value.int i t) (Dat.int i)
  | str (x:Str) (t:Tok):HIn h (Value.str x t) (Dat.str x)
  | tuple {a:Addr} {vs:List Value} {n:Nat} {ds:List Dat}:h.get? a = some ({ cls:=.type "tuple", data:=.seq vs.toArray n }:Obj) → HAll h vs ds → HIn h (Value.ref a) (Dat.tuple ds)
inductive HAll (h:Heap):List Value → List Dat → Prop
  | nil:HAll h [] []
  | cons {v:Value} {vs:List Value} {d:Dat} {ds:List Dat}:HIn h v d → HAll h vs ds → HAll h (v :: vs) (d :: ds)
end
mutual
theorem HIn.of {h₀ h:Heap} {L:Addr} {news:Led} (N:News h₀ L h news):∀ {v:Value} {d:Dat}, DatIn news v d → tupOk d = true → HIn h v d
  | _, _, .none, _=>.none
  | _, _, .bool b, _=>.bool b
  | _, _, .int i t, _=>.int i t
  | _, _, .str x t, _=>.str x t
  | _, _, .bytes _ _, hk=>absurd hk (by simp [tupOk])
  | _, _, .list _ _, hk=>absurd hk (by simp [tupOk])
  | _, _, .tuple hm r, hk=>.tuple (N.get hm) (HAll.of N r (by simpa [tupOk] using hk))
theorem HAll.of {h₀ h:Heap} {L:Addr} {news:Led} (N:News h₀ L h news):∀ {vs:List Value} {ds:List Dat}, DatAll news vs ds → tupOks ds = true → HAll h vs ds
  | _, _, .nil, _=>.nil
  | _, _, .cons hd r, hk=>by
    simp only [tupOks, Bool.and_eq_true] at hk
    exact .cons (HIn.of N hd hk.1) (HAll.of N r hk.2)
end
mutual
theorem HIn.reads {h:Heap}:∀ {v:Value} {d:Dat}, HIn h v d → ∃ as, Reads h v (kqdP d) as
  | _, _, .none=>⟨_, Reads.none⟩
  | _, _, .bool b=>⟨_, Reads.bool b⟩
  | _, _, .int i t=>⟨_, Reads.int i t⟩
  | _, _, .str x t=>⟨_, Reads.str x t⟩
  | _, _, .tuple hm r=>by
    obtain ⟨as, q⟩:=HAll.reads r
    rw [kqdP]
    exact ⟨as, reads_tuple_at hm rfl rfl q⟩
theorem HAll.reads {h:Heap}:∀ {vs:List Value} {ds:List Dat}, HAll h vs ds → ∃ as, ReadsAll h vs (kqdPs ds) as
  | _, _, .nil=>⟨_, ReadsAll.nil⟩
  | _, _, .cons hd r=>by
    obtain ⟨as, q⟩:=HIn.reads hd
    obtain ⟨bs, p⟩:=HAll.reads r
    rw [kqdPs]
    exact ⟨_, ReadsAll.cons q p⟩
end
theorem tup_reads {h₀ h:Heap} {L:Addr} {news:Led} (N:News h₀ L h news) {v:Value} {d:Dat} (x:DatIn news v d) (k:tupOk d = true):∃ as, Reads h v (kqdP d) as:=HIn.reads (HIn.of N x k)
theorem tup_readsAll {h₀ h:Heap} {L:Addr} {news:Led} (N:News h₀ L h news) {vs:List Value} {ds:List Dat} (x:DatAll news vs ds) (k:tupOks ds = true):∃ as, ReadsAll h vs (kqdPs ds) as:=HAll.reads (HAll.of N x k)
theorem code_eq {w:World} {A:Around} {E:Value → Shared → Prop} {s:Shared} {h₀:Heap} {L:Addr} {news:Led} {u v:Value} {c d:Cd} {Q:Value → Shared → Prop} (N:News h₀ L s.heap news)
    (hc:DatIn news u c.dat) (hd:DatIn news v d.dat) (fc:c.Fits) (fd:d.Fits) (dc:c.dep ≤ 20) (dd:d.dep ≤ 20) (hu:A.units + 64 < cLine) (b:Bool) (hb:b = true ↔ c = d) (h:Q (.bool b) s):wpAny (model PR w) A (compareOp .Eq u v) Q E s:=by
  obtain ⟨as, ra⟩:=tup_reads N hc (cd_tup c)
  obtain ⟨bs, rb⟩:=tup_reads N hd (cd_tup d)
  have lc:=cd_lay c fc
  have ld:=cd_lay d fd
  have e:PyData.eqv (kqdP c.dat) (kqdP d.dat) = b:=by
    have q:=cd_eqv c d
    cases b
    · exact Bool.eq_false_iff.mpr fun x=>by simpa using hb.mpr (q.mp x)
    · exact q.mpr (hb.mp rfl)
  refine SeqAt.compareEq_shaped ra rb ?_ ?_ hu (by rw [e]; exact h)
  · unfold SeqAt.shaped; rw [lc.1, Bool.true_and]; exact decide_eq_true (by lia)
  · unfold SeqAt.shaped; rw [ld.1, Bool.true_and]; exact decide_eq_true (by lia)
mutual
theorem HIn.keeps {h h':Heap} {d:Addr} {o:Obj} {es:Array DictEntry} {ep:Nat} (ho:h.get? d = some o) (hd:o.data = .dict es ep) (hs:Heap.SameBut d h h'):∀ {v:Value} {e:Dat}, HIn h v e → HIn h' v e
  | _, _, .none=>.none
  | _, _, .bool b=>.bool b
  | _, _, .int i t=>.int i t
  | _, _, .str x t=>.str x t
  | _, _, .tuple (a:=a) hm r=>.tuple ((hs.2 a (fun e=>by
      rw [e, ho] at hm
      rw [Option.some.inj hm] at hd
      cases hd)).trans hm) (HAll.keeps ho hd hs r)
theorem HAll.keeps {h h':Heap} {d:Addr} {o:Obj} {es:Array DictEntry} {ep:Nat} (ho:h.get? d = some o) (hd:o.data = .dict es ep) (hs:Heap.SameBut d h h'):∀ {vs:List Value} {e:List Dat}, HAll h vs e → HAll h' vs e
  | _, _, .nil=>.nil
  | _, _, .cons x r=>.cons (HIn.keeps ho hd hs x) (HAll.keeps ho hd hs r)
end
mutual
theorem HIn.inj {h:Heap}:∀ {v:Value} {d e:Dat}, HIn h v d → HIn h v e → d = e
  | _, _, _, .none, x=>by cases x; rfl
  | _, _, _, .bool b, x=>by cases x; rfl
  | _, _, _, .int i t, x=>by cases x; rfl
  | _, _, _, .str y t, x=>by cases x; rfl
  | _, _, _, .tuple hm r, x=>by
    cases x with
    | tuple hm2 r2 =>
      rw [hm] at hm2
      have e:=congrArg Obj.data (Option.some.inj hm2)
      injection e with e1 e2
      have e3:=congrArg Array.toList e1
      simp only at e3
      subst e3
      rw [HAll.inj r r2]
theorem HAll.inj {h:Heap}:∀ {vs:List Value} {d e:List Dat}, HAll h vs d → HAll h vs e → d = e
  | _, _, _, .nil, x=>by cases x; rfl
  | _, _, _, .cons x r, y=>by
    cases y with
    | cons x2 r2=>rw [HIn.inj x x2, HAll.inj r r2]
end
theorem dat_inj {c d:Cd} (h:c.dat = d.dat):c = d:=(cd_eqv c d).mp (by rw [← h]; exact (cd_eqv c c).mpr rfl)
mutual
noncomputable def hD (w:World):Dat → Int
  | .none=>hashW w.params WData.none
  | .bool b=>hashW w.params (WData.bool b)
  | .int i=>hashInt i
  | .str x=>hashStr w x
  | .tuple ds=>reduceHash (Builtin.Tuple.tupleHashOf (hDs w ds))
  | _=>0
noncomputable def hDs (w:World):List Dat → List Int
  | []=>[]
  | d :: ds=>hD w d :: hDs w ds
end
mutual
noncomputable def hT:Dat → Nat
  | .none=>1
  | .bool _=>1
  | .int _=>1
  | .str _=>1
  | .tuple ds=>hTs ds + 1
  | _=>0
noncomputable def hTs:List Dat → Nat
  | []=>0
  | d :: ds=>hT d + hTs ds
end
mutual
noncomputable def dD:Dat → Nat
  | .tuple ds=>dDs ds + 1
  | _=>0
noncomputable def dDs:List Dat → Nat
  | []=>0
  | d :: ds=>max (dD d) (dDs ds)
end
set_option maxRecDepth 100000 in
mutual
theorem hash_in {prog:Program} {w:World} {E:Value → Shared → Prop}:∀ (d:Dat) (v:Value) (A:Around) (s:Shared) (Q:Int → Shared → Prop), HIn s.heap v d → A.units + dD d + 1 < cLine → Q (hD w d) { s with toks:=s.toks + hT d } → wpAny (model prog w) A (pyHash v) Q E s
  | .none, _, A, s, Q, x, hu, h=>by
    cases x
    exact pyHash_slot (T:="NoneType") rfl F.slot_NoneType_hash F.entry_NoneType_hash (F.args_NoneType_hash_1 _) (beq_builtin_none _) (.inr (by lia)) (wpAny_bind (wpAny_pure (wpAny_bind (wpAny_mkInt (wpAny_pure ⟨_, _, rfl, h⟩)))))
  | .bool b, _, A, s, Q, x, hu, h=>by
    cases x
    refine pyHash_slot (T:="bool") rfl F.slot_bool_hash entry_int_hash (args_int_hash _) (beq_builtin_none _) (.inr (by lia)) ?_
    cases b
    · exact (show wpAny _ _ (do ret (← mkInt 0)) _ _ s from wpAny_bind (wpAny_mkInt (wpAny_pure ⟨_, _, rfl, h⟩)))
    · exact (show wpAny _ _ (do ret (← mkInt 1)) _ _ s from wpAny_bind (wpAny_mkInt (wpAny_pure ⟨_, _, rfl, h⟩)))
  | .int i, _, A, s, Q, x, _, h=>by cases x; exact wpAny_pyHash_int h
  | .str y, _, A, s, Q, x, _, h=>by cases x; exact wpAny_pyHash_str h
  | .tuple ds, _, A, s, Q, x, hu, h=>by
    cases x with
    | @tuple a vs n _ hg hr =>
      refine pyHash_slot (T:="tuple") ⟨_, hg, rfl⟩ F.slot_tuple_hash F.entry_tuple_hash (F.args_tuple_hash_1 _) (beq_builtin_none _) (.inr (by lia)) ?_
      show wpAny _ _ (Builtin.Tuple.tupleItemsOf (.ref a) >>= _) _ _ s
      refine wpAny_bind (wpAny_tupleItemsOf hg rfl ?_)
      refine wpAny_bind ?_
      rw [← Array.forIn_toList]
      refine hash_loop ds vs A.in1 s #[] _ hr (by simp only [dD, Around.in1_units] at hu ⊢; lia) fun b hb=>?_
      show wpAny _ _ (retInt (Builtin.Tuple.tupleHashOf b.toList)) _ _ _
      rw [hb]
      simp only [hD, hT] at h
      exact wpAny_bind (wpAny_mkInt (wpAny_pure ⟨_, _, rfl, by simpa [Nat.add_assoc] using h⟩))
  | .bytes _, _, _, _, _, x, _, _ | .list _, _, _, _, _, x, _, _=>by cases x
theorem hash_loop {prog:Program} {w:World} {E:Value → Shared → Prop}:∀ (ds:List Dat) (vs:List Value) (A:Around) (s:Shared) (b:Array Int) (Q:Array Int → Shared → Prop), HAll s.heap vs ds → A.units + dDs ds + 1 < cLine →
    (∀ b', b'.toList = b.toList ++ hDs w ds → Q b' { s with toks:=s.toks + hTs ds }) →
    wpAny (model prog w) A (forIn vs b fun x r=>do let h ← pyHash x; pure PUnit.unit; pure (ForInStep.yield (r.push h))) Q E s
  | [], _, A, s, b, Q, x, _, h=>by cases x; exact wpAny_pure (h b (by simp [hDs]))
  | d :: ds, _, A, s, b, Q, x, hu, h=>by
    cases x with
    | cons x1 x2 =>
      simp only [dDs] at hu
      rw [List.forIn_cons]
      refine wpAny_bind (wpAny_bind (hash_in d _ A s _ x1 (Nat.lt_of_le_of_lt (Nat.add_le_add_right (Nat.add_le_add_left (Nat.le_max_left _ _) _) 1) hu) ?_))
      refine wpAny_bind (wpAny_pure (wpAny_pure ?_))
      refine hash_loop ds _ A { s with toks:=s.toks + hT d } _ Q x2 (Nat.lt_of_le_of_lt (Nat.add_le_add_right (Nat.add_le_add_left (Nat.le_max_right _ _) _) 1) hu) fun b' hb=>?_
      have:=h b' (by simp [hb, hDs])
      simpa [hTs, Nat.add_assoc] using this
end
set_option maxRecDepth 100000 in
mutual
theorem quiet_in {prog:Program} {w:World} {A:Around} {E:Value → Shared → Prop}:∀ (n:Nat) (d:Dat) (v:Value) (s:Shared) (Q:Bool → Shared → Prop), HIn s.heap v d → dD d ≤ n → Q true s → wpAny (model prog w) A (eqIsQuiet n v) Q E s
  | n, .none, _, s, Q, x, _, h=>by cases x; rw [eqIsQuiet_byValue n rfl]; exact wpAny_pure h
  | n, .bool b, _, s, Q, x, _, h=>by cases x; rw [eqIsQuiet_byValue n rfl]; exact wpAny_pure h
  | n, .int i, _, s, Q, x, _, h=>by cases x; rw [eqIsQuiet_byValue n rfl]; exact wpAny_pure h
  | n, .str y, _, s, Q, x, _, h=>by cases x; rw [eqIsQuiet_byValue n rfl]; exact wpAny_pure h
  | 0, .tuple ds, _, s, Q, x, hn, h=>absurd hn (by simp [dD])
  | n + 1, .tuple ds, _, s, Q, x, hn, h=>by
    cases x with
    | @tuple a vs k _ hg hr =>
      have hT:s.TypeIs (.ref a) "tuple":=⟨_, hg, rfl⟩
      unfold eqIsQuiet
      refine wpAny_bind (wpAny_specialOf hT F.slot_tuple_eq.lookup ?_)
      show wpAny _ _ (isInstance (.ref a) (.type "tuple") >>= _) _ _ s
      refine wpAny_bind (wpAny_isInstance hT isSubtype_tuple_tuple ?_)
      simp only [Bool.not_true, Bool.false_eq_true, if_false]
      refine wpAny_bind (wpAny_seqItems hg rfl ?_)
      refine wpAny_bind ?_
      show wpAny _ _ (forIn vs.toArray _ _) _ _ s
      rw [← Array.forIn_toList]
      refine wpAny_forIn_list _ (fun rest r s'=>r.1 = none ∧ s' = s ∧ ∃ left, HAll s.heap rest left ∧ ∀ e ∈ left, e ∈ ds) _ ?_ ?_ _ _ ⟨rfl, rfl, ds, hr, fun _ h=>h⟩
      · rintro v rest r s' ⟨hr1, rfl, left, hl, hm⟩
        cases hl with
        | @cons _ _ e left' he hl' =>
          have hde:dD e ≤ n:=by
            have hm:=hm e (.head _)
            have key:∀ (ds:List Dat), e ∈ ds → dD e ≤ dDs ds:=by
              intro ds
              induction ds with
              | nil=>intro h; cases h
              | cons x ds ih =>
                intro h
                rcases List.mem_cons.mp h with rfl | h
                · simp only [dDs]; lia
                · have:=ih h; simp only [dDs]; lia
            have:=key ds hm
            simp only [dD] at hn
            lia
          refine wpAny_bind (quiet_in n e v s' _ he hde ?_)
          simp only [Bool.not_true, Bool.false_eq_true, if_false]
          exact wpAny_pure ⟨rfl, rfl, left', hl', fun z hz=>hm z (.tail _ hz)⟩
      · rintro ⟨r1, r2⟩ s' ⟨hr1, rfl, _⟩
        simp only at hr1
        subst hr1
        exact wpAny_pure h
  | _, .bytes _, _, _, _, x, _, _ | _, .list _, _, _, _, x, _, _=>by cases x
end
theorem dDs_c {d:Dat} {ds:List Dat} {m:Nat} (h:dD d ≤ m) (k:dDs ds ≤ m):dDs (d :: ds) ≤ m:=by rw [dDs]; exact mle h k
theorem dDs_0 {m:Nat}:dDs [] ≤ m:=by rw [dDs]; exact Nat.zero_le _
theorem dD_t {ds:List Dat} {m:Nat} (h:dDs ds ≤ m):dD (.tuple ds) ≤ m + 1:=by rw [dD]; exact Nat.succ_le_succ h
theorem dD_i {i:Int} {m:Nat}:dD (.int i) ≤ m:=by simp [dD]
theorem dD_b {i:Bool} {m:Nat}:dD (.bool i) ≤ m:=by simp [dD]
theorem dD_s {i:Str} {m:Nat}:dD (.str i) ≤ m:=by simp [dD]
theorem dD_n {m:Nat}:dD .none ≤ m:=by simp [dD]
theorem dD_p {x:Str} {d:Dat} {m:Nat} (h:dD d ≤ m):dD (.tuple [.str x, d]) ≤ m + 1:=dD_t (dDs_c dD_s (dDs_c h dDs_0))
theorem dD_le:∀ c:Cd, dD c.dat ≤ 2 * c.dep + 1
  | .plain (.int _)=>dD_p dD_i
  | .plain (.bool _)=>dD_p dD_b
  | .plain .none=>dD_p dD_n
  | .plain (.sym _)=>dD_p dD_s
  | .text _=>dD_p dD_s
  | .thing _=>dD_p dD_i
  | .l0=>dD_p (dD_t (m:=1) dDs_0)
  | .l1 p=>dD_p (dD_t (m:=2 * p.dep + 1) (dDs_c (dD_le p) dDs_0))
  | .l2 p q=>dD_p (dD_t (m:=2 * max p.dep q.dep + 1) (dDs_c (upm (dD_le p) (Nat.le_max_left _ _)) (dDs_c (upm (dD_le q) (Nat.le_max_right _ _)) dDs_0)))
  | .range _ (some _) _=>dD_t (m:=2) (dDs_c dD_s (dDs_c (dD_p (m:=1) dD_i) (dDs_c (dD_p (m:=1) dD_i) (dDs_c dD_b dDs_0))))
  | .range _ none _=>dD_t (m:=2) (dDs_c dD_s (dDs_c (dD_p (m:=1) dD_i) (dDs_c (dD_p (m:=1) dD_n) (dDs_c dD_b dDs_0))))
open Classical in
noncomputable def codeKind (w:World):HeapKind PR w Cd where
  is:=fun h c a=>HIn h (.ref a) c.dat ∧ c.Fits ∧ c.dep ≤ 3
  hash:=fun c=>hD w c.dat
  draws:=fun c=>hT c.dat
  room:=fun A=>A.units + 64 < cLine
  inj:=fun hx hy=>dat_inj (HIn.inj hx.1 hy.1)
  keeps:=fun x ho hd hs=>⟨HIn.keeps ho hd hs x.1, x.2⟩
  pyHash:=fun {A E s k a Q} hu hk h=>hash_in _ _ A s Q hk.1 (by have:=dD_le k; have:=hk.2.2; lia) h
  eqBool:=fun {A E s x y a b Q} hu hx hy h=>by
    obtain ⟨as, ra⟩:=HIn.reads hx.1
    obtain ⟨bs, rb⟩:=HIn.reads hy.1
    have lx:=cd_lay x hx.2.1
    have ly:=cd_lay y hy.2.1
    have d1:=hx.2.2
    have e:PyData.eqv (kqdP x.dat) (kqdP y.dat) = decide (x = y):=by
      have q:=cd_eqv x y
      by_cases hq:x = y
      · rw [decide_eq_true hq]; exact q.mpr hq
      · rw [decide_eq_false hq]; exact Bool.eq_false_iff.mpr fun z=>hq (q.mp z)
    refine SeqAt.eqBoolOverData PR w A E s _ _ _ _ as bs Q ra rb lx.1 ly.1 ?_ (by rw [e]; exact h)
    have:=Nat.min_le_left (kqdP x.dat).depth (kqdP y.dat).depth
    have:=lx.2
    lia
  quiet:=fun {A E s k a Q} hk h=>quiet_in 8 _ _ s Q hk.1 (by have:=dD_le k; have:=hk.2.2; lia) h
open Classical in
noncomputable def RowsOf (w:World) (o:Obj) (xs:List (Cd × Addr × Value)):Prop:=∃ es ep, o.ExactDict ∧ o.data = .dict es ep ∧ es.toList = xs.map (entryOfKey (codeKind w)) ∧ (xs.map (·.1)).Nodup
noncomputable def KeysIn (l:Led) (xs:List (Cd × Addr × Value)):Prop:=∀ x ∈ xs, DatIn l (.ref x.2.1) x.1.dat ∧ x.1.Fits ∧ x.1.dep ≤ 3
theorem KeysIn.mono {l k:Led} {xs:List (Cd × Addr × Value)} (h:KeysIn l xs) (s:∀ p ∈ l, p ∈ k):KeysIn k xs:=fun x hx=>⟨(h x hx).1.mono s, (h x hx).2⟩
theorem RowsOf.nil {w:World} {o:Obj} (h:o.IsDictOf (strKind PR w) []):RowsOf w o []:=by
  refine byP fun _ q9=>?_
  obtain ⟨es, ep, h1, h2, h3, h4, h5⟩:=h
  refine q9 ?_
  refine ⟨es, ep, h1, h2, ?_, List.nodup_nil⟩
  cases h4':es.toList with
  | nil=>rfl
  | cons a r=>rw [h4'] at h4; cases h4
section
open Classical
theorem rows_dict {w:World} {h₀ h:Heap} {L d:Addr} {l k:Led} {o:Obj} {xs:List (Cd × Addr × Value)} (N:News h₀ L h l) (hm:(d, o) ∈ l) (R:RowsOf w o xs) (Nk:News h₀ L h k) (K:KeysIn k xs):h.DictOfH (codeKind w) d xs:=by
  refine byP fun _ q9=>?_
  obtain ⟨es, ep, h1, h2, h3, h4⟩:=R
  refine q9 ?_
  exact ⟨o, es, ep, (N _ hm).1, h1, h2, h3, fun x hx=>⟨HIn.of Nk (K x hx).1 (cd_tup _), (K x hx).2⟩, h4⟩
theorem rows_method {w:World} {A:Around} {E:Value → Shared → Prop} {s:Shared} {h₀:Heap} {L d:Addr} {l:Led} {o:Obj} {xs:List (Cd × Addr × Value)} {pl:Sem Bool} {Q:Value × List Value → Shared → Prop} (N:News h₀ L s.heap l) (hm:(d, o) ∈ l) (R:RowsOf w o xs) (h:Q (.builtin "dict.get", [.ref d]) s):wpAny (model PR w) A (getMethod (.ref d) "get" pl) Q E s:=by
  refine byP fun _ q9=>?_
  obtain ⟨es, ep, h1, h2, _⟩:=R
  refine q9 ?_
  have hT:s.TypeIs (.ref d) "dict":=⟨o, (N _ hm).1, h1.1⟩
  exact getMethod_builtin hT PySem.F.plainAttrs_dict PySem.F.slot_dict_get PySem.F.type_dict_get (fun b hb=>by
    cases hb
    exact ⟨o, (N _ hm).1, h1.2.1⟩) h
theorem rows_get {w:World} {A:Around} {E:Value → Shared → Prop} {s:Shared} {h₀:Heap} {L d a:Addr} {l:Led} {o:Obj} {xs:List (Cd × Addr × Value)} {c:Cd} {Q:Value → Shared → Prop} (N:News h₀ L s.heap l) (hm:(d, o) ∈ l) (R:RowsOf w o xs) (K:KeysIn l xs) (lo:(d == sysModules) = false)
    (hk:DatIn l (.ref a) c.dat) (fc:c.Fits) (dc:c.dep ≤ 3) (hu:A.units + 65 < cLine) (h:Q (((atKey xs c).map (·.2)).getD .none) { s with toks:=s.toks + hT c.dat }) :
    wpAny (model PR w) A (call (.builtin "dict.get") [.ref d, .ref a]) Q E s:=by
  have hD:=rows_dict N hm R N K
  exact call_meetsIn PySem.F.slot_dict_get hD.typeIs PySem.F.entry_dict_get (PySem.F.args_dict_get_2 _ _) (meetsH_dict_get (codeKind w) d a lo)
    ⟨by show A.in1.units + 64 < cLine; rw [Around.in1_units]; lia, c, xs, ⟨HIn.of N hk (cd_tup _), fc, dc⟩, hD, h⟩
theorem rows_set {w:World} {A:Around} {E:Value → Shared → Prop} {s:Shared} {h₀:Heap} {L d a:Addr} {m:Str → Option Value} {l:Led} {g:Obj → Led} {o:Obj} {xs:List (Cd × Addr × Value)} {c:Cd} {v:Value} {Q:Unit → Shared → Prop} (F:Fr h₀ L s.heap m) (N:News h₀ L s.heap l) (U:UpdF d o l g) (R:RowsOf w o xs) (K:KeysIn l xs)
    (hk:DatIn l (.ref a) c.dat) (fc:c.Fits) (dc:c.dep ≤ 3) (hu:A.units + 65 < cLine) (hz:xs.length ≤ 1000)
    (h:∀ h' o', Fr h₀ L h' m → News h₀ L h' (g o') → RowsOf w o' (storedH xs c a v) → Q () { s with heap:=h', toks:=s.toks + hT c.dat }) :
    wpAny (model PR w) A (setItem (.ref d) (.ref a) v) Q E s:=by
  refine byP fun _ q9=>?_
  obtain ⟨pre, post, rfl, hg, n1, n2⟩:=U.split
  refine q9 ?_
  have hm:(d, o) ∈ pre ++ (d, o) :: post:=iR (.head _)
  have hD:=rows_dict N hm R N K
  have hmm:=N _ hm
  refine wpAny_setItem_heap (knd:=codeKind w) (hsz:=by rw [sizeLine_eq]; lia) (by show A.in1.units + 64 < cLine; rw [Around.in1_units]; lia) ⟨HIn.of N hk (cd_tup _), fc, dc⟩ hD fun h' hD' hs=>?_
  refine byP fun _ q9=>?_
  obtain ⟨o', es', ep', e1, e2, e3, e4, e5, e6⟩:=hD'
  refine q9 ?_
  exact h h' o' (F.change hs hmm.2.1 hmm.2.2) (hg o' ▸ N.setIn n1 n2 hs e1) ⟨es', ep', e2, e3, e4, e6⟩
end
theorem isStr_ne {x y:Str} {v:Value} (h:x ≠ y) (hv:v.isStr x = true):v.isStr y = false:=by
  cases v <;> simp_all [Value.isStr]
theorem getL_put_same (x:Str) (hh:Int) (t:Tok) (v:Value):∀ es:List DictEntry, getL x (putL x hh (.str x t) v es) = some (some v)
  | []=>by simp [getL, putL, Value.isStr]
  | e :: r=>by
    have ih:=getL_put_same x hh t v r
    unfold putL
    by_cases h:e.key.isStr x = true
    · rw [if_pos h]; simp [getL, h]
    · rw [if_neg h]
      have h':e.key.isStr x = false:=by simpa using h
      have:(putL x hh (.str x t) v r).find? (fun e=>e.key.isStr x) ≠ none:=by
        intro q; unfold getL at ih; rw [q] at ih; split at ih <;> simp_all
      unfold getL at ih ⊢
      rw [List.find?_cons, h']
      dsimp only
      split at ih
      · rename_i e' he'; rw [he']; exact ih
      · rename_i he'; exact absurd he' this
theorem refKey_put (x:Str) (hh:Int) (t:Tok) (v:Value):∀ es:List DictEntry, (putL x hh (.str x t) v es).any (·.refKey) = es.any (·.refKey)
  | []=>by simp [putL, DictEntry.refKey]
  | e :: r=>by
    unfold putL
    split
    · simp [DictEntry.refKey]
    · simp [refKey_put x hh t v r]
theorem find_put_ne {x y:Str} (hxy:x ≠ y) (hh:Int) (t:Tok) (v:Value):∀ es:List DictEntry, (putL x hh (.str x t) v es).find? (fun e=>e.key.isStr y) = es.find? (fun e=>e.key.isStr y)
  | []=>by
    have:(Value.str x t).isStr y = false:=isStr_ne hxy (by simp [Value.isStr])
    simp [putL, this]
  | e :: r=>by
    unfold putL
    split
    · rename_i h
      have h2:e.key.isStr y = false:=isStr_ne hxy h
      simp [h2]
    · rw [List.find?_cons, List.find?_cons, find_put_ne hxy hh t v r]
theorem getL_put_ne {x y:Str} (hxy:x ≠ y) (hh:Int) (t:Tok) (v:Value) (es:List DictEntry):getL y (putL x hh (.str x t) v es) = getL y es:=by
  unfold getL; rw [find_put_ne hxy, refKey_put]
theorem len_put (x:Str) (hh:Int) (k v:Value):∀ es:List DictEntry, (putL x hh k v es).length ≤ es.length + 1
  | []=>by simp [putL]
  | e :: r=>by
    unfold putL
    split
    · simp
    · have:=len_put x hh k v r; simp; lia
theorem len_put_old {x:Str} {hh:Int} {k v u:Value}:∀ {es:List DictEntry}, getL x es = some (some u) → (putL x hh k v es).length = es.length
  | [], h=>by simp [getL] at h
  | e :: r, h=>by
    unfold putL
    split
    · simp
    · rename_i q
      have q':e.key.isStr x = false:=by simpa using q
      have h':getL x r = some (some u):=by
        unfold getL at h ⊢
        rw [List.find?_cons, q'] at h
        dsimp only at h
        split
        · rename_i e' he'; rw [he'] at h; exact h
        · rename_i he'; rw [he'] at h; split at h <;> simp_all
      simp [len_put_old h']
theorem isSome_get {x:Str} {es:List DictEntry} {o:Option Value} (h:getL x es = some o):(getL x es).isSome = true:=by rw [h]; rfl
theorem valueAt_stored (kvs:List (Str × Value)) (x y:Str) (v:Value):valueAt (stored kvs x v) y = if y = x then some v else valueAt kvs y:=by
  unfold stored
  by_cases ha:kvs.any (fun kv=>kv.1 = x) = true
  · rw [if_pos ha]
    induction kvs with
    | nil=>simp at ha
    | cons p r ih =>
      simp only [valueAt, List.map_cons, List.find?_cons] at ih ⊢
      by_cases hp:p.1 = x
      · by_cases hy:y = x
        · simp [hp, hy]
        · have h1:¬ x = y:=fun e=>hy e.symm
          simp only [hp, h1, hy, if_true, decide_false, if_false]
          by_cases hr:r.any (fun kv=>kv.1 = x) = true
          · have:=ih hr; simpa [hy] using this
          · have e:r.map (fun kv=>if kv.1 = x then (kv.1, v) else kv) = r:=by
              clear ih ha
              induction r with
              | nil=>rfl
              | cons q r ih2 =>
                simp only [List.any_cons, Bool.or_eq_true, not_or, decide_eq_true_eq] at hr
                simp only [List.map_cons, if_neg hr.1]
                rw [ih2 (by simpa using hr.2)]
            rw [e]
      · have ha':r.any (fun kv=>kv.1 = x) = true:=by simpa [hp] using ha
        have:=ih ha'
        simp only [if_neg hp]
        by_cases hy:p.1 = y
        · have:¬ y = x:=fun e=>hp (hy.trans e)
          simp [hy, this]
        · simpa [hy] using this
  · rw [if_neg ha]
    simp only [valueAt, List.find?_append]
    by_cases hy:y = x
    · subst hy
      have:kvs.find? (fun kv=>decide (kv.1 = y)) = none:=by
        rw [List.find?_eq_none]; intro q hq hc
        exact ha (List.any_eq_true.mpr ⟨q, hq, hc⟩)
      simp [this]
    · have h1:¬ x = y:=fun e=>hy e.symm
      simp [hy, h1]
theorem stored_new {kvs:List (Str × Value)} {x:Str} (h:valueAt kvs x = none) (v:Value):stored kvs x v = kvs ++ [(x, v)]:=by
  unfold stored
  rw [if_neg]
  intro ha
  obtain ⟨q, hq, hc⟩:=List.any_eq_true.mp ha
  unfold valueAt at h
  cases hf:kvs.find? (fun kv=>decide (kv.1 = x)) with
  | none=>rw [List.find?_eq_none] at hf; exact hf q hq hc
  | some z=>rw [hf] at h; cases h
noncomputable def names:List Str:=[ofString "Object", ofString "BasicObject", ofString "Class", ofString "Module", ofString "Kernel", ofString "Comparable", ofString "Enumerable", ofString "Numeric", ofString "Integer", ofString "String", ofString "Array", ofString "Range", ofString "Hash"]
noncomputable def miss (kvs:List (Str × Value)):Nat:=(names.filter fun n=>(valueAt kvs n).isNone).length
theorem filter_lt {α:Type} {p q:α → Bool}:∀ {l:List α}, (∀ x ∈ l, q x = true → p x = true) → (∃ x ∈ l, p x = true ∧ q x = false) → (l.filter q).length + 1 ≤ (l.filter p).length
  | [], _, h=>by obtain ⟨_, h, _⟩:=h; cases h
  | a :: l, h1, h2=>by
    have sub:(l.filter q).length ≤ (l.filter p).length:=by
      clear h2
      induction l with
      | nil=>simp
      | cons b l ih =>
        have:=ih fun x hx=>h1 x (by rcases List.mem_cons.mp hx with rfl | hx <;> simp_all)
        simp only [List.filter_cons]
        have hb:=h1 b (by simp)
        cases hq:q b <;> cases hp:p b <;> simp_all <;> lia
    by_cases ha:p a = true ∧ q a = false
    · simp only [List.filter_cons, ha.1, ha.2, if_true, List.length_cons]; simpa using sub
    · have h2':∃ x ∈ l, p x = true ∧ q x = false:=by
        obtain ⟨x, hx, hx2⟩:=h2
        rcases List.mem_cons.mp hx with rfl | hx
        · exact absurd hx2 ha
        · exact ⟨x, hx, hx2⟩
      have ih:=filter_lt (fun x hx=>h1 x (iC hx)) h2'
      simp only [List.filter_cons]
      have hb:=h1 a (by simp)
      cases hq:q a <;> cases hp:p a <;> simp_all
theorem miss_stored {kvs:List (Str × Value)} {x:Str} (hx:x ∈ names) (h:valueAt kvs x = none) (v:Value):(stored kvs x v).length = kvs.length + 1 ∧ miss (stored kvs x v) + 1 ≤ miss kvs:=by
  refine ⟨by rw [stored_new h]; simp, filter_lt (fun y _ hy=>?_) ⟨x, hx, by rw [h]; rfl, by rw [valueAt_stored]; simp⟩⟩
  rw [valueAt_stored] at hy
  split at hy
  · simp at hy
  · exact hy
theorem stored_ext {kvs:List (Str × Value)} {x:Str} {u:Value} (hn:valueAt kvs x = none):∀ y v, valueAt kvs y = some v → valueAt (stored kvs x u) y = some v:=fun y v h=>by
  rw [valueAt_stored]
  split
  · rename_i e; subst e; rw [hn] at h; cases h
  · exact h
set_option genInjectivity false in
structure Wc where
  wa:Addr
  wd:Addr
  md:Addr
  nat:Addr
  pre:Addr
  sy:Addr
  on:Obj
  op:Obj
  mn:Nat
set_option genInjectivity false in
structure Ws where
  es:List DictEntry
  ne:Nat
  num:Int
  idn:Int
  rd:Bool
  om:Obj
  kvs:List (Str × Value)
noncomputable def Wk (c:Wc) (σ:Ws):Led:=[(c.wa, instObj 681 c.wd), (c.wd, dictOf σ.es σ.ne), (c.md, σ.om), (c.nat, c.on), (c.pre, c.op)]
theorem Wk.m0 {c:Wc} {σ:Ws}:(c.wa, instObj 681 c.wd) ∈ Wk c σ:=.head _
theorem Wk.m1 {c:Wc} {σ:Ws}:(c.wd, dictOf σ.es σ.ne) ∈ Wk c σ:=.tail _ (.head _)
theorem Wk.m2 {c:Wc} {σ:Ws}:(c.md, σ.om) ∈ Wk c σ:=.tail _ (.tail _ (.head _))
theorem Wk.m3 {c:Wc} {σ:Ws}:(c.nat, c.on) ∈ Wk c σ:=.tail _ (.tail _ (.tail _ (.head _)))
theorem Wk.m4 {c:Wc} {σ:Ws}:(c.pre, c.op) ∈ Wk c σ:=.tail _ (.tail _ (.tail _ (.tail _ (.head _))))
noncomputable abbrev hasn (x:String) (es:List DictEntry):Prop:=getL (ofString x) es = some none
structure WOk (c:Wc) (σ:Ws):Prop where
  f_num:∃ t, has "last_number" σ.es (.int σ.num t)
  f_idn:∃ t, has "last_ident" σ.es (.int σ.idn t)
  f_sy:has "symbol_idents" σ.es (.ref c.sy)
  f_md:has "made" σ.es (.ref c.md)
  f_rd:has "is_ready" σ.es (.bool σ.rd)
  f_nat:has "natives" σ.es (.ref c.nat)
  f_pre:has "prelude" σ.es (.ref c.pre)
  n_number:hasn "number" σ.es
  n_next:hasn "next_ident" σ.es
  n_ident:hasn "ident" σ.es
  n_builtin:hasn "builtin" σ.es
  n_make:hasn "make_builtin" σ.es
  n_own:hasn "give_own" σ.es
  n_class:hasn "class_of" σ.es
  n_root:hasn "root_of" σ.es
  n_text:hasn "text" σ.es
  n_list:hasn "list_of" σ.es
  n_range:hasn "range_of" σ.es
  n_thing:hasn "thing" σ.es
  n_err:hasn "is_error_class" σ.es
  len:σ.es.length ≤ 20 + c.mn
  mnb:c.mn ≤ 10
structure Put (es es':List DictEntry) (x:Str) (v:Value):Prop where
  same:getL x es' = some (some v)
  other:∀ y, x ≠ y → getL y es' = getL y es
  len:es'.length ≤ es.length + 1
  old:∀ u, getL x es = some (some u) → es'.length = es.length
noncomputable def fixN (x:Str):Bool:=[ofString "symbol_idents", ofString "made", ofString "natives", ofString "prelude", ofString "number", ofString "next_ident", ofString "ident", ofString "builtin", ofString "make_builtin", ofString "give_own", ofString "class_of", ofString "root_of", ofString "text", ofString "list_of", ofString "range_of", ofString "thing", ofString "is_error_class"].any (· == x)
theorem ne_fix {x y:Str} (hx:fixN x = false) (hy:fixN y = true):x ≠ y:=fun e=>by
  rw [e, hy] at hx
  cases hx
theorem WOk.keep {c c':Wc} {σ σ':Ws} (k:WOk c σ) (g:∀ y, fixN y = true → getL y σ'.es = getL y σ.es) (hc:c'.sy = c.sy ∧ c'.md = c.md ∧ c'.nat = c.nat ∧ c'.pre = c.pre) (h1:∃ t, has "last_number" σ'.es (.int σ'.num t)) (h2:∃ t, has "last_ident" σ'.es (.int σ'.idn t)) (h3:has "is_ready" σ'.es (.bool σ'.rd)) (hl:σ'.es.length ≤ 20 + c'.mn) (hm:c'.mn ≤ 10):WOk c' σ' :=
  ⟨h1, h2, (g _ rfl).trans (hc.1 ▸ k.f_sy), (g _ rfl).trans (hc.2.1 ▸ k.f_md), h3, (g _ rfl).trans (hc.2.2.1 ▸ k.f_nat), (g _ rfl).trans (hc.2.2.2 ▸ k.f_pre), (g _ rfl).trans k.n_number, (g _ rfl).trans k.n_next, (g _ rfl).trans k.n_ident, (g _ rfl).trans k.n_builtin, (g _ rfl).trans k.n_make, (g _ rfl).trans k.n_own, (g _ rfl).trans k.n_class, (g _ rfl).trans k.n_root, (g _ rfl).trans k.n_text, (g _ rfl).trans k.n_list, (g _ rfl).trans k.n_range, (g _ rfl).trans k.n_thing, (g _ rfl).trans k.n_err, hl, hm⟩
theorem WOk.put {c:Wc} {σ σ':Ws} (k:WOk c σ) {x:Str} {v u:Value} (P:Put σ.es σ'.es x v) (hu:getL x σ.es = some (some u)) (h1:∃ t, has "last_number" σ'.es (.int σ'.num t)) (h2:∃ t, has "last_ident" σ'.es (.int σ'.idn t)) (h3:has "is_ready" σ'.es (.bool σ'.rd)) (hx:fixN x = false):WOk c σ' :=
  k.keep (fun y hy=>P.other y (ne_fix hx hy)) ⟨rfl, rfl, rfl, rfl⟩ h1 h2 h3 (by rw [P.old _ hu]; exact k.len) k.mnb
noncomputable def Bo:Str:=ofString "BasicObject"
noncomputable def Ob:Str:=ofString "Object"
noncomputable def ParOk (kvs:List (Str × Value)) (x:Str) (es:List DictEntry):Prop:=has "parent" es .none ∨ (x ≠ Bo ∧ ∃ p, has "parent" es (.ref p) ∧ (x = Ob → valueAt kvs Bo = some (.ref p)))
noncomputable def IdL (es:List DictEntry):Prop:=es.length ≤ 30 ∧ (has "ident" es .none ∨ ∃ i t, has "ident" es (.int i t))
noncomputable def ModOk (kvs:List (Str × Value)) (N:Int) (b:Addr) (x:Str) (l:Led):Prop:=∃ d es n k t t', (b, instObj 228 d) ∈ l ∧ (d, dictOf es n) ∈ l ∧ has "number" es (.int k t) ∧ has "native" es (.str x t') ∧ has "attached" es .none ∧ ParOk kvs x es ∧ hasn "is_own" es ∧ IdL es ∧ k ≤ N
noncomputable def AllMod (kvs:List (Str × Value)) (N:Int) (l:Led):Prop:=∀ y v, valueAt kvs y = some v → y ∈ names ∧ ∃ b, v = .ref b ∧ ModOk kvs N b y l
theorem ParOk.ext {kvs kvs':List (Str × Value)} {x:Str} {es:List DictEntry} (e:∀ y v, valueAt kvs y = some v → valueAt kvs' y = some v) (h:ParOk kvs x es):ParOk kvs' x es:=by
  rcases h with h | ⟨h1, p, h2, h3⟩
  · exact .inl h
  · exact .inr ⟨h1, p, h2, fun q=>e _ _ (h3 q)⟩
theorem ModOk.mono {kvs kvs':List (Str × Value)} {N:Int} {b:Addr} {x:Str} {l k:Led} (e:∀ y v, valueAt kvs y = some v → valueAt kvs' y = some v) (s:∀ p ∈ l, p ∈ k) (h:ModOk kvs N b x l):ModOk kvs' N b x k:=by
  refine byP fun _ q9=>?_
  obtain ⟨d, es, n, i, t, t', h1, h2, h3, h4, h5, h6, h7⟩:=h
  refine q9 ?_
  exact ⟨d, es, n, i, t, t', s _ h1, s _ h2, h3, h4, h5, h6.ext e, h7⟩
theorem AllMod.mono {kvs:List (Str × Value)} {N:Int} {l k:Led} (s:∀ p ∈ l, p ∈ k) (h:AllMod kvs N l):AllMod kvs N k:=fun y v hy=>by
  refine byP fun _ q9=>?_
  obtain ⟨h1, b, h2, h3⟩:=h y v hy
  refine q9 ?_
  exact ⟨h1, b, h2, h3.mono (fun _ _ e=>e) s⟩
theorem AllMod.up {kvs:List (Str × Value)} {N N':Int} {l:Led} (e:N ≤ N') (h:AllMod kvs N l):AllMod kvs N' l:=fun y v hy=>by
  refine byP fun _ q9=>?_
  obtain ⟨h1, b, h2, d, es, n, i, t, t', g1, g2, g3, g4, g5, g6, g7, g8, g9⟩:=h y v hy
  refine q9 ?_
  exact ⟨h1, b, h2, d, es, n, i, t, t', g1, g2, g3, g4, g5, g6, g7, g8, Int.le_trans g9 e⟩
theorem AllMod.upd {kvs:List (Str × Value)} {N:Int} {l k:Led} {d:Addr} {es es':List DictEntry} {n n':Nat} (h:AllMod kvs N ((d, dictOf es n) :: l)) (s:∀ p ∈ l, p ∈ k) (hd:(d, dictOf es' n') ∈ k)
    (e1:getL (ofString "number") es' = getL (ofString "number") es) (e2:getL (ofString "native") es' = getL (ofString "native") es) (e3:getL (ofString "attached") es' = getL (ofString "attached") es) (e5:getL (ofString "is_own") es' = getL (ofString "is_own") es)
    (e4:∀ y t, has "native" es (.str y t) → ParOk kvs y es → ParOk kvs y es') (e6:IdL es → IdL es'):AllMod kvs N k:=fun y v hy=>by
  refine byP fun _ q9=>?_
  obtain ⟨h1, b, h2, d', fs, i, j, t, t', g1, g2, g3, g4, g5, g6, g7⟩:=h y v hy
  refine q9 ?_
  refine ⟨h1, b, h2, ?_⟩
  have gi:(b, instObj 228 d') ∈ k:=by
    rcases List.mem_cons.mp g1 with e | g1
    · injection e with _ e; exact nomatch (congrArg Obj.cls e)
    · exact s _ g1
  rcases List.mem_cons.mp g2 with e | g2
  · injection e with ea eb
    subst ea
    have:fs = es:=by
      have:=congrArg Obj.data eb
      simp only [dictOf] at this
      injection this with q1 q2
      simpa using congrArg Array.toList q1
    subst this
    exact ⟨d', es', n', j, t, t', gi, hd, e1.trans g3, e2.trans g4, e3.trans g5, e4 _ _ g4 g6, e5.trans g7.1, e6 g7.2.1, g7.2.2⟩
  · exact ⟨d', fs, i, j, t, t', gi, s _ g2, g3, g4, g5, g6, g7⟩
structure Inv (w:World) (c:Wc) (σ:Ws) (rest:Led):Prop where
  ok:WOk c σ
  gt:Gt (Wk c σ) rest
  n1:(c.wa:Nat) ≠ c.wd
  n2:(c.wa:Nat) ≠ c.md
  n3:(c.wd:Nat) ≠ c.md
  dict:σ.om.IsDictOf (strKind PR w) σ.kvs
  lo:(c.md == sysModules) = false
  n4:(c.nat:Nat) ≠ c.wd
  n5:(c.nat:Nat) ≠ c.md
  n6:(c.pre:Nat) ≠ c.wd
  n7:(c.pre:Nat) ≠ c.md
  nat:c.on.IsDictOf (strKind PR w) []
  lon:(c.nat == sysModules) = false
  pre:c.op.IsDictOf (strKind PR w) []
  lop:(c.pre == sysModules) = false
  mods:AllMod σ.kvs σ.num rest
  cnt:σ.kvs.length + miss σ.kvs ≤ 13
theorem Gt.wk {c:Wc} {σ σ':Ws} {l:Led} (h:Gt (Wk c σ) l):Gt (Wk c σ') l:=fun q hq p hp=>by
  simp only [Wk, List.mem_cons, List.not_mem_nil, or_false] at hq
  rcases hq with rfl | rfl | rfl | rfl | rfl
  · exact h _ Wk.m0 p hp
  · exact h _ Wk.m1 p hp
  · exact h _ Wk.m2 p hp
  · exact h _ Wk.m3 p hp
  · exact h _ Wk.m4 p hp
theorem Inv.mono {w:World} {c:Wc} {σ:Ws} {l k:Led} (h:Inv w c σ l) (g:Gt (Wk c σ) k) (s:∀ p ∈ l, p ∈ k):Inv w c σ k:=by
  exact { h with gt:=g, mods:=h.mods.mono s }
theorem Inv.upd {w:World} {c:Wc} {σ:Ws} {X Y Z:Led} {d:Addr} {es es':List DictEntry} {n n':Nat} (h:Inv w c σ X) (s1:∀ p ∈ X, p ∈ (d, dictOf es n) :: Y) (s2:∀ p ∈ Y, p ∈ Z) (hd:(d, dictOf es' n') ∈ Z) (g:Gt (Wk c σ) Z)
    (e1:getL (ofString "number") es' = getL (ofString "number") es) (e2:getL (ofString "native") es' = getL (ofString "native") es) (e3:getL (ofString "attached") es' = getL (ofString "attached") es) (e5:getL (ofString "is_own") es' = getL (ofString "is_own") es)
    (e4:∀ y t, has "native" es (.str y t) → ParOk σ.kvs y es → ParOk σ.kvs y es') (e6:IdL es → IdL es'):Inv w c σ Z :=
  { h with gt:=g, mods:=(h.mods.mono s1).upd s2 hd e1 e2 e3 e5 e4 e6 }
theorem Inv.made {w:World} {c:Wc} {σ:Ws} {X Z:Led} {x:Str} {b:Addr} {o':Obj} (h:Inv w c σ X) (hx:x ∈ names) (hn:valueAt σ.kvs x = none) (ho:o'.IsDictOf (strKind PR w) (stored σ.kvs x (.ref b))) (g:Gt (Wk c σ) Z) (s:∀ p ∈ X, p ∈ Z) (hb:ModOk (stored σ.kvs x (.ref b)) σ.num b x Z) :
    Inv w c { σ with om:=o', kvs:=stored σ.kvs x (.ref b) } Z:=by
  have hm:=miss_stored hx hn (.ref b)
  have hc:=h.cnt
  refine { h with gt:=g.wk, ok:=⟨h.ok.1, h.ok.2, h.ok.3, h.ok.4, h.ok.5, h.ok.6, h.ok.7, h.ok.8, h.ok.9, h.ok.10, h.ok.11, h.ok.12, h.ok.13, h.ok.14, h.ok.15, h.ok.16, h.ok.17, h.ok.18, h.ok.19, h.ok.20, h.ok.21, h.ok.22⟩, dict:=ho, mods:=fun y v hy=>?_, cnt:=?_ }
  · dsimp only at hy
    rw [valueAt_stored] at hy
    split at hy
    · rename_i e
      subst e
      exact ⟨hx, b, (Option.some.inj hy).symm, hb⟩
    · refine byP fun _ q9=>?_
      obtain ⟨h1, b', h2, h3⟩:=h.mods y v hy
      refine q9 ?_
      exact ⟨h1, b', h2, h3.mono (stored_ext hn) s⟩
  · show (stored σ.kvs x (.ref b)).length + miss (stored σ.kvs x (.ref b)) ≤ 13
    lia
structure Ext (σ σ':Ws):Prop where
  num:σ.num ≤ σ'.num
  idn:σ'.idn = σ.idn
  rd:σ'.rd = σ.rd
  kvs:∀ y v, valueAt σ.kvs y = some v → valueAt σ'.kvs y = some v
theorem Ext.refl (σ:Ws):Ext σ σ:=⟨Int.le_refl _, rfl, rfl, fun _ _ h=>h⟩
theorem Ext.trans {a b c:Ws} (h:Ext a b) (k:Ext b c):Ext a c:=⟨Int.le_trans h.num k.num, k.idn.trans h.idn, k.rd.trans h.rd, fun y v e=>k.kvs y v (h.kvs y v e)⟩
inductive Sp (H:Led):Led → Led → Led → Prop
  | here {post}:Sp H (H ++ post) [] post
  | here0:Sp H H [] []
  | cons {p l pre post}:Sp H l pre post → Sp H (p :: l) (p :: pre) post
theorem Sp.eq {H l pre post:Led} (h:Sp H l pre post):l = pre ++ (H ++ post):=by
  induction h with
  | here=>rfl
  | here0=>simp
  | cons _ ih=>rw [ih]; rfl
noncomputable def WC (w:World) (mx:Mx) (c:Wc) (σ:Ws) (X:Led) (f:Addr) (dn:Nat) (args:List Value) (P:Value → Ws → Led → Prop):Prop :=
  ∀ rest, (∀ p ∈ X, p ∈ rest) → Gt (Wk c σ) rest → Does w mx f dn args (Wk c σ ++ rest) (fun r n' tl=>∃ σ', n' = Wk c σ' ++ rest ∧ Inv w c σ' (X ++ tl) ∧ Ext σ σ' ∧ P r σ' tl)
theorem WC.gen {w:World} {mx:Mx} {c:Wc} {σ:Ws} {X:Led} {f:Addr} {dn:Nat} {args:List Value} {P:Value → Ws → Led → Prop} (h:∀ P':Value → Ws → Led → Prop, (∀ r σ tl, P r σ tl → P' r σ tl) → WC w mx c σ X f dn args P'):WC w mx c σ X f dn args P:=h P fun _ _ _ h=>h
theorem Gt.subR {l X Y:Led} (h:Gt l X) (s:∀ p ∈ Y, p ∈ X):Gt l Y:=fun q hq p hp=>h q hq p (s p hp)
theorem Wk.subA {c:Wc} {σ σ':Ws} {Y:Led} (s:∀ p ∈ Wk c σ, p ∈ Y):∀ p ∈ Wk c σ', ∃ o, (p.1, o) ∈ Y:=fun p hp=>by
  simp only [Wk, List.mem_cons, List.not_mem_nil, or_false] at hp
  rcases hp with rfl | rfl | rfl | rfl | rfl
  · exact ⟨_, s _ Wk.m0⟩
  · exact ⟨_, s _ Wk.m1⟩
  · exact ⟨_, s _ Wk.m2⟩
  · exact ⟨_, s _ Wk.m3⟩
  · exact ⟨_, s _ Wk.m4⟩
noncomputable def TupAt (h₀:Heap) (ax:Addr) (its:Array Value) (news:Led):Prop:=h₀.IsTuple ax its ∨ ∃ o, (ax, o) ∈ news ∧ o.cls = .type "tuple" ∧ ∃ n, o.data = .seq its n
theorem TupAt.tup {h₀ h:Heap} {L ax:Addr} {its:Array Value} {news:Led} (x:TupAt h₀ ax its news) (k:∀ b o, h₀.get? b = some o → h.get? b = some o) (N:News h₀ L h news):h.IsTuple ax its:=by
  rcases x with ⟨o, e, r⟩ | ⟨o, hm, r⟩
  · exact ⟨o, k _ _ e, r⟩
  · exact ⟨o, (N _ hm).1, r⟩
noncomputable def TupSrc (prog:Program) (w:World) (A:Around) (h₀:Heap) (L:Addr) (m:Str → Option Value) (env:Env) (elt:Expr) (x:Str) (scope:Scope) (cl:List (Str × Addr)) (Fin:Shared → List Value → Led → Prop) (xv:Value) (s₁:Shared):Prop :=
  ∃ ax its news, xv = .ref ax ∧ A.handled = none ∧ Fr h₀ L s₁.heap m ∧ News h₀ L s₁.heap news ∧ TupAt h₀ ax its news ∧ its.size ≤ sizeLine ∧
    ∀ s₂:Shared, (∃ h, s₂ = { s₁ with heap:=h }) → LCg.CompRest prog w A h₀ L m env elt x scope cl s₂ (TupAt h₀ ax its) (fun i v=>its[i]? = some v) (Fin s₂) its.size 0 [] news
theorem tup_st {h₀:Heap} {L:Addr} {ax I:Addr} {its:Array Value}:∀ i (h h':Heap) (o:Obj) (nw:Led), (h.IsTupleIter I ax i ∧ h.IsTuple ax its) → h.get? I = some o → h'.get? I = some o → (∀ b o, h₀.get? b = some o → h'.get? b = some o) → News h₀ L h' nw → TupAt h₀ ax its nw → (h'.IsTupleIter I ax i ∧ h'.IsTuple ax its) :=
  fun i h h' o nw st e e' k N S=>⟨by obtain ⟨o', q, r⟩:=st.1; rw [e] at q; cases q; exact ⟨o, e', r⟩, S.tup k N⟩
theorem ListComp_T {prog:Program} {w:World} {A:Around} {E:Value → Shared → Prop} {s:Shared} {h₀:Heap} {L:Addr} {m:Str → Option Value} {env:Env} {elt iter:Expr} {x:Str} {px:Pos} {scope:Scope} {cl:List (Str × Addr)} {pos:Pos} {Q:Value → Shared → Prop} (F₀:Fr h₀ L s.heap m)
    (hclos:closureFor scope env = pure cl) (hcell:∀ y ∈ scope.names, y.2 ≠ .cell) (hkind:scope.kind = .function)
    (hnames:∀ y ∈ scope.names, y.2 = .local → scope.names.lookup y.1 = some .local) (hx:scope.names.lookup x = some .local)
    (h:wpAny (model prog w) A (eval iter env) (TupSrc prog w A h₀ L m env elt x scope cl (fun s₂=>LCg.FinE h₀ L m s₂ Q)) E s)
    (hs:∀ x, foldedSetIterable iter env x = pure x) :
    wpAny (model prog w) A (eval (.ListComp elt [⟨.Name x px, iter, [], 0⟩] scope pos) env) Q E s:=by
  rw [eval_ListComp]
  refine wpAny_comprehension_free (use:=none) rfl hs hclos hkind hnames (wpAny_mono h (fun xv s₁ h₁=>?_) fun _ _ e=>e)
  refine byP fun _ q9=>?_
  obtain ⟨ax, its, news, rfl, hh, F, N, S, hsz, R⟩:=h₁
  refine q9 ?_
  have hl:=S.tup F.keep N
  have hlt:ax < s₁.heap.objs.size:=by obtain ⟨_, e, _⟩:=hl; exact Heap.lt_size e
  refine wpAny_pyIter_tuple hl ?_
  have up:∀ b o, s₁.heap.get? b = some o → (s₁.heap.push { cls:=.type "tuple_iterator", data:=.fields #[.ref ax, .int 0 0] }).get? b = some o:=fun b o e=>Heap.get?_push_of_some _ e
  refine LCg.block_U (Walks.tuple hh s₁.heap.objs.size ax (Nat.ne_of_lt hlt) its) hsz (fun i h st=>by obtain ⟨o, e, _⟩:=st.1; exact ⟨o, e⟩) tup_st hcell hkind hx ⟨⟨_, Heap.get?_push_size _ rfl, rfl, rfl⟩, hl.push _⟩ (fun b hb=>?_)
    (F.keeps up) (N.grown up) (Nat.ne_of_lt F.ns.lt) (next_is_new F) (fun p hp=>Nat.ne_of_lt (Heap.lt_size (N p hp).1)) S (R _ ⟨_, rfl⟩) ?_
  · show b < (s₁.heap.push _).objs.size
    rw [Heap.size_push]
    rcases List.mem_cons.mp hb with rfl | hb
    · exact Nat.lt_succ_self _
    · rw [List.mem_singleton.mp hb]; exact Nat.lt_succ_of_lt hlt
  · intro D C h tk m' ys news' F' N' o1 hn hC₀ hD₀ hCL hDL hCD offC fin
    refine ⟨m', hn, fun h'' hs''=>fin D h'' tk (F'.change hs'' hCL hC₀) (fun p hp=>?_) o1⟩
    refine ⟨hs''.extBut _ _ ?_ (N' p hp).1, (N' p hp).2⟩
    rcases List.mem_cons.mp hp with rfl | hp
    · exact Ne.symm hCD
    · exact offC p hp
theorem tupSrc_at {prog:Program} {w:World} {A:Around} {h₀:Heap} {L:Addr} {m:Str → Option Value} {env:Env} {elt:Expr} {x:Str} {scope:Scope} {cl:List (Str × Addr)} {Fin:Shared → List Value → Led → Prop} {ax:Addr} {its:Array Value} {news:Led} {s₁:Shared}
    (hh:A.handled = none) (F:Fr h₀ L s₁.heap m) (N:News h₀ L s₁.heap news) (S:TupAt h₀ ax its news) (hsz:its.size ≤ sizeLine)
    (h:∀ g, LCg.CompRest prog w A h₀ L m env elt x scope cl { s₁ with heap:=g } (TupAt h₀ ax its) (fun i v=>its[i]? = some v) (Fin { s₁ with heap:=g }) its.size 0 [] news) :
    TupSrc prog w A h₀ L m env elt x scope cl Fin (.ref ax) s₁:=⟨ax, its, news, rfl, hh, F, N, S, hsz, fun _ ⟨g, e⟩=>e ▸ h g⟩
theorem dict_ex {K:Frag} {P:Params} {a:Addr} {es:Array DictEntry} {n:Nat} (hl:K.lookup a = some ⟨.type "dict", none, .dict es n, #[]⟩) (hk:KeysLit P es.toList):∃ es n, K.lookup a = some ⟨.type "dict", none, .dict es n, #[]⟩ ∧ KeysLit P es.toList:=⟨es, n, hl, hk⟩
theorem builtins_at (w:World):∃ es n, (K9 w.params).lookup 415 = some ⟨.type "dict", none, .dict es n, #[]⟩ ∧ KeysLit w.params es.toList:=by
  refine' dict_ex ?l ?k
  case l=>k_dflt k_is
  case k=>k_keys
theorem mixed_at (w:World):∃ es n, (K9 w.params).lookup 418 = some ⟨.type "dict", none, .dict es n, #[]⟩ ∧ KeysLit w.params es.toList:=by
  refine' dict_ex ?l ?k
  case l=>k_dflt k_is
  case k=>k_keys
theorem builtins_item {w:World} {A:Around} {E:Value → Shared → Prop} {s:Shared} {h₀:Heap} {L:Addr} {m:Str → Option Value} {value slice:PySem.Expr} {x:Str} {t:Tok} {v:Value} {Q:Value → Shared → Prop} (F:Fr h₀ L s.heap m) (X:(KK w).In h₀) (e:nsIn (KK w) 415 x = some (some v))
    (h:Q v { s with toks:=s.toks + 1 })
    (hs:subscripted slice false (.ref 415) (.str x t) = operate [.ref 415, .str x t] (getItem (.ref 415) (.str x t))) :
    wpAny (model PR w) A (subscriptTail value slice (.ref 415) (.str x t)) Q E s:=by
  refine byP fun _ q9=>?_
  obtain ⟨es, n, hl, hk⟩:=builtins_at w
  refine q9 ?_
  exact topItem_K F X hl hk e h hs
theorem mixed_method {w:World} {A:Around} {E:Value → Shared → Prop} {s:Shared} {h₀:Heap} {L:Addr} {m:Str → Option Value} {pl:Sem Bool} {Q:Value × List Value → Shared → Prop} (F:Fr h₀ L s.heap m) (X:(KK w).In h₀) (h:Q (.builtin "dict.get", [.ref 418]) s):wpAny (model PR w) A (getMethod (.ref 418) "get" pl) Q E s:=by
  refine byP fun _ q9=>?_
  obtain ⟨es, n, hl, hk⟩:=mixed_at w
  refine q9 ?_
  have hm:=mapOf_K (prog:=PR) (X.keeps F.keep) hl hk
  exact getMethod_builtin hm.typeIs PySem.F.plainAttrs_dict PySem.F.slot_dict_get PySem.F.type_dict_get hm.noDict h
theorem mixed_get {w:World} {A:Around} {E:Value → Shared → Prop} {s:Shared} {h₀:Heap} {L:Addr} {m:Str → Option Value} {x:Str} {t:Tok} {r:Option Value} {dflt:Value} {Q:Value → Shared → Prop} (F:Fr h₀ L s.heap m) (X:(KK w).In h₀) (e:nsIn (KK w) 418 x = some r)
    (h:Q (r.getD dflt) { s with toks:=s.toks + 1 }):wpAny (model PR w) A (call (.builtin "dict.get") [.ref 418, .str x t, dflt]) Q E s:=by
  refine byP fun _ q9=>?_
  obtain ⟨es, n, hl, hk⟩:=mixed_at w
  refine q9 ?_
  have hm:=mapOf_K (prog:=PR) (X.keeps F.keep) hl hk
  exact call_meetsIn PySem.F.slot_dict_get hm.typeIs PySem.F.entry_dict_get (PySem.F.args_dict_get_3 _ _ _) (meets_dict_get_default (strKind PR w) 418 (strKind_is _ _ _ _) (by decide +kernel) dflt) ⟨_, hm, by rw [find_K hl e]; exact h⟩
theorem Put.idl {es es':List DictEntry} {x:Str} {v u:Value} (P:Put es es' x v) (hx:x ≠ ofString "ident") (hu:getL x es = some (some u)) (h:IdL es):IdL es' :=
  ⟨by rw [P.old _ hu]; exact h.1, h.2.imp (fun k=>(P.other _ hx).trans k) (fun ⟨i, t, k⟩=>⟨i, t, (P.other _ hx).trans k⟩)⟩
theorem UpdF.upd {d:Addr} {o o':Obj} {l:Led} {g:Obj → Led} (U:UpdF d o l g):Upd d o o' l (g o'):=by
  induction U with
  | head h=>exact .head h
  | tail h _ ih=>exact .tail h ih
theorem set_fld {w:World} {A:Around} {E:Value → Shared → Prop} {s:Shared} {h₀:Heap} {L x C dx:Addr} {m:Str → Option Value} {news:Led} {es:List DictEntry} {n:Nat} {name:Str} {v:Value} {K:Frag} {g:Obj → Led} {Q:Unit → Shared → Prop}
    (F:Fr h₀ L s.heap m) (X₀:K.In h₀) (N:News h₀ L s.heap news) (I:InstAt s.heap x (instObj C dx) C (some (dictOf es n)))
    (hs:findIn K (.ref C) "__setattr__" = some (some (.builtin "object.__setattr__"))) (hp:plainOver K C = true) (ht:takerIn K C name = some none) (hh:hasDictIn K C = true) (hl:(getL name es).isSome = true)
    (U:UpdF dx (dictOf es n) news g) (hz:es.length ≤ 900) (h:∀ h' es' n', Fr h₀ L h' m → News h₀ L h' (g (dictOf es' n')) → Put es es' name v → Q () { s with heap:=h', toks:=s.toks + 2 }) :
    wpAny (model PR w) A (setAttr (.ref x) name v) Q E s :=
  set_dict F X₀ N I rfl hs hp ht hh hl rfl (UpdF.upd U) (Nat.le_trans (len_put _ _ _ _ _) (by lia)) fun h' F' N'=>h h' _ _ F' N' ⟨getL_put_same _ _ _ _ _, fun y hy=>getL_put_ne hy _ _ _ _, len_put _ _ _ _ _, fun _ h=>len_put_old h⟩
theorem ModOk.of {kvs:List (Str × Value)} {N:Int} {b d:Addr} {x:Str} {l:Led} {es:List DictEntry} {n:Nat} (h1:(b, instObj 228 d) ∈ l) (h2:(d, dictOf es n) ∈ l) (h3:∃ k t, has "number" es (.int k t) ∧ k ≤ N) (h4:∃ t, has "native" es (.str x t)) (h5:has "attached" es .none) (h6:ParOk kvs x es) (h7:hasn "is_own" es) (h8:IdL es):ModOk kvs N b x l:=by
  refine byP fun _ q9=>?_
  obtain ⟨k, t, h3, h9⟩:=h3
  obtain ⟨t', h4⟩:=h4
  refine q9 ?_
  exact ⟨d, es, n, k, t, t', h1, h2, h3, h4, h5, h6, h7, h8, h9⟩
theorem any_find {f:Str}:∀ {es:List DictEntry}, getL f es = some none → es.any (·.key.isStr f) = false
  | [], _=>rfl
  | e :: r, h=>by
    unfold getL at h
    rw [List.find?_cons] at h
    cases hk:e.key.isStr f with
    | true=>rw [hk] at h; simp at h
    | false =>
      rw [hk] at h
      dsimp only at h
      rw [List.any_cons, hk, Bool.false_or]
      refine any_find ?_
      unfold getL
      split
      · rename_i e' he'; rw [he'] at h; exact h
      · rename_i he'
        rw [he'] at h
        rw [List.any_cons] at h
        cases hr:r.any (·.refKey) with
        | true=>rw [hr, Bool.or_true] at h; simp at h
        | false=>rfl
structure Fl (es:List DictEntry) (k:Nat) (l:Fm):Prop where
  get:∀ y, getL y es = some (l.lookup y)
  len:es.length ≤ k
theorem Fl.nil:Fl [] 0 []:=⟨fun _=>rfl, Nat.le_refl 0⟩
section
variable {w mx} {c:Amb w mx} {m:Fm} {n:Led} {R:Value → Led → Prop} {K:Fm → Led → Prop} {rest:List Stmt}
structure Cls (w:World) (C:Addr):Prop where
  a:findIn (K9 w.params) (.ref C) "__setattr__" = some (some (.builtin "object.__setattr__"))
  p:plainOver (K9 w.params) C = true
  d:hasDictIn (K9 w.params) C = true
theorem Tv.init {x C d:Addr} {f:Str} {v:Value} {es:List DictEntry} {k:Nat} {l:Fm} {P:Unit → Led → Prop} (h1:(x, instObj C d) ∈ n) (hC:Cls w C) (hf:takerIn (K9 w.params) C f = some none) (hF:Fl es k l) (hl:l.lookup f = none) (hz:Nat.ble k 99 = true) (off:∀ p ∈ n, p.1 ≠ d)
    (h:∀ es', Fl es' (k + 1) ((f, v) :: l) → P () ((d, dictOf es' (k + 1)) :: n)):Tv c m ((d, dictOf es k) :: n) (setAttr (.ref x) f v) P:=fun Q E h₁ tk F N ret=>by
  have hz:=Nat.le_of_ble_eq_true hz
  have hg:getL f es = some none:=(hF.get f).trans (congrArg some hl)
  have hp:putN f es k = k + 1:=by unfold putN; rw [any_find hg]; rfl
  have h0:=hF.len
  refine set_dict F c.X N (InstAt.of_news N (iC h1) iH) rfl hC.a hC.p hf hC.d (by rw [hg]; rfl) rfl (.head off) (Nat.le_trans (len_put _ _ _ _ _) (by lia)) fun h' F' N'=>ret _ _ _ _ F' (hp ▸ N') (h _ ⟨fun y=>?_, Nat.le_trans (len_put _ _ _ _ _) (Nat.succ_le_succ h0)⟩)
  by_cases e:f = y
  · subst e
    rw [getL_put_same]; simp
  · have:(y == f) = false:=by simpa using fun q=>e q.symm
    rw [getL_put_ne e, hF.get, List.lookup_cons, this]
theorem Ts.init {o e:Expr} {x C d:Addr} {f:Str} {v:Value} {es:List DictEntry} {k:Nat} {l:Fm} {pos pos':Pos} (hF:Fl es k l) (he:Ev c m ((d, dictOf es k) :: n) e v) (ho:Ev c m ((d, dictOf es k) :: n) o (.ref x)) (h1:(x, instObj C d) ∈ n) (hC:Cls w C) (hf:takerIn (K9 w.params) C f = some none) (off:∀ p ∈ n, p.1 ≠ d)
    (h:∀ es', Fl es' (k + 1) ((f, v) :: l) → Ts c m ((d, dictOf es' (k + 1)) :: n) rest R K) (hl:l.lookup f = none) (hz:Nat.ble k 99 = true) (hs:swapsWith e (some (.Attribute o f pos')) pos.line c.env = pure false):Ts c m ((d, dictOf es k) :: n) (.Assign [.Attribute o f pos'] e pos :: rest) R K :=
  Ts.setattr (he _ (ho _ (Tv.init h1 hC hf hF hl hz off h))) hs
theorem Tv.dict0 {pos:Pos} {P:Value → Led → Prop} (h:∀ D o, (∀ p ∈ n, p.1 < D) → (D == sysModules) = false → o.IsDictOf (strKind PR w) [] → P (.ref D) ((D, o) :: n)):Tv c m n (eval (.Dict [] [] pos) c.env) P:=fun Q E h₁ tk F N ret =>
  newDict_K F N (Top.nolimit c.T) fun d h' o F' N' l1 lo hs _ _ _=>ret _ _ _ _ F' N' (h d o l1 lo hs)
theorem Ts.initN {o e:Expr} {x C d:Addr} {f:Str} {es:List DictEntry} {k:Nat} {l:Fm} {pos pos':Pos} {I:Addr → Obj → Prop} (he:∀ (n:Led) (P:Value → Led → Prop), (∀ D o, (∀ p ∈ n, p.1 < D) → I D o → P (.ref D) ((D, o) :: n)) → Tv c m n (eval e c.env) P) (hF:Fl es k l) (ho:∀ n, Ev c m n o (.ref x)) (h1:(x, instObj C d) ∈ n) (hC:Cls w C) (hf:takerIn (K9 w.params) C f = some none) (off:∀ p ∈ n, p.1 ≠ d)
    (h:∀ es' n' D oD, I D oD → (∀ p ∈ n, p.1 < D) → Fl es' (k + 1) ((f, .ref D) :: l) → (∀ p ∈ n, p ∈ n') → (x, instObj C d) ∈ n' → (∀ p ∈ n', p.1 ≠ d) → (D, oD) ∈ n' → Ts c m ((d, dictOf es' (k + 1)) :: n') rest R K) (hl:l.lookup f = none) (hz:Nat.ble k 99 = true) (hs:swapsWith e (some (.Attribute o f pos')) pos.line c.env = pure false):Ts c m ((d, dictOf es k) :: n) (.Assign [.Attribute o f pos'] e pos :: rest) R K :=
  Ts.setattr (he _ _ fun D oD hD hI=>ho _ _ (Tv.re (k:=(d, dictOf es k) :: (D, oD) :: n) (fun p hp=>by
    rcases List.mem_cons.mp hp with e | hp
    · exact e ▸ iC iH
    · exact (List.mem_cons.mp hp).elim (fun e=>e ▸ iH) fun hp=>iC (iC hp))
    (by
      have off2:∀ p ∈ (D, oD) :: n, p.1 ≠ d:=all_more (Ne.symm (Nat.ne_of_lt (hD _ iH))) off
      exact Tv.init (iC h1) hC hf hF hl hz off2 fun es' hF'=>h es' ((D, oD) :: n) D oD hI (fun p hp=>hD p (iC hp)) hF' (fun p hp=>iC hp) (iC h1) off2 iH))) hs
noncomputable def Dict0 (w:World) (D:Addr) (o:Obj):Prop:=(D == sysModules) = false ∧ o.IsDictOf (strKind PR w) []
theorem Tv.newD {pos:Pos} (n:Led) (P:Value → Led → Prop) (h:∀ D o, (∀ p ∈ n, p.1 < D) → Dict0 w D o → P (.ref D) ((D, o) :: n)):Tv c m n (eval (.Dict [] [] pos) c.env) P:=Tv.dict0 fun D o l1 lo hd=>h D o l1 ⟨lo, hd⟩
noncomputable def List0 (D:Addr) (o:Obj):Prop:=o = listOf [].toArray 0
theorem Tv.newL {pos:Pos} (n:Led) (P:Value → Led → Prop) (h:∀ D o, (∀ p ∈ n, p.1 < D) → List0 D o → P (.ref D) ((D, o) :: n)):Tv c m n (eval (.List [] pos) c.env) P:=Tv.listx (Tv.args0 (Tv.list (fun D l1=>h D _ l1 rfl) (Nat.zero_le _)))
theorem Ev.name {x:Str} {pos:Pos} {v:Value} (hv:m.lookup x = some v) (hx:Kd c x .local) (hd:(x == ("__debug__":Str)) = false):Ev c m n (.Name x pos) v:=fun P h=>Tv.loc hv h hx hd
end
structure ModF (es:List DictEntry) (i:Int):Prop where
  number:∃ t, has "number" es (.int i t)
  native:has "native" es .none
  attached:has "attached" es .none
  parent:has "parent" es .none
  owner:has "owner" es .none
  mixed:∃ v, has "mixed" es v
  ident:has "ident" es .none
  own:hasn "is_own" es
  len:es.length ≤ 17
structure NewF (es:List DictEntry) (i:Int):Prop where
  number:∃ t, has "number" es (.int i t)
  ident:has "ident" es .none
  frozen:∃ v, has "frozen" es v
  len:es.length ≤ 9
structure Tk6 (w:World) (C:Addr):Prop where
  a:Cls w C
  t1:takerIn (K9 w.params) C (ofString "number") = some none
  t2:takerIn (K9 w.params) C (ofString "owner") = some none
  t3:takerIn (K9 w.params) C (ofString "fields") = some none
  t4:takerIn (K9 w.params) C (ofString "own") = some none
  t5:takerIn (K9 w.params) C (ofString "frozen") = some none
  t6:takerIn (K9 w.params) C (ofString "ident") = some none
noncomputable abbrev l6 (v ov D:Value):Fm:=[(ofString "ident", .none), (ofString "frozen", .bool false), (ofString "own", .none), (ofString "fields", D), (ofString "owner", ov), (ofString "number", v)]
theorem init_six {w mx} {c:Amb w mx} {m:Fm} {R:Value → Led → Prop} {K:Fm → Led → Prop} {C x d:Addr} {v ov:Value} {n:Led} {a0 b0 c0 q0 a1 b1 c1 q1 a2 b2 c2 q2 a3 b3 c3 q3 a4 b4 c4 q4 a5 b5 c5 q5:Pos} {k3 k4 k5:Nat} (T:Tk6 w C) (h1:(x, instObj C d) ∈ n) (off:∀ p ∈ n, p.1 ≠ d)
    (hx:∀ n p, Ev c m n (.Name (ofString "self") p) (.ref x)) (hv:∀ n, Ev c m n (.Name (ofString "number") q0) v) (ho:∀ n, Ev c m n (.Name (ofString "owner") q1) ov)
    (h:∀ es n' D oD, Fl es 6 (l6 v ov (.ref D)) → (∀ p ∈ n, p ∈ n') → (x, instObj C d) ∈ n' → (∀ p ∈ n', p.1 ≠ d) → (∀ p ∈ n, p.1 < D) → (D, oD) ∈ n' → K m ((d, dictOf es 6) :: n')):Ts c m ((d, dictOf [] 0) :: n) [.Assign [.Attribute (.Name (ofString "self") a0) (ofString "number") b0] (.Name (ofString "number") q0) c0, .Assign [.Attribute (.Name (ofString "self") a1) (ofString "owner") b1] (.Name (ofString "owner") q1) c1, .Assign [.Attribute (.Name (ofString "self") a2) (ofString "fields") b2] (.Dict [] [] q2) c2, .Assign [.Attribute (.Name (ofString "self") a3) (ofString "own") b3] (.Constant .none k3 q3) c3, .Assign [.Attribute (.Name (ofString "self") a4) (ofString "frozen") b4] (.Constant (.bool false) k4 q4) c4, .Assign [.Attribute (.Name (ofString "self") a5) (ofString "ident") b5] (.Constant .none k5 q5) c5] R K :=
  Ts.init Fl.nil (hv _) (hx _ _) h1 T.a T.t1 off (fun es1 F1=>Ts.init F1 (ho _) (hx _ _) h1 T.a T.t2 off (fun es2 F2=>Ts.initN Tv.newD F2 (fun _=>hx _ _) h1 T.a T.t3 off (fun es3 n' D oD hI hD F3 s3 h2 off3 hm3 =>
    Ts.init F3 Ev.none (hx _ _) h2 T.a T.t4 off3 (fun es4 F4=>Ts.init F4 Ev.bool (hx _ _) h2 T.a T.t5 off3 (fun es5 F5=>Ts.init F5 Ev.none (hx _ _) h2 T.a T.t6 off3 (fun es6 F6=>Ts.nil (h es6 n' D oD F6 s3 h2 off3 hD hm3)) rfl rfl rfl) rfl rfl rfl) rfl rfl rfl) rfl rfl rfl) rfl rfl rfl) rfl rfl rfl
theorem thing_init {w mx} {C x d:Addr} {v ov:Value} {n:Led} (T:Tk6 w C) (h1:(x, instObj C d) ∈ n) (off:∀ p ∈ n, p.1 ≠ d):Does w mx 37 1 [.ref x, v, ov] ((d, dictOf [] 0) :: n) (fun r n' tl=>∃ es D oD, n' = (d, dictOf es 6) :: n ∧ tl = [(D, oD)] ∧ Fl es 6 (l6 v ov (.ref D))):=by
  refine does_enter (by k_is) (by k_is) (by first | exact fun s X=>BindsTo.of_eq rfl | exact fun s X=>binds_K X rfl (by k_is) rfl rfl rfl) (by exact rfl) (by exact rfl) (by exact rfl) (by exact rfl) (by exact rfl) (by first | decide | lia) (by exact rfl) fun c m hm hcp hcs hcl hr=>?_
  exact init_six T h1 off (fun n p=>by exact Ev.loc hm rfl Kx rfl) (fun n=>by exact Ev.loc hm rfl Kx rfl) (fun n=>by exact Ev.loc hm rfl Kx rfl) fun es6 n' D oD F6 s3 h2 off3 hD hm3 =>
    ⟨(d, dictOf es6 6) :: n, [(D, oD)], all_app (fun p hp=>(List.mem_cons.mp hp).elim (fun e=>e ▸ iH) fun k=>iC (s3 p k)) (all_one (iC hm3)), Gt.cons (Ne1.cons (Ne.symm (off3 _ hm3)) fun q hq=>Nat.ne_of_lt (hD q hq)) Gt.nil, es6, D, oD, rfl, rfl, F6⟩
theorem gm_thing {w mx} {c:Amb w mx} {m:Fm} {n:Led} {pl:Sem Bool} {P:Value × List Value → Led → Prop} (h:P (.ref 37, []) n):Tv c m n (getMethod (.ref 40) (ofString "__init__") pl) P:=by
  refine' Tv.leaf ?_
  intro Q9 E9 h9 tk9 F9 N9 X9 T9 ret9
  walk1
  walk1
  exact ret9 _ _ _ _ F9 N9 h
theorem Ts.super {w mx} {c:Amb w mx} {m:Fm} {n:Led} {R:Value → Led → Prop} {K:Fm → Led → Prop} {rest:List Stmt} {C x d:Addr} {v ov:Value} {e0 e1 e2 e3:PySem.Expr} {p2 p3 p4:Pos} {dn:Nat} {pl:Sem Bool} (T:Tk6 w C) (h1:(x, instObj C d) ∈ n) (off:∀ p ∈ n, p.1 ≠ d)
    (hT:∀ n, Ev c m n e0 (.ref 40)) (he:∀ n, Evs c m n [e1, e2, e3] [.ref x, v, ov]) (hr:c.Room dn)
    (h:∀ es n' D, Fl es 6 (l6 v ov D) → (∀ p ∈ n, p ∈ n') → (x, instObj C d) ∈ n' → (∀ p ∈ n', p.1 ≠ d) → Ts c m ((d, dictOf es 6) :: n') rest R K) (hd:1 < dn) (hi:c.cp = none)
    (hm:eval (.Call (.Attribute e0 (ofString "__init__") p2) [e1, e2, e3] [] p3) c.env = (do let ov ← eval e0 c.env; standAt (Pos.atName p2); let x ← holding [ov] (getMethod ov (ofString "__init__") pl); match x with | (g, first)=>callWith p3 g first (backTo p3 (starEach [e1, e2, e3] c.env)) []))
    (hs1:starEach [e1, e2, e3] c.env = (false, eval e1 c.env) :: starEach [e2, e3] c.env) (ha:((backTo p3 (starEach [e2, e3] c.env)).any fun x=>x.1) = false) (hs:swapsWith (.Call (.Attribute e0 (ofString "__init__") p2) [e1, e2, e3] [] p3) none p4.line c.env = pure false) :
    Ts c m ((d, dictOf [] 0) :: n) (.Expr (.Call (.Attribute e0 (ofString "__init__") p2) [e1, e2, e3] [] p3) p4 :: rest) R K:=by
  refine Ts.expr (Tv.meth (hT _ _ (gm_thing ?_)) hm) hi hs
  refine Tv.with1 (by k_is) (he _ _ _ ?_) hs1 ha
  refine Tv.does (thing_init T h1 off) hr (fun r n' tl g z9=>?_) hd
  refine byP fun _ q9=>?_
  obtain ⟨es, D, oD, e1, e2, hF⟩:=z9
  refine q9 ?_
  subst e1
  subst e2
  exact h es (n ++ [(D, oD)]) _ hF (fun p hp=>iL hp) (iL h1) (fun p hp=>(List.mem_append.mp hp).elim (off p) fun k=>by rw [List.mem_singleton.mp k]; exact Ne.symm (g (d, dictOf [] 0) iH (D, oD) iH))
theorem new_owes {x d:Addr} {o1 o2:Obj} {l n:Led} {R:Value → Led → Led → Prop} {r:Value} (h1:(x, o1) ∈ n) (h2:(d, o2) ∈ n) (s:∀ p ∈ l, p ∈ n) (l1:∀ p ∈ l, p.1 < d) (l2:@LT.lt Nat _ d x) (hR:R r l [(x, o1), (d, o2)]):Owes l R r n :=
  ⟨l, [(x, o1), (d, o2)], fun p hp=>by
    rcases List.mem_append.mp hp with k | k
    · exact s p k
    · rcases List.mem_cons.mp k with rfl | k
      · exact h1
      · rw [List.mem_singleton.mp k]; exact h2, Gt.cons (fun q hq=>Nat.ne_of_lt (Nat.lt_trans (l1 q hq) l2)) (Gt.cons (fun q hq=>Nat.ne_of_lt (l1 q hq)) Gt.nil), hR⟩
theorem new_off {x d C:Addr} {l:Led} (l1:∀ p ∈ l, p.1 < d) (l2:@LT.lt Nat _ d x):∀ p ∈ (x, instObj C d) :: l, p.1 ≠ d:=all_more (Ne.symm (Nat.ne_of_lt l2)) fun p hp=>Nat.ne_of_lt (l1 p hp)
theorem new_turn {p q:Addr × Obj} {l:Led}:∀ r ∈ q :: p :: l, r ∈ p :: q :: l:=fun r hr=>by
  rcases List.mem_cons.mp hr with rfl | hr
  · exact iC iH
  · rcases List.mem_cons.mp hr with rfl | hr
    · exact iH
    · exact iC (iC hr)
theorem mod_new {w mx} {l:Led} {x:Str} {tx:Tok} {b:Bool} {i:Int} {ti:Tok}:Does w mx 228 3 [.int i ti, .none, .str x tx, .bool b] l
    (fun r n' tl=>∃ c d es, r = .ref c ∧ n' = l ∧ (d:Nat) < c ∧ tl = [(c, instObj 228 d), (d, dictOf es 17)] ∧ ModF es i):=by
  have hC:Cls w 228:=⟨by k_is, by k_is, by k_is⟩
  have hT:Tk6 w 228:=⟨hC, by k_is, by k_is, by k_is, by k_is, by k_is, by k_is⟩
  refine cls_enter (binds:=fun x'=>[(ofString "self", Value.ref x'), (ofString "number", Value.int i ti), (ofString "owner", Value.none), (ofString "name", Value.str x tx), (ofString "is_class", Value.bool b), (ofString "parent", Value.none), (ofString "outer", Value.none)]) (by k_is) (by k_is) (by k_is) (by k_is) (by k_is) (by first | exact fun x s X=>BindsTo.of_eq rfl | exact fun x s X=>binds_K X rfl (by k_is) rfl rfl rfl) (by exact fun x=>rfl) (by exact rfl) (by exact rfl) (by exact rfl) (by exact rfl) (by decide) (by exact fun x=>rfl) fun c m x' d hm hcp hcs hcl hr l1 l2=>?_
  refine Ts.re new_turn ?_
  refine Ts.super ‹_› iH (new_off ‹_› ‹_›) (by intro n; exact Ev.glob (by k_is) Kx rfl) (by intro n; exact Evs.cons (by exact Ev.loc hm rfl Kx rfl) (Evs.cons (by exact Ev.loc hm rfl Kx rfl) (Evs.cons (by exact Ev.loc hm rfl Kx rfl) Evs.nil rfl) rfl) rfl) ‹_› (fun es6 n6 D6 F6 s6 h6 off6=>?_) (by decide) ‹_› (by exact rfl) (by exact rfl) (by exact rfl) (by exact rfl)
  refine Ts.init ‹_› (by exact Ev.loc hm rfl Kx rfl) (by exact Ev.loc hm rfl Kx rfl) ‹_› ‹_› (by first | assumption | k_is) ‹_› (fun es7 F7=>?_) (by exact rfl) (by exact rfl) (by exact rfl)
  refine Ts.init ‹_› (by exact Ev.loc hm rfl Kx rfl) (by exact Ev.loc hm rfl Kx rfl) ‹_› ‹_› (by first | assumption | k_is) ‹_› (fun es8 F8=>?_) (by exact rfl) (by exact rfl) (by exact rfl)
  refine Ts.init ‹_› (by exact Ev.loc hm rfl Kx rfl) (by exact Ev.loc hm rfl Kx rfl) ‹_› ‹_› (by first | assumption | k_is) ‹_› (fun es9 F9=>?_) (by exact rfl) (by exact rfl) (by exact rfl)
  refine Ts.init ‹_› (by exact Ev.loc hm rfl Kx rfl) (by exact Ev.loc hm rfl Kx rfl) ‹_› ‹_› (by first | assumption | k_is) ‹_› (fun es10 F10=>?_) (by exact rfl) (by exact rfl) (by exact rfl)
  refine Ts.initN (by first | exact Tv.newD | exact Tv.newL) ‹_› (by intro n; exact Ev.loc hm rfl Kx rfl) ‹_› ‹_› (by first | assumption | k_is) ‹_› (fun es11 n11 D11 o11 _ _ F11 s11 h11 off11 _=>?_) (by exact rfl) (by exact rfl) (by exact rfl)
  refine Ts.initN (by first | exact Tv.newD | exact Tv.newL) ‹_› (by intro n; exact Ev.loc hm rfl Kx rfl) ‹_› ‹_› (by first | assumption | k_is) ‹_› (fun es12 n12 D12 o12 _ _ F12 s12 h12 off12 _=>?_) (by exact rfl) (by exact rfl) (by exact rfl)
  refine Ts.initN (by first | exact Tv.newD | exact Tv.newL) ‹_› (by intro n; exact Ev.loc hm rfl Kx rfl) ‹_› ‹_› (by first | assumption | k_is) ‹_› (fun es13 n13 D13 o13 _ _ F13 s13 h13 off13 _=>?_) (by exact rfl) (by exact rfl) (by exact rfl)
  refine Ts.initN (by first | exact Tv.newD | exact Tv.newL) ‹_› (by intro n; exact Ev.loc hm rfl Kx rfl) ‹_› ‹_› (by first | assumption | k_is) ‹_› (fun es14 n14 D14 o14 _ _ F14 s14 h14 off14 _=>?_) (by exact rfl) (by exact rfl) (by exact rfl)
  refine Ts.init ‹_› Ev.none (by exact Ev.loc hm rfl Kx rfl) ‹_› ‹_› (by first | assumption | k_is) ‹_› (fun es15 F15=>?_) (by exact rfl) (by exact rfl) (by exact rfl)
  refine Ts.init ‹_› Ev.none (by exact Ev.loc hm rfl Kx rfl) ‹_› ‹_› (by first | assumption | k_is) ‹_› (fun es16 F16=>?_) (by exact rfl) (by exact rfl) (by exact rfl)
  refine Ts.init ‹_› Ev.none (by exact Ev.loc hm rfl Kx rfl) ‹_› ‹_› (by first | assumption | k_is) ‹_› (fun es17 F17=>?_) (by exact rfl) (by exact rfl) (by exact rfl)
  exact Ts.nil (new_owes (iC h14) iH (fun p hp=>iC (s14 p (s13 p (s12 p (s11 p (s6 p (iC hp))))))) l1 l2
    ⟨x', d, es17, rfl, rfl, l2, rfl, ⟨⟨_, F17.get _⟩, F17.get _, F17.get _, F17.get _, F17.get _, ⟨_, F17.get _⟩, F17.get _, F17.get _, F17.len⟩⟩)
theorem thing_new {w mx} {l:Led} {i:Int} {ti:Tok} {o:Addr}:Does w mx 40 3 [.int i ti, .ref o] l
    (fun r n' tl=>∃ c d es, r = .ref c ∧ n' = l ∧ (d:Nat) < c ∧ tl = [(c, instObj 40 d), (d, dictOf es 6)] ∧ NewF es i):=by
  have hC:Cls w 40:=⟨by k_is, by k_is, by k_is⟩
  have hT:Tk6 w 40:=⟨hC, by k_is, by k_is, by k_is, by k_is, by k_is, by k_is⟩
  refine cls_enter (binds:=fun x'=>[(ofString "self", Value.ref x'), (ofString "number", Value.int i ti), (ofString "owner", Value.ref o)]) (by k_is) (by k_is) (by k_is) (by k_is) (by k_is) (by first | exact fun x s X=>BindsTo.of_eq rfl | exact fun x s X=>binds_K X rfl (by k_is) rfl rfl rfl) (by exact fun x=>rfl) (by exact rfl) (by exact rfl) (by exact rfl) (by exact rfl) (by decide) (by exact fun x=>rfl) fun c m x' d hm hcp hcs hcl hr l1 l2=>?_
  refine Ts.re new_turn ?_
  exact init_six hT iH (new_off l1 l2) (fun n p=>by exact Ev.loc hm rfl Kx rfl) (fun n=>by exact Ev.loc hm rfl Kx rfl) (fun n=>by exact Ev.loc hm rfl Kx rfl) fun es6 n' D oD F6 s3 h2 off3 hD hm3 =>
    new_owes (iC h2) iH (fun p hp=>iC (s3 p (iC hp))) l1 l2 ⟨x', d, es6, rfl, rfl, l2, rfl, ⟨⟨_, F6.get _⟩, F6.get _, ⟨_, F6.get _⟩, Nat.le_trans F6.len (Nat.le_of_ble_eq_true rfl)⟩⟩
theorem text_new {w mx} {l:Led} {i:Int} {ti:Tok} {o:Addr} {x:Str} {tx:Tok}:Does w mx 62 3 [.int i ti, .ref o, .str x tx] l
    (fun r n' tl=>∃ c d es, r = .ref c ∧ n' = l ∧ (d:Nat) < c ∧ tl = [(c, instObj 62 d), (d, dictOf es 7)] ∧ NewF es i ∧ has "text" es (.str x tx)):=by
  have hC:Cls w 62:=⟨by k_is, by k_is, by k_is⟩
  have hT:Tk6 w 62:=⟨hC, by k_is, by k_is, by k_is, by k_is, by k_is, by k_is⟩
  refine cls_enter (binds:=fun x'=>[(ofString "self", Value.ref x'), (ofString "number", Value.int i ti), (ofString "owner", Value.ref o), (ofString "text", Value.str x tx)]) (by k_is) (by k_is) (by k_is) (by k_is) (by k_is) (by first | exact fun x s X=>BindsTo.of_eq rfl | exact fun x s X=>binds_K X rfl (by k_is) rfl rfl rfl) (by exact fun x=>rfl) (by exact rfl) (by exact rfl) (by exact rfl) (by exact rfl) (by decide) (by exact fun x=>rfl) fun c m x' d hm hcp hcs hcl hr l1 l2=>?_
  refine Ts.re new_turn ?_
  refine Ts.super ‹_› iH (new_off ‹_› ‹_›) (by intro n; exact Ev.glob (by k_is) Kx rfl) (by intro n; exact Evs.cons (by exact Ev.loc hm rfl Kx rfl) (Evs.cons (by exact Ev.loc hm rfl Kx rfl) (Evs.cons (by exact Ev.loc hm rfl Kx rfl) Evs.nil rfl) rfl) rfl) ‹_› (fun es6 n6 D6 F6 s6 h6 off6=>?_) (by decide) ‹_› (by exact rfl) (by exact rfl) (by exact rfl) (by exact rfl)
  refine Ts.init ‹_› (by exact Ev.loc hm rfl Kx rfl) (by exact Ev.loc hm rfl Kx rfl) ‹_› ‹_› (by first | assumption | k_is) ‹_› (fun es7 F7=>?_) (by exact rfl) (by exact rfl) (by exact rfl)
  exact Ts.nil (new_owes (iC h6) iH (fun p hp=>iC (s6 p (iC hp))) l1 l2 ⟨x', d, es7, rfl, rfl, l2, rfl, ⟨⟨_, F7.get _⟩, F7.get _, ⟨_, F7.get _⟩, Nat.le_trans F7.len (Nat.le_of_ble_eq_true rfl)⟩, F7.get _⟩)
theorem Ev.exf {w mx} {c:Amb w mx} {m:Fm} {n:Led} {test a b:PySem.Expr} {pos:Pos} {v:Value} (ht:Te c m n test false) (h:Ev c m n b v):Ev c m n (.IfExp test a b pos) v:=fun P k=>Tv.exf ht (h P k)
theorem list_new {w mx} {l:Led} {i:Int} {ti:Tok} {o:Addr} {b:Addr}:Does w mx 82 3 [.int i ti, .ref o, .ref b] l
    (fun r n' tl=>∃ c d es, r = .ref c ∧ n' = l ∧ (d:Nat) < c ∧ tl = [(c, instObj 82 d), (d, dictOf es 7)] ∧ NewF es i ∧ has "items" es (.ref b)):=by
  have hC:Cls w 82:=⟨by k_is, by k_is, by k_is⟩
  have hT:Tk6 w 82:=⟨hC, by k_is, by k_is, by k_is, by k_is, by k_is, by k_is⟩
  refine cls_enter (binds:=fun x'=>[(ofString "self", Value.ref x'), (ofString "number", Value.int i ti), (ofString "owner", Value.ref o), (ofString "items", Value.ref b)]) (by k_is) (by k_is) (by k_is) (by k_is) (by k_is) (by first | exact fun x s X=>BindsTo.of_eq rfl | exact fun x s X=>binds_K X rfl (by k_is) rfl rfl rfl) (by exact fun x=>rfl) (by exact rfl) (by exact rfl) (by exact rfl) (by exact rfl) (by decide) (by exact fun x=>rfl) fun c m x' d hm hcp hcs hcl hr l1 l2=>?_
  refine Ts.re new_turn ?_
  refine Ts.super ‹_› iH (new_off ‹_› ‹_›) (by intro n; exact Ev.glob (by k_is) Kx rfl) (by intro n; exact Evs.cons (by exact Ev.loc hm rfl Kx rfl) (Evs.cons (by exact Ev.loc hm rfl Kx rfl) (Evs.cons (by exact Ev.loc hm rfl Kx rfl) Evs.nil rfl) rfl) rfl) ‹_› (fun es6 n6 D6 F6 s6 h6 off6=>?_) (by decide) ‹_› (by exact rfl) (by exact rfl) (by exact rfl) (by exact rfl)
  refine Ts.init F6 (Ev.exf (isNr (by exact Ev.loc hm rfl Kx rfl)) (by exact Ev.loc hm rfl Kx rfl)) (by exact Ev.loc hm rfl Kx rfl) h6 hC (by k_is) off6 (fun es7 F7=>?_) rfl rfl rfl
  exact Ts.nil (new_owes (iC h6) iH (fun p hp=>iC (s6 p (iC hp))) l1 l2 ⟨x', d, es7, rfl, rfl, l2, rfl, ⟨⟨_, F7.get _⟩, F7.get _, ⟨_, F7.get _⟩, Nat.le_trans F7.len (Nat.le_of_ble_eq_true rfl)⟩, F7.get _⟩)
theorem range_new {w mx} {l:Led} {i:Int} {ti:Tok} {o:Addr} {y:Int} {ty:Tok} {b:Bool} {z:Value}:Does w mx 140 3 [.int i ti, .ref o, .int y ty, z, .bool b] l
    (fun r n' tl=>∃ c d es, r = .ref c ∧ n' = l ∧ (d:Nat) < c ∧ tl = [(c, instObj 140 d), (d, dictOf es 9)] ∧ NewF es i ∧ has "first" es (.int y ty) ∧ has "last" es z ∧ has "open" es (.bool b)):=by
  have hC:Cls w 140:=⟨by k_is, by k_is, by k_is⟩
  have hT:Tk6 w 140:=⟨hC, by k_is, by k_is, by k_is, by k_is, by k_is, by k_is⟩
  refine cls_enter (binds:=fun x'=>[(ofString "self", Value.ref x'), (ofString "number", Value.int i ti), (ofString "owner", Value.ref o), (ofString "first", Value.int y ty), (ofString "last", z), (ofString "is_open", Value.bool b)]) (by k_is) (by k_is) (by k_is) (by k_is) (by k_is) (by first | exact fun x s X=>BindsTo.of_eq rfl | exact fun x s X=>binds_K X rfl (by k_is) rfl rfl rfl) (by exact fun x=>rfl) (by exact rfl) (by exact rfl) (by exact rfl) (by exact rfl) (by decide) (by exact fun x=>rfl) fun c m x' d hm hcp hcs hcl hr l1 l2=>?_
  refine Ts.re new_turn ?_
  refine Ts.super ‹_› iH (new_off ‹_› ‹_›) (by intro n; exact Ev.glob (by k_is) Kx rfl) (by intro n; exact Evs.cons (by exact Ev.loc hm rfl Kx rfl) (Evs.cons (by exact Ev.loc hm rfl Kx rfl) (Evs.cons (by exact Ev.loc hm rfl Kx rfl) Evs.nil rfl) rfl) rfl) ‹_› (fun es6 n6 D6 F6 s6 h6 off6=>?_) (by decide) ‹_› (by exact rfl) (by exact rfl) (by exact rfl) (by exact rfl)
  refine Ts.init ‹_› (by exact Ev.loc hm rfl Kx rfl) (by exact Ev.loc hm rfl Kx rfl) ‹_› ‹_› (by first | assumption | k_is) ‹_› (fun es7 F7=>?_) (by exact rfl) (by exact rfl) (by exact rfl)
  refine Ts.init ‹_› (by exact Ev.loc hm rfl Kx rfl) (by exact Ev.loc hm rfl Kx rfl) ‹_› ‹_› (by first | assumption | k_is) ‹_› (fun es8 F8=>?_) (by exact rfl) (by exact rfl) (by exact rfl)
  refine Ts.init ‹_› (by exact Ev.loc hm rfl Kx rfl) (by exact Ev.loc hm rfl Kx rfl) ‹_› ‹_› (by first | assumption | k_is) ‹_› (fun es9 F9=>?_) (by exact rfl) (by exact rfl) (by exact rfl)
  exact Ts.nil (new_owes (iC h6) iH (fun p hp=>iC (s6 p (iC hp))) l1 l2 ⟨x', d, es9, rfl, rfl, l2, rfl, ⟨⟨_, F9.get _⟩, F9.get _, ⟨_, F9.get _⟩, Nat.le_trans F9.len (Nat.le_of_ble_eq_true rfl)⟩, F9.get _, F9.get _, F9.get _⟩)
theorem new_owes3 {x d z:Addr} {o1 o2 o3:Obj} {l n:Led} {R:Value → Led → Led → Prop} {r:Value} (h3:(z, o3) ∈ n) (h1:(x, o1) ∈ n) (h2:(d, o2) ∈ n) (s:∀ p ∈ l, p ∈ n) (l3:∀ p ∈ l, p.1 < z) (l1:∀ p ∈ l, p.1 < d) (l2:@LT.lt Nat _ d x) (hR:R r l [(z, o3), (x, o1), (d, o2)]):Owes l R r n:=by
  refine byP fun _ q9=>?_
  obtain ⟨l', tl, s', g, k⟩:=new_owes (R:=fun _ n' tl=>n' = l ∧ tl = [(x, o1), (d, o2)]) (r:=r) h1 h2 s l1 l2 ⟨rfl, rfl⟩
  obtain ⟨e1, e2⟩:=k
  refine q9 ?_
  subst e1
  subst e2
  exact ⟨l', (z, o3) :: [(x, o1), (d, o2)], all_app s (all_more h3 fun p hp=>s' p (iR hp)), Gt.cons (fun q hq=>Nat.ne_of_lt (l3 q hq)) g, hR⟩
theorem table_new {w mx} {l:Led} {i:Int} {ti:Tok} {o:Addr}:Does w mx 120 3 [.int i ti, .ref o] l
    (fun r n' tl=>∃ c d z oz es, r = .ref c ∧ n' = l ∧ (d:Nat) < c ∧ tl = [(z, oz), (c, instObj 120 d), (d, dictOf es 8)] ∧ NewF es i ∧ has "rows" es (.ref z) ∧ (z == sysModules) = false ∧ oz.IsDictOf (strKind PR w) [] ∧ hasn "put" es ∧ hasn "row" es ∧ hasn "pairs" es):=by
  have hC:Cls w 120:=⟨by k_is, by k_is, by k_is⟩
  have hT:Tk6 w 120:=⟨hC, by k_is, by k_is, by k_is, by k_is, by k_is, by k_is⟩
  refine cls_enter (binds:=fun x'=>[(ofString "self", Value.ref x'), (ofString "number", Value.int i ti), (ofString "owner", Value.ref o)]) (by k_is) (by k_is) (by k_is) (by k_is) (by k_is) (by first | exact fun x s X=>BindsTo.of_eq rfl | exact fun x s X=>binds_K X rfl (by k_is) rfl rfl rfl) (by exact fun x=>rfl) (by exact rfl) (by exact rfl) (by exact rfl) (by exact rfl) (by decide) (by exact fun x=>rfl) fun c m x' d hm hcp hcs hcl hr l1 l2=>?_
  refine Ts.re new_turn ?_
  refine Ts.super ‹_› iH (new_off ‹_› ‹_›) (by intro n; exact Ev.glob (by k_is) Kx rfl) (by intro n; exact Evs.cons (by exact Ev.loc hm rfl Kx rfl) (Evs.cons (by exact Ev.loc hm rfl Kx rfl) (Evs.cons (by exact Ev.loc hm rfl Kx rfl) Evs.nil rfl) rfl) rfl) ‹_› (fun es6 n6 D6 F6 s6 h6 off6=>?_) (by decide) ‹_› (by exact rfl) (by exact rfl) (by exact rfl) (by exact rfl)
  refine Ts.initN (by first | exact Tv.newD | exact Tv.newL) ‹_› (by intro n; exact Ev.loc hm rfl Kx rfl) ‹_› ‹_› (by first | assumption | k_is) ‹_› (fun es7 n7 D7 o7 I7 l7 F7 s7 h7 off7 m7=>?_) (by exact rfl) (by exact rfl) (by exact rfl)
  refine Ts.init ‹_› Ev.none (by exact Ev.loc hm rfl Kx rfl) ‹_› ‹_› (by first | assumption | k_is) ‹_› (fun es8 F8=>?_) (by exact rfl) (by exact rfl) (by exact rfl)
  exact Ts.nil (new_owes3 (iC m7) (iC h7) iH (fun p hp=>iC (s7 p (s6 p (iC hp)))) (fun p hp=>l7 p (s6 p (iC hp))) l1 l2 ⟨x', d, D7, o7, es8, rfl, rfl, l2, rfl, ⟨⟨_, F8.get _⟩, F8.get _, ⟨_, F8.get _⟩, Nat.le_trans F8.len (Nat.le_of_ble_eq_true rfl)⟩, F8.get _, I7.1, I7.2, F8.get _, F8.get _, F8.get _⟩)
noncomputable def modNames:List Str:=[ofString "Kernel", ofString "Comparable", ofString "Enumerable"]
theorem modules_notin {w:World} {A:Around} {E:Value → Shared → Prop} {s:Shared} {h₀:Heap} {L:Addr} {m:Str → Option Value} {x:Str} {u:Tok} {b:Bool} {Q:Value → Shared → Prop} (F:Fr h₀ L s.heap m) (X:(K9 w.params).In h₀) (hb:modNames.any (· == x) = b) (h:Q (.bool (!b)) s) :
    wpAny (model PR w) A (compareOp .NotIn (.str x u) (.ref 414)) Q E s:=by
  have hl:(K9 w.params).lookup 414 = some ⟨.type "tuple", none, .seq [.str (ofString "Kernel") 817, .str (ofString "Comparable") 818, .str (ofString "Enumerable") 819].toArray 0, #[]⟩:=by k_dflt k_is
  refine notin_tuple_strs (ys:=modNames) (tupK (X.keeps F.keep) hl) ?_ (by rw [hb]; exact h)
  exact .cons _ _ (.cons _ _ (.cons _ _ .nil))
theorem set_made {w:World} {A:Around} {E:Value → Shared → Prop} {s:Shared} {h₀:Heap} {L:Addr} {m:Str → Option Value} {c:Wc} {σ:Ws} {l pre post X:Led} {x:Str} {t:Tok} {v:Value} {Q:Unit → Shared → Prop}
    (F:Fr h₀ L s.heap m) (N:News h₀ L s.heap l) (S:Sp (Wk c σ) l pre post) (hI:Inv w c σ X) (g:Gt (Wk c σ) (pre ++ post))
    (h:∀ h' o', Fr h₀ L h' m → News h₀ L h' (pre ++ (Wk c { σ with om:=o', kvs:=stored σ.kvs x v } ++ post)) → o'.IsDictOf (strKind PR w) (stored σ.kvs x v) → Q () { s with heap:=h', toks:=s.toks + 1 }) :
    wpAny (model PR w) A (setItem (.ref c.md) (.str x t) v) Q E s:=by
  obtain rfl:=S.eq
  have o1:=g (c.md, σ.om) Wk.m2
  have U:UpdF c.md σ.om ((c.wa, instObj 681 c.wd) :: (c.wd, dictOf σ.es σ.ne) :: (c.md, σ.om) :: (c.nat, c.on) :: (c.pre, c.op) :: (pre ++ post)) (fun o=>(c.wa, instObj 681 c.wd) :: (c.wd, dictOf σ.es σ.ne) :: (c.md, o) :: (c.nat, c.on) :: (c.pre, c.op) :: (pre ++ post)):=by
    refine .tail hI.n2 (.tail hI.n3 (.head fun p hp=>?_))
    rcases List.mem_cons.mp hp with rfl | hp
    · exact hI.n5
    rcases List.mem_cons.mp hp with rfl | hp
    · exact hI.n7
    · exact Ne.symm (o1 p hp)
  have hc:=hI.cnt
  refine kda_set (knd:=PySem.strKind _ _) F (fun p hp=>N p ?_) U hI.dict (strKind_is _ _ _ _) (by rw [sizeLine_eq]; lia) fun h' o' F' N' hd'=>h h' o' F' (fun p hp=>N' p ?_) hd'
  · simp only [Wk, List.mem_append, List.mem_cons, List.not_mem_nil, or_false] at hp ⊢
    rcases hp with hp | hp | hp | hp | hp | hp | hp
    · exact .inr (.inl (.inl hp))
    · exact .inr (.inl (.inr (.inl hp)))
    · exact .inr (.inl (.inr (.inr (.inl hp))))
    · exact .inr (.inl (.inr (.inr (.inr (.inl hp)))))
    · exact .inr (.inl (.inr (.inr (.inr (.inr hp)))))
    · exact .inl hp
    · exact .inr (.inr hp)
  · simp only [Wk, List.mem_append, List.mem_cons, List.not_mem_nil, or_false] at hp ⊢
    rcases hp with hp | (hp | hp | hp | hp | hp) | hp
    · exact .inr (.inr (.inr (.inr (.inr (.inl hp)))))
    · exact .inl hp
    · exact .inr (.inl hp)
    · exact .inr (.inr (.inl hp))
    · exact .inr (.inr (.inr (.inl hp)))
    · exact .inr (.inr (.inr (.inr (.inl hp))))
    · exact .inr (.inr (.inr (.inr (.inr (.inr hp)))))
structure Made (w:World) (σ σ':Ws) (x:Str) (v:Value):Prop where
  kvs:σ'.kvs = stored σ.kvs x v
  es:σ'.es = σ.es
  num:σ'.num = σ.num
  idn:σ'.idn = σ.idn
  rd:σ'.rd = σ.rd
  dict:σ'.om.IsDictOf (strKind PR w) (stored σ.kvs x v)
theorem set_made2 {w:World} {A:Around} {E:Value → Shared → Prop} {s:Shared} {h₀:Heap} {L:Addr} {m:Str → Option Value} {c:Wc} {σ:Ws} {l pre post X:Led} {x:Str} {t:Tok} {v:Value} {Q:Unit → Shared → Prop}
    (F:Fr h₀ L s.heap m) (N:News h₀ L s.heap l) (S:Sp (Wk c σ) l pre post) (hI:Inv w c σ X) (g:Gt (Wk c σ) (pre ++ post))
    (h:∀ h' σ', Fr h₀ L h' m → News h₀ L h' (pre ++ (Wk c σ' ++ post)) → Made w σ σ' x v → Q () { s with heap:=h', toks:=s.toks + 1 }) :
    wpAny (model PR w) A (setItem (.ref c.md) (.str x t) v) Q E s :=
  set_made F N S hI g fun h' o' F' N' hd'=>h h' { σ with om:=o', kvs:=stored σ.kvs x v } F' N' ⟨rfl, rfl, rfl, rfl, rfl, hd'⟩
theorem Inv.made2 {w:World} {c:Wc} {σ σ':Ws} {X Z:Led} {x:Str} {b:Addr} (h:Inv w c σ X) (M:Made w σ σ' x (.ref b)) (hx:x ∈ names) (hn:valueAt σ.kvs x = none) (g:Gt (Wk c σ') Z) (s:∀ p ∈ X, p ∈ Z) (hb:ModOk (stored σ.kvs x (.ref b)) σ.num b x Z) :
    Inv w c σ' Z:=by
  refine byP fun _ q9=>?_
  obtain ⟨e1, e2, e3, e4, e5, e6⟩:=M
  obtain ⟨es', ne', num', idn', rd', om', kvs'⟩:=σ'
  refine q9 ?_
  dsimp only at e1 e2 e3 e4 e5 e6
  subst e1; subst e2; subst e3; subst e4; subst e5
  have q:=h.made hx hn e6 g.wk s hb
  exact { q with gt:=g, ok:=⟨q.ok.1, q.ok.2, q.ok.3, q.ok.4, q.ok.5, q.ok.6, q.ok.7, q.ok.8, q.ok.9, q.ok.10, q.ok.11, q.ok.12, q.ok.13, q.ok.14, q.ok.15, q.ok.16, q.ok.17, q.ok.18, q.ok.19, q.ok.20, q.ok.21, q.ok.22⟩ }
theorem Made.ext {w:World} {σ σ':Ws} {x:Str} {v:Value} (M:Made w σ σ' x v) (hn:valueAt σ.kvs x = none):Ext σ σ' :=
  ⟨by rw [M.num]; exact Int.le_refl _, M.idn, M.rd, fun y u hy=>by rw [M.kvs]; exact stored_ext hn y u hy⟩
theorem Gt.symm {l k:Led} (h:Gt l k):Gt k l:=fun q hq p hp e=>h p hp q hq e.symm
theorem Gt.l {a b t:Led} (h:Gt (a ++ b) t):Gt a t:=fun q hq=>h q (iL hq)
theorem Gt.r {a b t:Led} (h:Gt (a ++ b) t):Gt b t:=fun q hq=>h q (iR hq)
theorem Gt.appl {a b t:Led} (h:Gt a t) (k:Gt b t):Gt (a ++ b) t:=fun q hq=>(List.mem_append.mp hq).elim (h q) (k q)
theorem Gt.subl {a b t:Led} (s:∀ p ∈ b, p ∈ a) (h:Gt a t):Gt b t:=fun q hq=>h q (s q hq)
theorem Gt.wkl {k:Wc} {σ σ':Ws} {t:Led} (h:Gt (Wk k σ) t):Gt (Wk k σ') t:=Gt.wk h
theorem Gt.wkr {k:Wc} {σ σ':Ws} {t:Led} (h:Gt t (Wk k σ)):Gt t (Wk k σ'):=(Gt.wk h.symm).symm
structure Wi (w:World) (k:Wc) (σ0:Ws) (X rest:Led) (σ:Ws) (T H R:Led):Prop where
  inv:Inv w k σ (X ++ (H ++ T))
  xs:∀ p ∈ X, p ∈ rest
  sub:∀ p ∈ rest ++ T, p ∈ R
  gw:Gt (Wk k σ) (H ++ R)
  gt:Gt (Wk k σ0 ++ rest) (H ++ T)
  ext:Ext σ0 σ
  off:Gt H (Wk k σ ++ R)
theorem Wi.start {w:World} {k:Wc} {σ:Ws} {X rest:Led} (hI:Inv w k σ X) (hs:∀ p ∈ X, p ∈ rest) (hg:Gt (Wk k σ) rest):Wi w k σ X rest σ [] [] rest :=
  ⟨by show Inv w k σ (X ++ []); rw [List.append_nil]; exact hI, hs, fun p hp=>by rwa [List.append_nil] at hp, hg, Gt.nil, Ext.refl σ, fun _ h=>nomatch h⟩
theorem Wi.own {w:World} {k:Wc} {σ0 σ:Ws} {X rest T H R own:Led} (W:Wi w k σ0 X rest σ T H R) (ho:Gt own (Wk k σ ++ (H ++ R))):Wi w k σ0 X rest σ T H (own ++ R) :=
  { W with sub:=fun p hp=>iR (W.sub p hp)
           gw:=Gt.app (fun q hq p hp=>W.gw q hq p (iL hp)) (Gt.app (fun q hq p hp=>Ne.symm (ho p hp q (iL hq))) fun q hq p hp=>W.gw q hq p (iR hp))
           off:=Gt.app (fun q hq p hp=>W.off q hq p (iL hp)) (Gt.app (fun q hq p hp=>Ne.symm (ho p hp q (iR (iL hq)))) fun q hq p hp=>W.off q hq p (iR hp)) }
theorem Wi.call {w:World} {k:Wc} {σ0 σ σ':Ws} {X rest T H R tl:Led} (W:Wi w k σ0 X rest σ T H R) (hI:Inv w k σ' ((X ++ (H ++ T)) ++ tl)) (hE:Ext σ σ') (g:Gt (Wk k σ ++ (H ++ R)) tl):Wi w k σ0 X rest σ' (T ++ tl) H (R ++ tl) where
  inv:=by rw [← List.append_assoc H, ← List.append_assoc X]; exact hI
  xs:=W.xs
  sub:=fun p hp=>by
    rw [← List.append_assoc] at hp
    exact (List.mem_append.mp hp).elim (fun h=>iL (W.sub p h)) (iR)
  gw:=by rw [← List.append_assoc]; exact Gt.app W.gw.wkl g.l.wkl
  gt:=by rw [← List.append_assoc]; exact Gt.app W.gt (Gt.appl g.l.wkl (Gt.subl (fun p hp=>W.sub p (iL hp)) g.r.r))
  ext:=W.ext.trans hE
  off:=by
    have h1:Gt H (Wk k σ ++ R):=W.off
    exact Gt.app (Gt.wkr fun q hq p hp=>h1 q hq p (iL hp)) (Gt.app (fun q hq p hp=>h1 q hq p (iR hp)) g.r.l)
section
variable {w mx} {b:Amb w mx} {m:Fm} {n:Led} {k:Wc} {σ0 σ:Ws} {X rest T H R:Led}
theorem Tv.wih {heads:Led} {f:Addr} {d dn:Nat} {args:List Value} {P':Value → Ws → Led → Prop} {P:Value → Led → Prop} (C:WC w mx k σ (X ++ (H ++ T)) f d args P') (W:Wi w k σ0 X rest σ T H R) (hh:Gt heads (Wk k σ ++ (H ++ R))) (hr:b.Room dn)
    (h:∀ r σ' tl, Wi w k σ0 X rest σ' (T ++ tl) H (R ++ tl) → Ext σ σ' → Gt heads (Wk k σ' ++ (H ++ (R ++ tl))) → P' r σ' tl → P r (heads ++ (Wk k σ' ++ (H ++ (R ++ tl))))) (hd:d < dn):Tv b m (heads ++ (Wk k σ ++ (H ++ R))) (call (.ref f) args) P:=fun Q E h₁ tk F N ret=>by
  have sx:∀ p ∈ X ++ (H ++ T), p ∈ heads ++ (H ++ R):=fun p hp=>iR ((List.mem_append.mp hp).elim (fun h=>iR (W.sub p (iL (W.xs p h)))) fun h=>(List.mem_append.mp h).elim (iL) fun h=>iR (W.sub p (iR h)))
  have gx:Gt (Wk k σ) (heads ++ (H ++ R)):=Gt.app (fun q hq p hp=>Ne.symm (hh p hp q (iL hq))) W.gw
  have perm:∀ {a b c:Led}, ∀ p ∈ a ++ (b ++ c), p ∈ b ++ (a ++ c):=fun p hp=>(List.mem_append.mp hp).elim (fun h=>iR (iL h)) fun h=>(List.mem_append.mp h).elim (iL) fun h=>iR (iR h)
  refine does_use (C _ sx gx) b.B F b.X (News.of N perm) b.T b.k (hr d hd).1 (hr d hd).2 fun r n' tl h' tk' F' N' g z9=>?_
  refine byP fun _ q9=>?_
  obtain ⟨σ', e, hI, hE, hP⟩:=z9
  refine q9 ?_
  subst e
  have g2:Gt (Wk k σ ++ (H ++ R)) tl:=Gt.subl (fun p hp=>(List.mem_append.mp hp).elim (iL) fun h=>iR (iR h)) g
  refine ret _ _ _ _ F' (News.of N' fun p hp=>?_) (h r σ' tl (W.call hI hE g2) hE (Gt.app (Gt.wkr fun q hq p hp=>hh q hq p (iL hp)) (by rw [← List.append_assoc]; exact Gt.app (fun q hq p hp=>hh q hq p (iR hp)) (Gt.subl (fun p hp=>iR (iL hp)) g))) hP)
  rw [List.append_assoc, List.append_assoc, List.append_assoc]
  exact perm p hp
theorem Tv.wi {f:Addr} {d dn:Nat} {args:List Value} {P':Value → Ws → Led → Prop} {P:Value → Led → Prop} (C:WC w mx k σ (X ++ (H ++ T)) f d args P') (W:Wi w k σ0 X rest σ T H R) (hr:b.Room dn)
    (h:∀ r σ' tl, Wi w k σ0 X rest σ' (T ++ tl) H (R ++ tl) → Ext σ σ' → P' r σ' tl → P r (Wk k σ' ++ (H ++ (R ++ tl)))) (hd:d < dn):Tv b m (Wk k σ ++ (H ++ R)) (call (.ref f) args) P :=
  Tv.wih (heads:=[]) C W (fun _ h=>nomatch h) hr (fun r σ' tl W' hE _ hP=>h r σ' tl W' hE hP) hd
theorem Tv.wput {x C d:Addr} {f:Str} {v:Value} {es:List DictEntry} {j:Nat} {P:Unit → Led → Prop} (h1:(x, instObj C d) ∈ R) (hC:Cls w C) (hf:takerIn (K9 w.params) C f = some none) (hl:(getL f es).isSome = true) (hz:es.length ≤ 900) (off:Gt [(d, dictOf es j)] (Wk k σ ++ R))
    (h:∀ es' j', Put es es' f v → P () (Wk k σ ++ ([(d, dictOf es' j')] ++ R))):Tv b m (Wk k σ ++ ([(d, dictOf es j)] ++ R)) (setAttr (.ref x) f v) P:=fun Q E h₁ tk F N ret=>by
  have turn:∀ {q:Addr × Obj} {a c:Led}, ∀ p ∈ q :: (a ++ c), p ∈ a ++ ([q] ++ c):=fun p hp=>(List.mem_cons.mp hp).elim (fun e=>e ▸ iR iH) fun h=>(List.mem_append.mp h).elim (iL) fun h=>iR (iC h)
  have turn2:∀ {q:Addr × Obj} {a c:Led}, ∀ p ∈ a ++ ([q] ++ c), p ∈ q :: (a ++ c):=fun p hp=>(List.mem_append.mp hp).elim (fun h=>iC (iL h)) fun h=>(List.mem_cons.mp h).elim (fun e=>e ▸ iH) fun h=>iC (iR h)
  have N':=News.of N turn
  exact set_fld F b.X N' (InstAt.of_news N' (iC (iR h1)) iH) hC.a hC.p hf hC.d hl (.head fun p hp=>Ne.symm (off _ iH p hp)) hz fun h' es' n' F' N2 P'=>ret _ _ _ _ F' (News.of N2 turn2) (h _ _ P')
noncomputable def Wo (w:World) (k:Wc) (σ0:Ws) (X rest:Led) (P:Value → Ws → Led → Prop):Value → Led → Prop:=Owes (Wk k σ0 ++ rest) (fun r n' tl=>∃ σ', n' = Wk k σ' ++ rest ∧ Inv w k σ' (X ++ tl) ∧ Ext σ0 σ' ∧ P r σ' tl)
theorem Wi.owes {P:Value → Ws → Led → Prop} {r:Value} (W:Wi w k σ0 X rest σ T H R) (s:∀ p ∈ Wk k σ ++ (H ++ R), p ∈ n) (hP:P r σ (H ++ T)):Wo w k σ0 X rest P r n :=
  ⟨Wk k σ ++ rest, H ++ T, fun p hp=>s p (by
    rw [List.append_assoc] at hp
    exact (List.mem_append.mp hp).elim (iL) fun h=>iR ((List.mem_append.mp h).elim (fun h=>iR (W.sub p (iL h))) fun h=>(List.mem_append.mp h).elim (iL) fun h=>iR (W.sub p (iR h)))), W.gt, σ, rfl, W.inv, W.ext, hP⟩
section
variable {name qual:Str} {params:Arguments} {body:List Stmt} {scope:Scope} {dV kV doc pm cdv ct oc:Value} {an od:Option Addr} {osl:Array (Option Value)} {f:Addr} {args:List Value} {binds:List (Str × Value)} {dn:Nat} {bm:Fm} {P:Value → Ws → Led → Prop}
theorem wi_enter (ho:(K9 w.params).lookup f = some ⟨oc, od, .func (fnOf name qual params body scope dV kV doc pm an cdv ct), osl⟩) (hcd:codeIn (K9 w.params) cdv qual = true)
    (hb:∀ s:Shared, (K9 w.params).In s.heap → BindsTo s (fnOf name qual params body scope dV kV doc pm an cdv ct) ⟨args, []⟩ binds)
    (hl:(binds.all fun x=>decide (scope.names.lookup x.1 = some .local)) = true) (hco:scope.isCoroutine = false) (hg:scope.isGenerator = false) (hk:scope.kind = .function) (hc:(scope.names.all fun x=>decide (x.2 ≠ .cell)) = true) (hd:0 < dn) (hbm:binds.reverse = bm) (hI:Inv w k σ X)
    (h:∀ (b:Amb w mx) (m:Fm) (rest:Led), m = bm → b.cp = none → b.cs = scope → b.cl = [] → b.Room dn → Wi w k σ X rest σ [] [] rest → Ts b m (Wk k σ ++ ([] ++ rest)) body (Wo w k σ X rest P) fun _ n=>Wo w k σ X rest P .none n):WC w mx k σ X f dn args P:=fun rest hs hg' =>
  does_enter ho hcd hb hl hco hg hk hc hd hbm fun b m hm h0 h1 h2 h3=>h b m rest hm h0 h1 h2 h3 (Wi.start hI hs hg')
theorem wi_enterC (ho:(K9 w.params).lookup f = some ⟨oc, od, .func (fnOf name qual params body scope dV kV doc pm an cdv ct), osl⟩) (hcd:codeIn (K9 w.params) cdv qual = true)
    (hb:∀ s:Shared, (K9 w.params).In s.heap → BindsTo s (fnOf name qual params body scope dV kV doc pm an cdv ct) ⟨args, []⟩ binds)
    (hl:(binds.all fun y=>scope.names.lookup y.1 == some .local || scope.names.lookup y.1 == some .cell) = true) (hnd:((cellsFrom 0 scope.names []).map (·.1)).Nodup) (hco:scope.isCoroutine = false) (hg:scope.isGenerator = false) (hk:scope.kind = .function) (hd:0 < dn) (hbm:locsOf scope.names binds [] = bm) (hI:Inv w k σ X)
    (h:∀ (b:Amb w mx) (m:Fm) (rest cells:Led), m = bm → b.cp = none → b.cs = scope → b.cl = cellsFrom (b.L + 1) scope.names [] → CellsAre (bindC (fun x=>scope.names.lookup x) binds fun _=>none) (cellsFrom (b.L + 1) scope.names []) cells → (∀ p ∈ Wk k σ ++ rest, p.1 < b.L) → b.Room dn → Wi w k σ X rest σ [] [] rest → Ts b m (cells ++ (Wk k σ ++ ([] ++ rest))) body (Wo w k σ X rest P) fun _ n=>Wo w k σ X rest P .none n):WC w mx k σ X f dn args P:=fun rest hs hg' =>
  does_enterC ho hcd hb hl hnd hco hg hk hd hbm fun b m cells hm h0 h1 h2 h3 h4 h5=>h b m rest cells hm h0 h1 h2 h3 h4 h5 (Wi.start hI hs hg')
end
theorem Wi.mod {x d:Addr} {i o:Obj} (W:Wi w k σ0 X rest σ T [] R) (g:Gt (Wk k σ ++ ([] ++ R)) [(x, i), (d, o)]) (l2:@LT.lt Nat _ d x):Wi w k σ0 X rest σ ((x, i) :: T) [(d, o)] ((x, i) :: R) where
  inv:=W.inv.mono (Gt.app (fun q hq p hp=>W.inv.gt q hq p (iL hp)) (Gt.cons (fun q hq=>g q (iL hq) (d, o) (iC iH)) (Gt.cons (fun q hq=>g q (iL hq) (x, i) iH) fun q hq p hp=>W.inv.gt q hq p (iR hp)))) fun p hp=>(List.mem_append.mp hp).elim (iL) fun h=>iR (iC (iC h))
  xs:=W.xs
  sub:=fun p hp=>(List.mem_append.mp hp).elim (fun h=>iC (W.sub p (iL h))) fun h=>(List.mem_cons.mp h).elim (fun e=>e ▸ iH) fun h=>iC (W.sub p (iR h))
  gw:=Gt.cons (fun q hq=>g q (iL hq) (d, o) (iC iH)) (Gt.cons (fun q hq=>g q (iL hq) (x, i) iH) W.gw)
  gt:=by
    have g2:Gt (Wk k σ0 ++ rest) [(x, i), (d, o)]:=Gt.appl g.l.wkl (Gt.subl (fun p hp=>W.sub p (iL hp)) g.r)
    exact Gt.cons (fun q hq=>g2 q hq (d, o) (iC iH)) (Gt.cons (fun q hq=>g2 q hq (x, i) iH) W.gt)
  ext:=W.ext
  off:=Gt.app (fun q hq p hp=>Ne.symm (g p (iL hp) q (iC hq))) (Gt.cons (fun q hq=>by rw [List.mem_singleton.mp hq]; exact Nat.ne_of_lt l2) fun q hq p hp=>Ne.symm (g p (iR hp) q (iC hq)))
theorem Wi.madeW {x d:Addr} {i o:Obj} {x':Str} {es:List DictEntry} {j:Nat} {σ':Ws} (W:Wi w k σ0 X rest σ T [] R) (g:Gt (Wk k σ ++ ([] ++ R)) [(x, i), (d, o)]) (l2:@LT.lt Nat _ d x) (M:Made w σ σ' x' (.ref x)) (hx:x' ∈ names) (hn:valueAt σ.kvs x' = none)
    (hm:ModOk (stored σ.kvs x' (.ref x)) σ.num x x' [(x, i), (d, dictOf es j)]):Wi w k σ0 X rest σ' ((x, i) :: T) [(d, dictOf es j)] ((x, i) :: R):=by
  have W3:=W.mod (o:=dictOf es j) (i:=i) (fun q hq p hp=>by
    rcases List.mem_cons.mp hp with e | hp
    · exact e ▸ g q hq _ iH
    · rw [List.mem_singleton.mp hp]; exact g q hq (d, o) (iC iH)) l2
  exact { W3 with inv:=W.inv.made2 M hx hn W3.inv.gt.wkl (fun p hp=>(List.mem_append.mp hp).elim (iL) fun h=>iR (iC (iC h))) (hm.mono (fun _ _ e=>e) fun p hp=>iR ((List.mem_cons.mp hp).elim (fun e=>e ▸ iC iH) fun h=>by rw [List.mem_singleton.mp h]; exact iH))
                  gw:=W3.gw.wkl
                  ext:=W.ext.trans (M.ext hn)
                  off:=Gt.app (Gt.wkr fun q hq p hp=>W3.off q hq p (iL hp)) fun q hq p hp=>W3.off q hq p (iR hp) }
theorem Wi.upd {d:Addr} {es es':List DictEntry} {n n':Nat} (W:Wi w k σ0 X rest σ T [(d, dictOf es n)] R)
    (e1:getL (ofString "number") es' = getL (ofString "number") es) (e2:getL (ofString "native") es' = getL (ofString "native") es) (e3:getL (ofString "attached") es' = getL (ofString "attached") es) (e5:getL (ofString "is_own") es' = getL (ofString "is_own") es)
    (e4:∀ y t, has "native" es (.str y t) → ParOk σ.kvs y es → ParOk σ.kvs y es') (e6:IdL es → IdL es'):Wi w k σ0 X rest σ T [(d, dictOf es' n')] R where
  inv:=by
    have g:=W.inv.gt
    refine W.inv.upd (Y:=X ++ T) (n:=n) (fun p hp=>?_) (fun p hp=>?_) (iR iH) (Gt.app (fun a ha p hp=>g a ha p (iL hp)) (Gt.cons (fun a ha=>g a ha (d, dictOf es n) (iR iH)) fun a ha p hp=>g a ha p (iR (iC hp)))) e1 e2 e3 e5 e4 e6
    · rcases List.mem_append.mp hp with h | h
      · exact iC (iL h)
      · exact (List.mem_cons.mp h).elim (fun e=>e ▸ iH) fun h=>iC (iR h)
    · exact (List.mem_append.mp hp).elim (iL) fun h=>iR (iC h)
  xs:=W.xs
  sub:=W.sub
  gw:=Gt.cons (fun a ha=>W.gw a ha (d, dictOf es n) iH) fun a ha p hp=>W.gw a ha p (iC hp)
  gt:=Gt.cons (fun a ha=>W.gt a ha (d, dictOf es n) iH) fun a ha p hp=>W.gt a ha p (iC hp)
  ext:=W.ext
  off:=fun a ha=>by rw [List.mem_singleton.mp ha]; exact W.off (d, dictOf es n) iH
theorem Ev.attr {e0:Expr} {f:Str} {p2:Pos} {x C d:Addr} {es:List DictEntry} {j:Nat} {v:Value} {attr:Option Value} (h0:Ev b m n e0 (.ref x)) (h1:(x, instObj C d) ∈ n) (h2:(d, dictOf es j) ∈ n) (hf:FieldOk w C f attr) (hv:getL f es = some (some v)) (hh:handedIn v = true)
    (he:eval (.Attribute e0 f p2) b.env = (do let o' ← eval e0 b.env; standAt (Pos.atName p2); let r ← holding [o'] (getAttr o' f true); letTemporaryGo e0 o' r; pure r)):Ev b m n (.Attribute e0 f p2) v:=fun P h=>Tv.attr (h0 _ (Tv.get h1 h2 hf hv hh h)) he
theorem Ev.wf {e0:Expr} {f:Str} {p2:Pos} {v:Value} {attr:Option Value} {A:Led} (h0:Ev b m (Wk k σ ++ A) e0 (.ref k.wa)) (hf:FieldOk w 681 f attr) (hv:getL f σ.es = some (some v)) (hh:handedIn v = true)
    (he:eval (.Attribute e0 f p2) b.env = (do let o' ← eval e0 b.env; standAt (Pos.atName p2); let r ← holding [o'] (getAttr o' f true); letTemporaryGo e0 o' r; pure r)):Ev b m (Wk k σ ++ A) (.Attribute e0 f p2) v:=Ev.attr h0 (iL Wk.m0) (iL Wk.m1) hf hv hh he
theorem Tv.wm0 {heads A:Led} {e0:Expr} {f:Str} {g:Addr} {p2 p3:Pos} {P:Value → Led → Prop} {pl:Sem Bool} (h0:Ev b m (heads ++ (Wk k σ ++ A)) e0 (.ref k.wa)) (hm:MethOk w 681 f g) (hn:getL f σ.es = some none) (hk:keepIn (K9 w.params) (.ref g) = true)
    (h:Tv b m (heads ++ (Wk k σ ++ A)) (call (.ref g) [.ref k.wa]) P)
    (he:eval (Expr.Call (.Attribute e0 f p2) [] [] p3) b.env = (do let ov ← eval e0 b.env; standAt (Pos.atName p2); let x ← holding [ov] (getMethod ov f pl); match x with | (g, first)=>callWith p3 g first (backTo p3 (starEach [] b.env)) [])):Tv b m (heads ++ (Wk k σ ++ A)) (eval (.Call (.Attribute e0 f p2) [] [] p3) b.env) P :=
  Tv.meth (h0 _ (Tv.getm (iR (iL Wk.m0)) (iR (iL Wk.m1)) hm hn (Tv.with0 hk h))) he
theorem Tv.wm1 {heads A:Led} {e0 e:Expr} {es:List Expr} {vs:List Value} {f:Str} {g:Addr} {p2 p3:Pos} {P:Value → Led → Prop} {pl:Sem Bool} (h0:Ev b m (heads ++ (Wk k σ ++ A)) e0 (.ref k.wa)) (hm:MethOk w 681 f g) (hn:getL f σ.es = some none) (hk:keepIn (K9 w.params) (.ref g) = true) (hv:Evs b m (heads ++ (Wk k σ ++ A)) (e :: es) vs)
    (h:Tv b m (heads ++ (Wk k σ ++ A)) (call (.ref g) (.ref k.wa :: vs)) P)
    (he:eval (Expr.Call (.Attribute e0 f p2) (e :: es) [] p3) b.env = (do let ov ← eval e0 b.env; standAt (Pos.atName p2); let x ← holding [ov] (getMethod ov f pl); match x with | (g, first)=>callWith p3 g first (backTo p3 (starEach (e :: es) b.env)) []))
    (hs:starEach (e :: es) b.env = (false, eval e b.env) :: starEach es b.env) (ha:((backTo p3 (starEach es b.env)).any fun x=>x.1) = false):Tv b m (heads ++ (Wk k σ ++ A)) (eval (.Call (.Attribute e0 f p2) (e :: es) [] p3) b.env) P :=
  Tv.meth (h0 _ (Tv.getm (iR (iL Wk.m0)) (iR (iL Wk.m1)) hm hn (Tv.with1 hk (hv _ _ h) hs ha))) he
theorem Tv.wmx {heads A:Led} {e0 e:Expr} {es:List Expr} {f:Str} {g:Addr} {p2 p3:Pos} {P:Value → Led → Prop} {pl:Sem Bool} (h0:Ev b m (heads ++ (Wk k σ ++ A)) e0 (.ref k.wa)) (hm:MethOk w 681 f g) (hn:getL f σ.es = some none) (hk:keepIn (K9 w.params) (.ref g) = true)
    (h:Tv b m (heads ++ (Wk k σ ++ A)) (spliced (backTo p3 (starEach (e :: es) b.env))) fun vs n'=>Tv b m n' (call (.ref g) (.ref k.wa :: vs)) P)
    (he:eval (Expr.Call (.Attribute e0 f p2) (e :: es) [] p3) b.env = (do let ov ← eval e0 b.env; standAt (Pos.atName p2); let x ← holding [ov] (getMethod ov f pl); match x with | (g, first)=>callWith p3 g first (backTo p3 (starEach (e :: es) b.env)) []))
    (hs:starEach (e :: es) b.env = (false, eval e b.env) :: starEach es b.env) (ha:((backTo p3 (starEach es b.env)).any fun x=>x.1) = false):Tv b m (heads ++ (Wk k σ ++ A)) (eval (.Call (.Attribute e0 f p2) (e :: es) [] p3) b.env) P :=
  Tv.meth (h0 _ (Tv.getm (iR (iL Wk.m0)) (iR (iL Wk.m1)) hm hn (Tv.with1 hk h hs ha))) he
theorem wm_number:MethOk w 681 "number" 462:=⟨by k_is, by k_is, by k_is⟩
theorem wm_builtin:MethOk w 681 "builtin" 483:=⟨by k_is, by k_is, by k_is⟩
theorem wm_own:MethOk w 681 "give_own" 495:=⟨by k_is, by k_is, by k_is⟩
theorem Tv.wih0 {heads:Led} {f:Addr} {d dn:Nat} {args:List Value} {P':Value → Ws → Led → Prop} {P:Value → Led → Prop} (C:WC w mx k σ (X ++ (H ++ T)) f d args P') (h0:∀ r σ' tl, P' r σ' tl → tl = []) (W:Wi w k σ0 X rest σ T H R) (hh:Gt heads (Wk k σ ++ (H ++ R))) (hr:b.Room dn)
    (h:∀ r σ', Wi w k σ0 X rest σ' T H R → Ext σ σ' → Gt heads (Wk k σ' ++ (H ++ R)) → P' r σ' [] → P r (heads ++ (Wk k σ' ++ (H ++ R)))) (hd:d < dn):Tv b m (heads ++ (Wk k σ ++ (H ++ R))) (call (.ref f) args) P :=
  Tv.wih C W hh hr (fun r σ' tl W' hE g hP=>by
    have e:=h0 r σ' tl hP
    subst e
    rw [List.append_nil] at W' g
    rw [List.append_nil] at W' ⊢
    exact h r σ' W' hE g hP) hd
theorem wm_make:MethOk w 681 "make_builtin" 488:=⟨by k_is, by k_is, by k_is⟩
theorem ev_mget {e0 e1:Expr} {d:Addr} {o:Obj} {kvs:List (Str × Value)} {x:Str} {t:Tok} {p2 p3:Pos} {pl:Sem Bool} (h0:Ev b m n e0 (.ref d)) (h1:Ev b m n e1 (.str x t)) (hm:(d, o) ∈ n) (hd:o.IsDictOf (strKind PR w) kvs) (lo:(d == sysModules) = false)
    (he:eval (Expr.Call (.Attribute e0 (ofString "get") p2) [e1] [] p3) b.env = (do let ov ← eval e0 b.env; standAt (Pos.atName p2); let x ← holding [ov] (getMethod ov (ofString "get") pl); match x with | (g, first)=>callWith p3 g first (backTo p3 (starEach [e1] b.env)) []))
    (hs:starEach [e1] b.env = (false, eval e1 b.env) :: starEach [] b.env) (ha:((backTo p3 (starEach [] b.env)).any fun x=>x.1) = false):Ev b m n (.Call (.Attribute e0 (ofString "get") p2) [e1] [] p3) ((valueAt kvs x).getD .none):=fun P h =>
  Tv.meth (h0 _ fun Q E h₁ tk F N ret=>kdg_method (knd:=PySem.strKind _ _) N hm hd (ret _ _ _ _ F N (Tv.withm1 (Tv.args1 (h1 _ (Tv.args0 fun Q E h₁ tk F N ret=>kdg_get1 (knd:=PySem.strKind _ _) N hm hd lo (strKind_is _ _ _ _) _ rfl (ret _ _ _ _ F N h))) hs) hs ha))) he
theorem Ts.setitem {o i e:Expr} {pos pos':Pos} {K:Fm → Led → Prop} {RR:Value → Led → Prop} {more:List Stmt} (h:Tv b m n (eval e b.env) fun v n'=>Tv b m n' (eval o b.env) fun ov n₂=>Tv b m n₂ (eval i b.env) fun iv n₃=>Tv b m n₃ (setItem ov iv v) fun _ n₄=>Ts b m n₄ more RR K)
    (hs:swapsWith e (some (.Subscript o i pos')) pos.line b.env = pure false):Ts b m n (.Assign [.Subscript o i pos'] e pos :: more) RR K:=fun Q E h₁ tk hE F N r1 r2 =>
  wpAny_execs_cons (wpAny_Assign_Subscript (h _ _ _ _ F N fun v h' tk' n' F' N' p=>p _ _ _ _ F' N' fun ov h'' tk'' n'' F'' N'' p=>p _ _ _ _ F'' N'' fun iv h4 tk4 n4 F4 N4 p=>p _ _ _ _ F4 N4 fun _ h3 tk3 n3 F3 N3 p=>p Q E h3 _ hE F3 N3 r1 r2) hs)
theorem Ts.rek {bd:List Stmt} {R:Value → Led → Prop} {K:Fm → Led → Prop} (k:Led) (s:∀ p ∈ k, p ∈ n) (h:Ts b m k bd R K):Ts b m n bd R K:=Ts.re s h
theorem Tv.rek {α:Type} {t:Sem α} {P:α → Led → Prop} (k:Led) (s:∀ p ∈ k, p ∈ n) (h:Tv b m k t P):Tv b m n t P:=Tv.re s h
theorem Tv.setI {a:Addr} {vs us:List Value} {q:Nat} {k:Int} {t:Tok} {v:Value} {l:Led} {P:Unit → Led → Prop} (sub:∀ p ∈ (a, PySem.W.listOf vs.toArray q) :: l, p ∈ n) (off:∀ p ∈ l, p.1 ≠ a) (hk:0 ≤ k ∧ k < 2 ^ 63) (e:ki_setL vs k.toNat v = some us) (h:P () ((a, PySem.W.listOf us.toArray q) :: l)):Tv b m n (setItem (.ref a) (.int k t) v) P:=fun Q E h₁ tk F N ret =>
  ki_set (its:=vs.toArray) (n:=q) (q:=us) F (News.of N sub) hk.1 hk.2 e (Upd.head off) fun h' F' N'=>ret _ _ _ _ F' N' h
theorem Te.orF {e1 e2:Expr} {pos:Pos} (h1:Te b m n e1 false) (h2:Te b m n e2 false):Te b m n (.BoolOp .Or [e1, e2] pos) false:=fun P h=>Tv.or1 (h1 _ (both_f rfl (Tv.or1 (h2 _ (both_f rfl (Tv.or0 h))))))
theorem Tv.modi {a i:Int} {t u:Tok} {P:Value → Led → Prop} (hi:i ≠ 0) (h:∀ t, P (.int (a.fmod i) t) n):Tv b m n (binaryOp .Mod (.int a t) (.int i u)) P:=fun Q E h₁ tk F N ret=>mod_int hi (ret _ _ _ _ F N (h _))
theorem Tv.divi {a i:Int} {t u:Tok} {P:Value → Led → Prop} (hi:i ≠ 0) (hz:i.natAbs < 1073741824) (h:∀ t, P (.int (a.fdiv i) t) n):Tv b m n (binaryOp .FloorDiv (.int a t) (.int i u)) P:=fun Q E h₁ tk F N ret=>floordiv_int hi (ret _ _ _ _ F N (h _)) (.inl (PyProof.noPylong_small hz))
theorem Tv.muli {a i:Int} {t u:Tok} {P:Value → Led → Prop} (ha:IntMulOk a i) (h:∀ t, P (.int (a * i) t) n):Tv b m n (binaryOp .Mult (.int a t) (.int i u)) P:=by
  intro Q E h₁ tk F N ret
  walk1
  exact ret _ _ _ _ F N (h _)
theorem Tv.addi {a i:Int} {t u:Tok} {P:Value → Led → Prop} (h:∀ t, P (.int (a + i) t) n):Tv b m n (binaryOp .Add (.int a t) (.int i u)) P:=by
  intro Q E h₁ tk F N ret
  walk1
  exact ret _ _ _ _ F N (h _)
theorem Tv.gcall {x:Str} {f:Addr} {e:Expr} {es:List Expr} {vs:List Value} {p1 p5:Pos} {P:Value → Led → Prop} (hf:Ev b m n (.Name x p1) (.ref f)) (hk:keepIn (K9 w.params) (.ref f) = true) (hv:Evs b m n (e :: es) vs) (h:Tv b m n (call (.ref f) vs) P) (hs:starEach (e :: es) b.env = (false, eval e b.env) :: starEach es b.env) (ha:((backTo p5 (starEach es b.env)).any fun x=>x.1) = false):Tv b m n (eval (.Call (.Name x p1) (e :: es) [] p5) b.env) P :=
  Tv.callee (hf _ (Tv.with1 hk (hv _ _ h) hs ha)) rfl
noncomputable def Cp (b:Amb w mx) (m:Fm) (n:Led) (op:CmpOp) (v u r:Value):Prop:=∀ P:Value → Led → Prop, (∀ tk:Nat, P r n) → Tv b m n (compareOp op v u) P
theorem Ev.cmp {l r:Expr} {op:CmpOp} {pos:Pos} {v u x:Value} (h1:Ev b m n l v) (h2:Ev b m n r u) (hc:Cp b m n op v u x) (hm:behindInMarks op r = false):Ev b m n (.Compare l [op] [r] pos) x:=fun P h=>Tv.cmpv (h1 _ (h2 _ (hc P fun _=>h))) hm
theorem Te.cmp {l r:Expr} {op:CmpOp} {pos:Pos} {v u:Value} {x:Bool} (h1:Ev b m n l v) (h2:Ev b m n r u) (hc:Cp b m n op v u (.bool x)) (hm:behindInMarks op r = false):Te b m n (.Compare l [op] [r] pos) x:=fun P h=>Tv.cmp1 (h1 _ (h2 _ (hc _ fun _=>Tv.tbool h))) hm
theorem Te.ev {e:Expr} {x:Bool} (h1:Ev b m n e (.bool x)) (he:PySem.isTrue e b.env (eval e b.env) = (do let v ← eval e b.env; standAt (Expr.pos e); holding [v] (truthy v))):Te b m n e x:=fun P h=>Tv.plain (h1 _ (Tv.tbool h)) he
theorem Ev.ext {test a e:Expr} {pos:Pos} {v:Value} (ht:Te b m n test true) (h:Ev b m n a v):Ev b m n (.IfExp test a e pos) v:=fun P k=>Tv.ext ht (h P k)
theorem Tv.orv {e1 e2:Expr} {pos:Pos} {P:Value → Led → Prop} (h1:Ev b m n e1 (.bool false)) (h2:Tv b m n (eval e2 b.env) P):Tv b m n (eval (.BoolOp .Or [e1, e2] pos) b.env) P:=fun Q E h₁ tk F N ret =>
  BoolOp_or (h1 (fun v n'=>v = .bool false ∧ n' = n) ⟨rfl, rfl⟩ _ E h₁ tk F N fun v h' tk' n' F' N' ⟨e, e2⟩=>by
    subst e
    subst e2
    exact wpAny_truthy_bool (h2 Q E h' _ F' N' ret))
theorem Ev.item {e0:Expr} {la:Addr} {vs:List Value} {j:Nat} {i:Int} {k2:Nat} {p2 p3:Pos} {v:Value} (h0:Ev b m n e0 (.ref la)) (hm:(la, listOf vs.toArray j) ∈ n) (hv:vs[i.toNat]? = some v) (hi:0 ≤ i ∧ i < 2 ^ 63) (hs:∀ u, subscripted (.Constant (.int i) k2 p2) false (.ref la) (.int i u) = operate [.ref la, .int i u] (getItem (.ref la) (.int i u))):Ev b m n (.Subscript e0 (.Constant (.int i) k2 p2) p3) v:=fun P h =>
  Tv.sub (h0 _ (Tv.cint fun tk Q E h₁ tk' F N ret=>item_litK (News.isList N hm) hi.1 hi.2 hv (ret _ _ _ _ F N h) (hs _)))
structure CompT (b:Amb w mx) (m:Fm) (sc:Scope) (cl:List (Str × Addr)) (elt:Expr) (x:Str) (P:Value → Led → Prop) (ax:Addr) (its:List Value) (n:Led) (J:Nat → List Value → Led → Prop):Prop where
  sz:its.length ≤ sizeLine
  J0:J 0 [] n
  tup:∀ i ys n', J i ys n' → TupAt b.h₀ ax its.toArray n'
  step:∀ i ys n' v heads C oC m₂, its[i]? = some v → J i ys n' → (C, oC) ∈ heads → LCg.NsObj oC m₂ → m₂ x = some v → (∀ q ∈ heads, ∀ p ∈ n', (p.1:Nat) ≠ q.1) →
      Tv (b.inC sc cl C) m (heads ++ n') (eval elt (b.inC sc cl C).env) fun y f=>∃ n'', (∀ p ∈ heads ++ n'', p ∈ f) ∧ (∀ q ∈ heads, ∀ p ∈ n'', (p.1:Nat) ≠ q.1) ∧ J (i + 1) (ys ++ [y]) n''
  fin:∀ D ys n', J its.length ys n' → (∀ p ∈ n', (p.1:Nat) ≠ D) → P (.ref D) ((D, LCg.lst ys) :: n')
theorem Tv.compT {sc:Scope} {cl:List (Str × Addr)} {P:Value → Led → Prop} {elt iter:Expr} {x:Str} {px:Pos} {pos:Pos} (hp:b.cp = none)
    (hit:Tv b m n (eval iter b.env) fun v n1=>∃ ax its J, v = .ref ax ∧ CompT b m sc cl elt x P ax its n1 J)
    (hclos:closureFor sc b.env = pure cl) (hcell:∀ y ∈ sc.names, y.2 ≠ .cell) (hkind:sc.kind = .function) (hnames:∀ y ∈ sc.names, y.2 = .local → sc.names.lookup y.1 = some .local) (hx:sc.names.lookup x = some .local) (hs:∀ v, foldedSetIterable iter b.env v = pure v) :
    Tv b m n (eval (.ListComp elt [⟨.Name x px, iter, [], 0⟩] sc pos) b.env) P:=by
  intro Q E h₁ tk F N ret
  refine ListComp_T (cl:=cl) F hclos hcell hkind hnames hx (hit _ E h₁ tk F N fun v h' tk' n' F' N' hc=>?_) hs
  refine byP fun _ q9=>?_
  obtain ⟨ax, its, J, e1, hsz, J0, htup, step, fin⟩:=hc
  refine q9 ?_
  subst e1
  refine tupSrc_at rfl F' N' (htup _ _ _ J0) (by rw [List.size_toArray]; exact hsz) fun g=>comp_loop J ?_ ?_ J0
  · intro i ys news hi hj v I oI C oC D m₂ h tk E' hv hC hx2 F2 N2 off ne
    have off9:=off.mem
    have key:=step i ys news v [(I, oI), (C, oC), (D, LCg.lst ys)] C oC m₂ (by simpa using hv) hj (iC iH) hC hx2 (fun q hq p hp=>by
      have:=off9 p hp
      simp only [List.mem_cons, List.not_mem_nil, or_false] at hq
      rcases hq with rfl | rfl | rfl
      · exact this.1
      · exact this.2.1
      · exact this.2.2)
    rw [Amb.env_of hp]
    exact key _ E' h tk F2 N2 fun y h' tk' f F3 N3 z9=>by refine byP fun _ q9=>?_; obtain ⟨n2, s, o, q⟩:=z9; exact q9 (LCg.CompEnd.intro F3 N3 n2 s (LCg.Off3.of fun p hp=>⟨o (I, oI) iH p hp, o (C, oC) (iC iH) p hp, o (D, LCg.lst ys) (iC (iC iH)) p hp⟩) (htup _ _ _ q) q)
  · intro ys news hj D h tk F2 N2 o1
    rw [List.size_toArray] at hj
    exact ret _ _ _ _ F2 N2 (fin D ys news hj (Ne1.of_off1 o1 fun p hp=>hp))
end
theorem wd_upd {c:Wc} {σ:Ws} {R:Led} (n1:(c.wa:Nat) ≠ c.wd) (n3:(c.wd:Nat) ≠ c.md) (n4:(c.nat:Nat) ≠ c.wd) (n6:(c.pre:Nat) ≠ c.wd) (hg:Gt (Wk c σ) R) :
    UpdF c.wd (dictOf σ.es σ.ne) (Wk c σ ++ R) (fun o'=>(c.wa, instObj 681 c.wd) :: (c.wd, o') :: (c.md, σ.om) :: (c.nat, c.on) :: (c.pre, c.op) :: R):=by
  refine .tail n1 (.head fun p hp=>?_)
  rcases List.mem_cons.mp hp with rfl | hp
  · exact Ne.symm n3
  rcases List.mem_cons.mp hp with rfl | hp
  · exact n4
  rcases List.mem_cons.mp hp with rfl | hp
  · exact n6
  · exact Ne.symm (hg (c.wd, dictOf σ.es σ.ne) Wk.m1 p hp)
section
variable {w mx} {b:Amb w mx} {m:Fm} {n:Led} {k:Wc} {σ0 σ:Ws} {X rest T H R:Led}
theorem Ts.augattr {o e:Expr} {f:Str} {op:Operator} {p1 pos:Pos} {RR:Value → Led → Prop} {K:Fm → Led → Prop} {more:List Stmt} (h:Tv b m n (eval o b.env) fun ov n1=>Tv b m n1 (getAttr ov f true) fun old n2=>Tv b m n2 (eval e b.env) fun v n3=>Tv b m n3 (inplaceOp op old v) fun new n4=>Tv b m n4 (setAttr ov f new) fun _ n5=>Ts b m n5 more RR K):Ts b m n (.AugAssign (.Attribute o f p1) op e pos :: more) RR K:=fun Q E h₁ tk hE F N r1 r2 =>
  wpAny_execs_cons (wpAny_AugAssign_AttributeAny (h _ _ _ _ F N fun ov h' tk' n' F' N' p=>p _ _ _ _ F' N' fun old h' tk' n' F' N' p=>p _ _ _ _ F' N' fun v h' tk' n' F' N' p=>p _ _ _ _ F' N' fun nw h' tk' n' F' N' p=>p _ _ _ _ F' N' fun _ h' tk' n' F' N' p=>p Q E h' _ hE F' N' r1 r2))
theorem Tv.iadd {a i:Int} {t u:Tok} {P:Value → Led → Prop} (h:∀ t, P (.int (a + i) t) n):Tv b m n (inplaceOp .Add (.int a t) (.int i u)) P:=fun Q E h₁ tk F N ret=>by
  walk1
  exact ret _ _ _ _ F N (h _)
theorem Tv.wset {f:Str} {v u:Value} {A:Led} {P:Unit → Led → Prop} (hI:Inv w k σ X) (hg:Gt (Wk k σ) A) (hf:takerIn (K9 w.params) 681 f = some none) (hu:getL f σ.es = some (some u)) (h:∀ es' ne', Put σ.es es' f v → P () (Wk k { σ with es:=es', ne:=ne' } ++ A)):Tv b m (Wk k σ ++ A) (setAttr (.ref k.wa) f v) P:=fun Q E h₁ tk F N ret =>
  set_fld F b.X N (InstAt.of_news N (iL Wk.m0) (iL Wk.m1)) (by k_is) (by k_is) hf (by k_is) (by rw [hu]; rfl) (wd_upd hI.n1 hI.n3 hI.n4 hI.n6 hg) (Nat.le_trans hI.ok.len (Nat.le_trans (Nat.add_le_add_left hI.ok.mnb 20) (by decide))) fun h' es' n' F' N' P'=>ret _ _ _ _ F' N' (h es' n' P')
end
theorem number_ok {w mx} {c:Wc} {σ:Ws} {X:Led} (hI:Inv w c σ X):WC w mx c σ X 462 1 [.ref c.wa] (fun r σ' tl=>(∃ t, r = .int (σ.num + 1) t) ∧ σ'.num = σ.num + 1 ∧ σ'.kvs = σ.kvs ∧ tl = []):=by
  refine wi_enter (bm:=[(ofString "self", .ref c.wa)]) (by k_is) (by k_is) (by first | exact fun s X=>BindsTo.of_eq rfl | exact fun s X=>binds_K X rfl (by k_is) rfl rfl rfl) (by exact rfl) (by exact rfl) (by exact rfl) (by exact rfl) (by exact rfl) (by first | decide | lia) (by exact rfl) hI fun b m rest hm hcp hcs hcl hr W=>?_
  have es:∀ {A p}, Ev b m A (.Name (ofString "self") p) (.ref c.wa):=by exact Ev.loc hm rfl Kx rfl
  obtain ⟨t0, g1⟩:=hI.ok.f_num
  refine Ts.augattr (es _ (Tv.get (iL Wk.m0) (iL Wk.m1) ⟨by k_is, by k_is, by k_is, by k_is⟩ g1 rfl (Tv.cint fun t1=>Tv.iadd fun t2=>Tv.wset hI W.gw (by k_is) g1 fun es' ne' P=>?_)))
  have I2:Inv w c { σ with es:=es', ne:=ne', num:=σ.num + 1 } X:={ hI with gt:=hI.gt.wk, mods:=hI.mods.up (Int.le_add_of_nonneg_right (by decide)), ok:=hI.ok.put P g1 ⟨_, P.same⟩ (hI.ok.f_idn.imp fun _ h=>(P.other _ (by decide +kernel)).trans h) ((P.other _ (by decide +kernel)).trans hI.ok.f_rd) rfl }
  exact Ts.ret (Ev.attr es (iL Wk.m0) (iL Wk.m1) ⟨by k_is, by k_is, by k_is, by k_is⟩ P.same rfl rfl _ ⟨Wk c { σ with es:=es', ne:=ne', num:=σ.num + 1 } ++ rest, [], fun p hp=>by rwa [List.append_nil] at hp, Gt.nil, _, rfl, by rw [List.append_nil]; exact I2, ⟨Int.le_add_of_nonneg_right (by decide), rfl, rfl, fun _ _ h=>h⟩, ⟨_, rfl⟩, rfl, rfl, rfl⟩)
theorem next_ident_ok {w mx} {c:Wc} {σ:Ws} {X rest:Led} (hI:Inv w c σ X) (hg:Gt (Wk c σ) rest):Does w mx 469 1 [.ref c.wa] (Wk c σ ++ rest) (fun r n' tl=>∃ σ', n' = Wk c σ' ++ rest ∧ Inv w c σ' (X ++ tl) ∧ (∃ t, r = .int (σ.idn + 8) t) ∧ σ'.idn = σ.idn + 8 ∧ σ'.num = σ.num ∧ σ'.rd = σ.rd ∧ σ'.kvs = σ.kvs ∧ tl = []):=by
  refine does_enter (bm:=[(ofString "self", .ref c.wa)]) (by k_is) (by k_is) (by first | exact fun s X=>BindsTo.of_eq rfl | exact fun s X=>binds_K X rfl (by k_is) rfl rfl rfl) (by exact rfl) (by exact rfl) (by exact rfl) (by exact rfl) (by exact rfl) (by first | decide | lia) (by exact rfl) fun b m hm hcp hcs hcl hr=>?_
  have es:∀ {A p}, Ev b m A (.Name (ofString "self") p) (.ref c.wa):=by exact Ev.loc hm rfl Kx rfl
  obtain ⟨t0, g1⟩:=hI.ok.f_idn
  refine Ts.augattr (es _ (Tv.get (iL Wk.m0) (iL Wk.m1) ⟨by k_is, by k_is, by k_is, by k_is⟩ g1 rfl (Tv.cint fun t1=>Tv.iadd fun t2=>Tv.wset hI hg (by k_is) g1 fun es' ne' P=>?_)))
  have I2:Inv w c { σ with es:=es', ne:=ne', idn:=σ.idn + 8 } X:={ hI with gt:=hI.gt.wk, ok:=hI.ok.put P g1 (hI.ok.f_num.imp fun _ h=>(P.other _ (by decide +kernel)).trans h) ⟨_, P.same⟩ ((P.other _ (by decide +kernel)).trans hI.ok.f_rd) rfl }
  exact Ts.ret (Ev.attr es (iL Wk.m0) (iL Wk.m1) ⟨by k_is, by k_is, by k_is, by k_is⟩ P.same rfl rfl _ ⟨Wk c { σ with es:=es', ne:=ne', idn:=σ.idn + 8 } ++ rest, [], fun p hp=>by rwa [List.append_nil] at hp, Gt.nil, _, rfl, by rw [List.append_nil]; exact I2, ⟨_, rfl⟩, rfl, rfl, rfl, rfl, rfl⟩)
section
variable {w mx} {b:Amb w mx} {m:Fm} {n:Led} {k:Wc} {σ0 σ:Ws} {X rest T H R:Led}
theorem Tv.num {heads:Led} {e0:Expr} {p2 p3:Pos} {dn:Nat} {P:Value → Led → Prop} {pl:Sem Bool} (h0:Ev b m (heads ++ (Wk k σ ++ (H ++ R))) e0 (.ref k.wa)) (W:Wi w k σ0 X rest σ T H R) (hh:Gt heads (Wk k σ ++ (H ++ R))) (hr:b.Room dn)
    (h:∀ t σ', Wi w k σ0 X rest σ' T H R → Ext σ σ' → Gt heads (Wk k σ' ++ (H ++ R)) → σ'.num = σ.num + 1 → σ'.kvs = σ.kvs → P (.int (σ.num + 1) t) (heads ++ (Wk k σ' ++ (H ++ R)))) (hd:1 < dn)
    (he:eval (Expr.Call (.Attribute e0 (ofString "number") p2) [] [] p3) b.env = (do let ov ← eval e0 b.env; standAt (Pos.atName p2); let x ← holding [ov] (getMethod ov (ofString "number") pl); match x with | (g, first)=>callWith p3 g first (backTo p3 (starEach [] b.env)) [])) :
    Tv b m (heads ++ (Wk k σ ++ (H ++ R))) (eval (.Call (.Attribute e0 (ofString "number") p2) [] [] p3) b.env) P :=
  Tv.wm0 h0 wm_number W.inv.ok.n_number (by k_is) (Tv.wih0 (number_ok W.inv) (fun r σ' tl hP=>hP.2.2.2) W hh hr (fun r σ' W' hE g z9=>by refine byP fun _ q9=>?_; obtain ⟨⟨t, e⟩, en, ek, _⟩:=z9; exact q9 (e ▸ h t σ' W' hE g en ek)) hd) he
end
theorem builtin_old {w mx} {c:Wc} {σ:Ws} {X:Led} {b:Addr} {x:Str} {tx:Tok} (hI:Inv w c σ X) (hx:valueAt σ.kvs x = some (.ref b)) :
    WC w mx c σ X 483 1 [.ref c.wa, .str x tx] (fun r σ' tl=>r = .ref b ∧ σ' = σ ∧ tl = []):=by
  refine wi_enter (bm:=[(ofString "name", .str x tx), (ofString "self", .ref c.wa)]) (by k_is) (by k_is) (by first | exact fun s X=>BindsTo.of_eq rfl | exact fun s X=>binds_K X rfl (by k_is) rfl rfl rfl) (by exact rfl) (by exact rfl) (by exact rfl) (by exact rfl) (by exact rfl) (by first | decide | lia) (by exact rfl) hI fun ab m rest hm hcp hcs hcl hr W=>?_
  have es:∀ {A p}, Ev ab m A (.Name (ofString "self") p) (.ref c.wa):=by exact Ev.loc hm rfl Kx rfl
  have en:∀ {A p}, Ev ab m A (.Name (ofString "name") p) (.str x tx):=by exact Ev.loc hm rfl Kx rfl
  refine Ts.assign hm (ev_mget (Ev.wf es ⟨by k_is, by k_is, by k_is, by k_is⟩ hI.ok.f_md rfl rfl) en (iL Wk.m2) hI.dict hI.lo rfl rfl rfl _ fun m1 hm1=>?_) Kx rfl
  rw [hx] at hm1
  have ef:∀ {A p}, Ev ab m1 A (.Name (ofString "found") p) (.ref b):=by exact Ev.loc hm1 rfl Kx rfl
  exact Ts.ret (Tv.exf (isNr ef) (ef _ (W.owes (fun _ h=>h) ⟨rfl, rfl, rfl⟩)))
theorem Te.notinD {w mx} {b:Amb w mx} {m:Fm} {n:Led} {e1 e2:Expr} {d:Addr} {o:Obj} {pos:Pos} (h1:∀ P:Value → Led → Prop, (∀ x t, P (.str x t) n) → Tv b m n (eval e1 b.env) P) (h2:Ev b m n e2 (.ref d)) (hm:(d, o) ∈ n) (hd:o.IsDictOf (strKind PR w) []) (lo:(d == sysModules) = false) (hb:behindInMarks .In e2 = false):Te b m n (.Compare e1 [.In] [e2] pos) false:=fun P h =>
  Tv.cmp1 (h1 _ fun x t=>h2 _ fun Q E h₁ tk F N ret=>kda_in (knd:=PySem.strKind _ _) N hm hd lo (strKind_is _ _ _ _) false rfl (ret _ _ _ _ F N (Tv.tbool h))) hb
theorem give_own_ok {w mx} {c:Wc} {σ:Ws} {X:Led} {x:Str} {tx:Tok} (hI:Inv w c σ X) (hx:x.length ≤ 40) :
    WC w mx c σ X 495 1 [.ref c.wa, .str x tx] (fun r σ' tl=>r = .none ∧ σ' = σ ∧ tl = []):=by
  refine wi_enter (bm:=[(ofString "name", .str x tx), (ofString "self", .ref c.wa)]) (by k_is) (by k_is) (by first | exact fun s X=>BindsTo.of_eq rfl | exact fun s X=>binds_K X rfl (by k_is) rfl rfl rfl) (by exact rfl) (by exact rfl) (by exact rfl) (by exact rfl) (by exact rfl) (by first | decide | lia) (by exact rfl) hI fun ab m rest hm hcp hcs hcl hr W=>?_
  have es:∀ {A p}, Ev ab m A (.Name (ofString "self") p) (.ref c.wa):=by exact Ev.loc hm rfl Kx rfl
  have en:∀ {A p}, Ev ab m A (.Name (ofString "name") p) (.str x tx):=by exact Ev.loc hm rfl Kx rfl
  have ec:∀ {P:Value → Led → Prop} {t1:Tok} {y:Str}, (∀ x t, P (.str x t) (Wk c σ ++ ([] ++ rest))) → y.length ≤ 1 → Tv ab m (Wk c σ ++ ([] ++ rest)) (binaryOp .Add (.str x tx) (.str y t1)) P:=fun h hy Q E h₁ tk F N ret=>by
    walk1
    exact ret _ _ _ _ F N (h _ _)
  exact Ts.skip (Te.orF (Te.notinD (fun P h=>Tv.binop (en _ (Tv.cstr fun t1=>ec h (by decide)))) (Ev.wf es ⟨by k_is, by k_is, by k_is, by k_is⟩ hI.ok.f_nat rfl rfl) (iL Wk.m3) hI.nat hI.lon rfl) (Te.notinD (fun P h=>Tv.binop (en _ (Tv.cstr fun t1=>ec h (by decide)))) (Ev.wf es ⟨by k_is, by k_is, by k_is, by k_is⟩ hI.ok.f_pre rfl rfl) (iL Wk.m4) hI.pre hI.lop rfl)) (Ts.nil (W.owes (fun _ h=>h) ⟨rfl, rfl, rfl⟩))
theorem fmod_lt {a k:Int} (h:0 < k):0 ≤ a.fmod k ∧ a.fmod k < k:=by
  rw [Int.fmod_eq_emod_of_nonneg _ (Int.le_of_lt h)]
  exact ⟨Int.emod_nonneg _ (Int.ne_of_gt h), Int.emod_lt_of_pos _ h⟩
theorem take_ok {w mx} {ba:Addr} {rest:Led} {o:Obj} {N₁ k:Int} {tj:Tok} (hb:BoxObj o N₁) (hN:N₁ < 1000000) (hk1:0 < k) (hk2:k < 1000) (off:∀ p ∈ rest, p.1 ≠ ba) :
   Does w mx 699 1 [.ref ba, .int k tj] ((ba, o) :: rest) (fun r n' tl=>∃ o', (∃ d td, r = .int d td ∧ 0 ≤ d ∧ d < k ∧ BoxObj o' (N₁ + 1) ∧ tl = []) ∧ n' = (ba, o') :: rest):=by
  refine byP fun _ q9=>?_
  obtain ⟨g, c, t1, t2, n, rfl, hg, hc, hc2⟩:=hb
  refine q9 ?_
  refine Does.gen fun RG gR=>?_
  refine does_enter (bm:=[(ofString "many", .int k tj), (ofString "box", .ref ba)]) (by k_is) (by k_is) (by first | exact fun s X=>BindsTo.of_eq rfl | exact fun s X=>binds_K X rfl (by k_is) rfl rfl rfl) (by exact rfl) (by exact rfl) (by exact rfl) (by exact rfl) (by exact rfl) (by first | decide | lia) (by exact rfl) fun b m hm hcp hcs hcl hr=>?_
  have eb:∀ {m' A p}, m'.lookup (ofString "box") = some (.ref ba) → Ev b m' A (.Name (ofString "box") p) (.ref ba):=fun h=>Ev.name h Kx rfl
  have em:∀ {m' A p}, m'.lookup (ofString "many") = some (.int k tj) → Ev b m' A (.Name (ofString "many") p) (.int k tj):=fun h=>Ev.name h Kx rfl
  have jb:m.lookup (ofString "box") = some (.ref ba):=by rw [hm]; rfl
  have jm:m.lookup (ofString "many") = some (.int k tj):=by rw [hm]; rfl
  have i0:∀ {m' g' c' t t' p q p2 p3}, m'.lookup (ofString "box") = some (.ref ba) → Ev b m' ((ba, listOf [.int g' t, .int c' t'].toArray n) :: rest) (.Subscript (.Name (ofString "box") p) (.Constant (.int 0) q p2) p3) (.int g' t):=fun h=>Ev.item (eb h) (.head _) rfl ⟨by decide, by decide⟩ (fun _=>rfl)
  have i1:∀ {m' g' c' t t' p q p2 p3}, m'.lookup (ofString "box") = some (.ref ba) → Ev b m' ((ba, listOf [.int g' t, .int c' t'].toArray n) :: rest) (.Subscript (.Name (ofString "box") p) (.Constant (.int 1) q p2) p3) (.int c' t'):=fun h=>Ev.item (eb h) (.head _) rfl ⟨by decide, by decide⟩ (fun _=>rfl)
  have k0:k ≠ 0:=Int.ne_of_gt hk1
  have kz:k.natAbs < 1073741824:=by lia
  have own:∀ {d:Int} {td:Tok} {g' c':Int} {t t':Tok}, 0 ≤ d ∧ d < k → 0 ≤ g' → 0 ≤ c' → c' ≤ N₁ + 1 → Owes ((ba, listOf #[.int g t1, .int c t2] n) :: rest) RG (.int d td) ((ba, listOf [.int g' t, .int c' t'].toArray n) :: rest):=fun hd h1 h2 h3 =>
    ⟨(ba, listOf [.int _ _, .int _ _].toArray n) :: rest, [], fun p hp=>by rwa [List.append_nil] at hp, Gt.nil, gR _ _ _ ⟨_, ⟨_, _, rfl, hd.1, hd.2, ⟨_, _, _, _, _, rfl, h1, h2, h3⟩, rfl⟩, rfl⟩⟩
  refine Ts.ite (Tv.cmp1 (i0 jb _ (Tv.cint fun t3 Q E h₁ tk F N ret=>gt_int (ret _ _ _ _ F N (Tv.tbool ⟨fun h=>?_, fun h=>Ts.nil ?_⟩)))) rfl)
  · refine Ts.assign (l:=m) rfl (Tv.binop (i0 jb _ (em jm _ (Tv.modi k0 fun t4 m1 hm1=>?_)))) Kx rfl
    have jb1:m1.lookup (ofString "box") = some (.ref ba):=by rw [hm1]; exact jb
    have jm1:m1.lookup (ofString "many") = some (.int k tj):=by rw [hm1]; exact jm
    have jd1:m1.lookup (ofString "digit") = some (.int (g.fmod k) t4):=by rw [hm1]; rfl
    exact Ts.setitem (Tv.binop (i0 jb1 _ (em jm1 _ (Tv.divi k0 kz fun t5=>eb jb1 _ (Tv.cint fun t6=>Tv.setI (vs:=[.int g t1, .int c t2]) (us:=[.int (g.fdiv k) t5, .int c t2]) (q:=n) (fun _ h=>h) off ⟨by decide, by decide⟩ rfl (Ts.ret (Ev.name jd1 Kx rfl _ (own (fmod_lt hk1) (Int.fdiv_nonneg hg (Int.le_of_lt hk1)) hc (by lia))))))))) rfl
  · refine Ts.setitem (Tv.binop (i1 jb _ (Tv.cint fun t4=>Tv.addi fun t5=>eb jb _ (Tv.cint fun t6=>Tv.setI (vs:=[.int g t1, .int c t2]) (us:=[.int g t1, .int (c + 1) t5]) (q:=n) (fun _ h=>h) off ⟨by decide, by decide⟩ rfl (Ts.ret ?_))))) rfl
    have m1:∀ {a:Int}, IntMulOk a (c + 1):=.of_right (PySem.intBits_le_64 (by lia) (by lia))
    exact Tv.binop (Tv.binop (Tv.binop (Tv.binop (Tv.binop (Tv.binop (Tv.cint fun t7=>i1 jb _ (Tv.muli m1 fun t8=>i1 jb _ (Tv.muli m1 fun t9=>Tv.binop (Tv.cint fun t10=>i1 jb _ (Tv.muli m1 fun t11=>Tv.addi fun t12=>Tv.cint fun t13=>Tv.addi fun t14=>Tv.cint fun t15=>Tv.modi (by decide) fun t16=>em jm _ (Tv.modi k0 fun t17=>own (fmod_lt hk1) hg (by lia) (by lia))))))))))))
structure Bx (ba:Addr) (rest k tl:Led):Prop where
  ex:Ex rest k tl
  off:∀ p ∈ k, (p.1:Nat) ≠ ba
theorem Bx.new {ba D:Addr} {rest k tl:Led} {o od:Obj} (h:Bx ba rest k tl) (hD:∀ p ∈ (ba, o) :: k, p.1 < D):Bx ba rest ((D, od) :: k) ((D, od) :: tl) :=
  ⟨h.ex.new fun p hp=>hD p (iC hp), fun p hp=>(List.mem_cons.mp hp).elim (fun e=>e ▸ Ne.symm (Nat.ne_of_lt (hD (ba, o) iH))) fun k=>h.off p k⟩
theorem Bx.add {ba D:Addr} {rest k tl:Led} {od:Obj} (h:Bx ba rest k tl) (hD:∀ p ∈ k, (p.1:Nat) ≠ D) (hb:(D:Nat) ≠ ba):Bx ba rest ((D, od) :: k) ((D, od) :: tl) :=
  ⟨h.ex.add hD, fun p hp=>(List.mem_cons.mp hp).elim (fun e=>e ▸ hb) fun k=>h.off p k⟩
theorem UpdF.pre {d:Addr} {o:Obj} {r:Led} {g:Obj → Led} (U:UpdF d o r g):∀ {heads:Led}, (∀ q ∈ heads, (q.1:Nat) ≠ d) → UpdF d o (heads ++ r) (fun o'=>heads ++ g o')
  | [], _=>U
  | q :: heads, h=>.tail (h q iH) (UpdF.pre U fun p hp=>h p (iC hp))
theorem Bx.app {ba:Addr} {rest k tl t:Led} {o:Obj} (h:Bx ba rest k tl) (g:Gt ((ba, o) :: k) t):Bx ba rest (k ++ t) (tl ++ t) :=
  ⟨h.ex.app (Gt.sub (fun p hp=>iC hp) g), fun p hp=>(List.mem_append.mp hp).elim (h.off p) fun k=>Ne.symm (g (ba, o) iH p k)⟩
theorem Bx.owes {ba:Addr} {rest k tl:Led} {o0 o:Obj} {r:Value} {P:Value → Obj → Led → Prop} (h:Bx ba rest k tl) (p:P r o tl):Owes ((ba, o0) :: rest) (fun r n' tl=>∃ o', P r o' tl ∧ n' = (ba, o') :: rest) r ((ba, o) :: k) :=
  ⟨(ba, o) :: rest, tl, fun p hp=>(List.mem_cons.mp hp).elim (fun e=>e ▸ iH) fun k=>iC (h.ex.sub p k), fun q hq p hp=>(List.mem_cons.mp hq).elim (fun e=>e ▸ Ne.symm (h.off p (h.ex.tail p hp))) fun k=>h.ex.gt q k p hp, o, p, rfl⟩
theorem swap2 {a b:Addr × Obj} {k:Led}:∀ p ∈ a :: b :: k, p ∈ b :: a :: k:=fun p hp=>(List.mem_cons.mp hp).elim (fun e=>e ▸ iC iH) fun h=>(List.mem_cons.mp h).elim (fun e=>e ▸ iH) fun h=>iC (iC h)
section
variable {w mx} {c:Amb w mx} {m:Fm} {ba:Addr} {o:Obj} {k:Led} {P:Value → Led → Prop}
theorem Tv.listb {vs:List Value} (hz:vs.length ≤ sizeLine) (h:∀ D, (∀ p ∈ (ba, o) :: k, p.1 < D) → P (.ref D) ((ba, o) :: (D, listOf vs.toArray 0) :: k)) (hre:∀ r (n n':Led), (∀ p ∈ n', p ∈ n) → P r n' → P r n):Tv c m ((ba, o) :: k) (newList vs) P :=
  Tv.list (fun D hD=>hre _ _ _ swap2 (h D hD)) hz
theorem Tv.menu {e s:Expr} {n:Led} {b:Addr} {vs:List Value} {j:Nat} {i:Int} {t:Tok} (hm:(b, listOf vs.toArray j) ∈ n) (h0:0 ≤ i) (h1:i < vs.length) (hsz:vs.length < 1000) (hs:subscripted s false (.ref b) (.int i t) = operate [.ref b, .int i t] (getItem (.ref b) (.int i t))) (h:∀ v, v ∈ vs → P v n):Tv c m n (subscriptTail e s (.ref b) (.int i t)) P:=fun Q E h₁ tk F N ret =>
  item_any ⟨_, (N _ hm).1, rfl, _, rfl⟩ h0 h1 hsz (fun v hv=>ret _ _ _ _ F N (h v hv)) hs
noncomputable def Evi (c:Amb w mx) (m:Fm) (n:Led) (e:Expr) (j:Int):Prop:=∀ P:Value → Led → Prop, (∀ t, P (.int j t) n) → Tv c m n (eval e c.env) P
theorem Evi.const {n:Led} {j:Int} {q:Nat} {p:Pos}:Evi c m n (.Constant (.int j) q p) j:=fun P h=>Tv.cint h
theorem Tv.take {x y:Str} {e:Expr} {N j:Int} {dn:Nat} {p1 p2 p4:Pos} (hf:Ev c m ((ba, o) :: k) (.Name x p1) (.ref 699)) (hx:Ev c m ((ba, o) :: k) (.Name y p2) (.ref ba)) (he:Evi c m ((ba, o) :: k) e j) (hb:BoxObj o N) (hN:N < 1000000) (h1:0 < j) (h2:j < 1000) (off:∀ p ∈ k, (p.1:Nat) ≠ ba) (hr:c.Room dn) (hd:1 < dn) (hs:starEach [e] c.env = (false, eval e c.env) :: starEach [] c.env)
    (hs2:starEach [.Name y p2, e] c.env = (false, eval (.Name y p2) c.env) :: starEach [e] c.env) (ha:((backTo p4 (starEach [e] c.env)).any fun x=>x.1) = false)
    (h:∀ o' d t, 0 ≤ d → d < j → BoxObj o' (N + 1) → P (.int d t) ((ba, o') :: k)):Tv c m ((ba, o) :: k) (eval (.Call (.Name x p1) [.Name y p2, e] [] p4) c.env) P :=
  Tv.callee (hf _ (Tv.with1 (by k_is) (Tv.args1 (hx _ (Tv.args1 (he _ fun t=>Tv.args0 (Tv.does (take_ok hb hN h1 h2 off) hr (fun r n' tl g ⟨o', ⟨d, td, e1, h0, h3, hb', e2⟩, e3⟩=>by
    subst e1
    subst e2
    subst e3
    rw [List.append_nil]
    exact h o' d td h0 h3 hb') hd)) hs)) hs2) hs2 ha)) rfl
noncomputable def Cst (c:Amb w mx) (m:Fm) (es:List Expr) (Φ:List Value → Prop):Prop:=∀ (n:Led) (pos:Pos) (P:List Value → Led → Prop), (∀ vs, Φ vs → P vs n) → Tv c m n (spliced (backTo pos (starEach es c.env))) P
theorem Tv.pick {x y:Str} {es:List Expr} {N j:Int} {q dn:Nat} {p1 p2 p3 p4 p5 p6:Pos} {Ψ:Value → Prop} (hc:Cst c m es fun vs=>vs.length = j.toNat ∧ ∀ v ∈ vs, Ψ v) (hf:∀ n, Ev c m n (.Name x p1) (.ref 699)) (hx:∀ n, (∀ p ∈ k, p ∈ n) → Ev c m n (.Name y p2) (.ref ba)) (hb:BoxObj o N) (hN:N < 1000000) (h1:0 < j) (h2:j < 1000) (off:∀ p ∈ k, (p.1:Nat) ≠ ba) (hr:c.Room dn) (hd:1 < dn)
    (h:∀ o' D od v, (∀ p ∈ (ba, o) :: k, p.1 < D) → Ψ v → BoxObj o' (N + 1) → P v ((ba, o') :: (D, od) :: k)):Tv c m ((ba, o) :: k) (eval (.Subscript (.List es p5) (.Call (.Name x p1) [.Name y p2, .Constant (.int j) q p3] [] p4) p6) c.env) P:=by
  refine Tv.sub (Tv.listx (hc _ _ _ fun vs hv=>Tv.listb (by rw [hv.1, sizeLine_eq]; lia) (fun D hD=>?_) fun r n n' s h=>Tv.re s h))
  refine Tv.take (hf _) (hx _ fun p hp=>iC (iC hp)) Evi.const hb hN h1 h2 (fun p hp=>(List.mem_cons.mp hp).elim (fun e=>e ▸ Ne.symm (Nat.ne_of_lt (hD (ba, o) iH))) (off p)) hr hd rfl rfl rfl fun o' d t h0 h3 hb'=>?_
  exact Tv.menu (iC iH) h0 (by rw [hv.1]; lia) (by rw [hv.1]; lia) rfl fun v hm=>h o' D _ v hD (hv.2 v hm) hb'
theorem Tv.word {x:Str} {e:Expr} {q:Nat} {p1 p2:Pos} {n:Led} (h:Tv c m n (eval e c.env) fun v n'=>∃ o' k', (∀ p ∈ (ba, o') :: k', p ∈ n') ∧ ∀ D t, (∀ p ∈ (ba, o') :: k', p.1 < D) → P (.ref D) ((ba, o') :: (D, listOf [.str x t, v].toArray 0) :: k')) (hre:∀ r (n n':Led), (∀ p ∈ n', p ∈ n) → P r n' → P r n) (hs:starEach [e] c.env = (false, eval e c.env) :: starEach [] c.env) (hs2:starEach [.Constant (.str x) q p1, e] c.env = (false, eval (.Constant (.str x) q p1) c.env) :: starEach [e] c.env):Tv c m n (eval (.List [.Constant (.str x) q p1, e] p2) c.env) P :=
  Tv.listx (Tv.args1 (Tv.cstr fun t=>Tv.args1 (h.mono fun v n' z9=>by refine byP fun _ q9=>?_; obtain ⟨o', k', s, h'⟩:=z9; exact q9 (Tv.args0 (Tv.list (fun D hD=>hre _ _ _ (fun p hp=>(List.mem_cons.mp hp).elim (fun e=>e ▸ iC (s _ iH)) fun h=>(List.mem_cons.mp h).elim (fun e=>e ▸ iH) fun h=>iC (s _ (iC h))) (h' D t fun p hp=>hD p (s p hp))) (Nat.le_of_ble_eq_true rfl)))) hs) hs2)
end
noncomputable def PlanR (ba:Addr) (deep:Int) (N₁ C:Int) (g:Obj → Led):Value → Led → Led → Prop:=fun r n' tl=>∃ o', (∃ p:Pl, p.Ok ∧ (p.dep:Int) ≤ deep ∧ BoxObj o' (N₁ + C) ∧ DatIn tl r p.dat) ∧ n' = g o'
noncomputable def PlanC (w:World) (mx:Mx) (deep:Int) (dn:Nat) (C:Int):Prop:=∀ {ba:Addr} {o:Obj} {N₁:Int} {tk:Tok} {l:Led} {g:Obj → Led} (_:UpdF ba o l g) (_:BoxObj o N₁) (_:N₁ + C < 1000000), Does w mx 704 dn [.ref ba, .int deep tk] l (PlanR ba deep N₁ C g)
theorem lt_i {w:World} {A:Around} {Q:Value → Shared → Prop} {E:Value → Shared → Prop} {s:Shared} {a i:Int} {tk t:Tok} {b:Bool} (hb:decide (a < i) = b) (h:Q (.bool b) s):wpAny (model PR w) A (compareOp .Lt (.int a tk) (.int i t)) Q E s:=by
  walk1
  rw [hb]
  exact h
theorem eq_i {w:World} {A:Around} {Q:Value → Shared → Prop} {E:Value → Shared → Prop} {s:Shared} {a i:Int} {tk t:Tok} {b:Bool} (hb:decide (a = i) = b) (h:Q (.bool b) s):wpAny (model PR w) A (compareOp .Eq (.int a tk) (.int i t)) Q E s:=by
  walk1
  have e:(a == i) = b:=by
    rw [← hb]
    by_cases k:a = i
    · simp [k]
    · simp [k]
  rw [e]
  exact h
theorem range_bt {w:World}:nsIn (K9 w.params) mainGlobals (ofString "range") = some none:=by k_is
theorem Owes.re {news:Led} {R:Value → Led → Led → Prop}:∀ r (n n':Led), (∀ p ∈ n', p ∈ n) → Owes news R r n' → Owes news R r n:=fun r n n' s z9=>by refine byP fun _ q9=>?_; obtain ⟨a, b, h, g, k⟩:=z9; exact q9 (⟨a, b, fun p hp=>s p (h p hp), g, k⟩)
section
variable {w mx} {c:Amb w mx} {m:Fm}
theorem cst7 {p0 p1 p2 p3 p4 p5 p6:Pos} {q0 q1 q2 q3 q4 q5 q6:Nat}:Cst c m [.Constant (.int 0) q0 p0, .Constant (.int 1) q1 p1, .Constant (.int 1) q2 p2, .Constant (.int 2) q3 p3, .Constant (.bool true) q4 p4, .Constant (.bool false) q5 p5, .Constant .none q6 p6] fun vs=>vs.length = (7:Int).toNat ∧ ∀ v ∈ vs, ∃ pv:PV, pv.Ok ∧ DatIn [] v pv.dat:=fun n pos P h =>
  Tv.args1 (Tv.cint fun _=>Tv.args1 (Tv.cint fun _=>Tv.args1 (Tv.cint fun _=>Tv.args1 (Tv.cint fun _=>Tv.args1 (Tv.cbool (Tv.args1 (Tv.cbool (Tv.args1 (Tv.cnone (Tv.args0 (h _ ⟨rfl, fun v hv=>plain7 hv⟩))) rfl)) rfl)) rfl) rfl) rfl) rfl) rfl
theorem cst2 {p0 p1:Pos} {q0 q1:Nat}:Cst c m [.Constant (.str (ofString "a")) q0 p0, .Constant (.str (ofString "b")) q1 p1] fun vs=>vs.length = (2:Int).toNat ∧ ∀ v ∈ vs, ∃ pv:PV, pv.Ok ∧ DatIn [] v pv.dat:=fun n pos P h =>
  Tv.args1 (Tv.cstr fun _=>Tv.args1 (Tv.cstr fun _=>Tv.args0 (h _ ⟨rfl, fun v hv=>sym2 hv⟩)) rfl) rfl
theorem cst3 {p0 p1 p2:Pos} {q0 q1 q2:Nat}:Cst c m [.Constant (.str (ofString "a")) q0 p0, .Constant (.str (ofString "b")) q1 p1, .Constant (.str (ofString "1")) q2 p2] fun vs=>vs.length = (3:Int).toNat ∧ ∀ v ∈ vs, ∃ x:Str, (x = ofString "a" ∨ x = ofString "b" ∨ x = ofString "1") ∧ DatIn [] v (.str x):=fun n pos P h =>
  Tv.args1 (Tv.cstr fun _=>Tv.args1 (Tv.cstr fun _=>Tv.args1 (Tv.cstr fun _=>Tv.args0 (h _ ⟨rfl, fun v hv=>text3 hv⟩)) rfl) rfl) rfl
theorem csto {p0 p1 p2:Pos} {q0 q1 q2:Nat}:Cst c m [.Constant .none q0 p0, .Constant (.int 1) q1 p1, .Constant (.int 2) q2 p2] fun vs=>vs.length = (3:Int).toNat ∧ ∀ v ∈ vs, ∃ x:Option Int, (x = none ∨ x = some 1 ∨ x = some 2) ∧ DatIn [] v (optDat x):=fun n pos P h =>
  Tv.args1 (Tv.cnone (Tv.args1 (Tv.cint fun _=>Tv.args1 (Tv.cint fun _=>Tv.args0 (h _ ⟨rfl, fun v hv=>opt3 hv⟩)) rfl) rfl)) rfl
end
theorem plan_ok {w mx} {deep:Int} (dn:Nat) {C C₁:Int} (h6:6 ≤ C) (h0:0 ≤ C₁) (h1:2 + 2 * C₁ ≤ C) (hde0:0 ≤ deep) (hdeep:deep ≤ 2) (IH:0 < deep → PlanC w mx (deep - 1) dn C₁):PlanC w mx deep (dn + 3) C:=by
  intro ba o N₁ tk l g U hb hN
  refine Does.at (P:=fun r o' tl=>∃ p:Pl, p.Ok ∧ (p.dep:Int) ≤ deep ∧ BoxObj o' (N₁ + C) ∧ DatIn tl r p.dat) U fun rest off=>?_
  refine Does.gen fun RG gR=>?_
  k_dflt (refine' does_enterC (binds:=[(ofString "box", .ref ba), (ofString "deep", .int deep tk)]) (bm:=[]) ?h1 ?h2 ?h3 ?h4 ?h5 ?h6 ?h7 ?h8 ?h9 ?hb ?_; (case h1=>k_is); (case h2=>k_is); (case h4=>exact rfl); (case h5=>decide +kernel); (case h6=>exact rfl); (case h7=>exact rfl); (case h8=>exact rfl); (case h9=>lia); (case hb=>exact rfl); (case h3=>exact fun s X=>BindsTo.of_eq rfl); intro c m cells hm hcp hcs hcl hY hlt hr)
  refine byP fun _ q9=>?_
  obtain ⟨o1, o2, rfl, ho1, ho2⟩:=CellsAre.two (show CellsAre _ [(ofString "deep", c.L + 1 + 1), (ofString "box", c.L + 1)] _ from hY)
  refine q9 ?_
  have fin:∀ {k tl:Led} {o':Obj} {N:Int} {p:Pl} {r:Value}, Bx ba rest k tl → p.Ok → (p.dep:Int) ≤ deep → BoxObj o' N → N ≤ N₁ + C → DatIn tl r p.dat → Owes ((ba, o) :: rest) RG r ((ba, o') :: k) :=
    fun B h1 h2 h3 h4 h5=>(B.owes (P:=fun r o' tl=>∃ p:Pl, p.Ok ∧ (p.dep:Int) ≤ deep ∧ BoxObj o' (N₁ + C) ∧ DatIn tl r p.dat) ⟨_, h1, h2, h3.mono h4, h5⟩).map gR
  have B0:Bx ba rest ((c.L + 1 + 1, o1) :: (c.L + 1, o2) :: rest) []:=⟨Ex.of fun p hp=>iC (iC hp), by
    have hba:=hlt (ba, o) iH
    intro p hp
    simp only [List.mem_cons] at hp
    rcases hp with rfl | rfl | hp
    · exact Ne.symm (Nat.ne_of_lt (Nat.lt_succ_of_lt (Nat.lt_succ_of_lt hba)))
    · exact Ne.symm (Nat.ne_of_lt (Nat.lt_succ_of_lt hba))
    · exact off p hp⟩
  have et:∀ (m:Fm) (n:Led) p, Ev c m n (.Name (ofString "_law_take") p) (.ref 699):=fun m n p=>by exact Ev.glob (by k_is) Kx rfl
  have eb:∀ (m:Fm) (n:Led) p, (c.L + 1, o2) ∈ n → Ev c m n (.Name (ofString "box") p) (.ref ba):=fun m n p h=>Ev.cell (by rw [hcl]; rfl) h ho2 Kx rfl
  have ed:∀ (m:Fm) (n:Led) p, (c.L + 1 + 1, o1) ∈ n → Ev c m n (.Name (ofString "deep") p) (.int deep tk):=fun m n p h=>Ev.cell (by rw [hcl]; rfl) h ho1 Kx rfl
  have kw:Kd c (ofString "way") .local:=Kx
  have kr:Kd c (ofString "range") .globalImplicit:=Kx
  generalize hk0:((c.L + 1 + 1, o1) :: (c.L + 1, o2) :: rest:Led) = k0 at B0
  have m2:(c.L + 1 + 1, o1) ∈ k0:=hk0 ▸ iH
  have m1:(c.L + 1, o2) ∈ k0:=hk0 ▸ iC iH
  refine Ts.re (k:=(ba, o) :: k0) (fun p hp=>?_) ?_
  · rw [← hk0] at hp
    simp only [List.mem_cons, List.cons_append, List.nil_append] at hp ⊢
    rcases hp with h | h | h | h
    · exact .inr (.inr (.inl h))
    · exact .inl h
    · exact .inr (.inl h)
    · exact .inr (.inr (.inr h))
  have way:∃ j:Int, 0 < j ∧ j < 1000 ∧ (6 < j → 0 < deep) ∧ ∀ (p1 p2 p3 p4 p5 p6:Pos) (q1 q2 q3:Nat), Evi c m ((ba, o) :: k0) (.IfExp (.Compare (.Name (ofString "deep") p1) [.Gt] [.Constant (.int 0) q1 p2] p3) (.Constant (.int 9) q2 p4) (.Constant (.int 6) q3 p5) p6) j:=by
    by_cases hd:0 < deep
    · exact ⟨9, by decide, by decide, fun _=>hd, fun p1 p2 p3 p4 p5 p6 q1 q2 q3 P h=>Tv.ext (Te.cmpi (ed _ _ _ (iC m2)) (fun t A Q E s h=>gt0 (decide_eq_true hd) h) rfl) (Tv.cint h)⟩
    · exact ⟨6, by decide, by decide, fun h=>absurd h (by decide), fun p1 p2 p3 p4 p5 p6 q1 q2 q3 P h=>Tv.exf (Te.cmpi (ed _ _ _ (iC m2)) (fun t A Q E s h=>gt0 (decide_eq_false hd) h) rfl) (Tv.cint h)⟩
  refine byP fun _ q9=>?_
  obtain ⟨j, j0, j1, jd, ej⟩:=way
  refine q9 ?_
  refine Ts.assign hm (Tv.take (et _ _ _) (eb _ _ _ (iC m1)) (ej _ _ _ _ _ _ _ _ _) hb (by lia) j0 j1 B0.off hr (by lia) rfl rfl rfl fun oa d td d0 dj hba m' hm'=>?_) kw rfl
  have ew:∀ (n:Led) p, Ev c m' n (.Name (ofString "way") p) (.int d td):=fun n p=>by exact Ev.loc hm' rfl Kx rfl
  clear hm hm' ej hY
  have hz:((0:Nat):Int) ≤ deep:=hde0
  have noth:∀ {t:Led}, ∀ p ∈ ([]:Led), p ∈ t:=fun p hp=>absurd hp List.not_mem_nil
  by_cases w2:d < 2
  · exact Ts.hand (Te.cmpi (ew _ _) (fun t A Q E s h=>lt_i (decide_eq_true w2) h) rfl) (Tv.word (Tv.pick cst7 (fun n=>et _ _ _) (fun n s=>eb _ _ _ (s _ m1)) hba (by lia) (by decide) (by decide) B0.off hr (by lia) fun o' D od v hD ⟨pv, k1, k2⟩ hb' =>
      ⟨o', _, fun _ h=>h, fun D2 t hD2=>fin (p:=.plain pv) ((B0.new hD).new hD2) k1 hz hb' (by lia) (.list iH (.cons (.str _ _) (.cons (k2.mono noth) .nil)))⟩) Owes.re rfl rfl)
  refine Ts.skip (Te.cmpi (ew _ _) (fun t A Q E s h=>lt_i (decide_eq_false w2) h) rfl) ?_
  by_cases w3:d = 2
  · exact Ts.hand (Te.cmpi (ew _ _) (fun t A Q E s h=>eq_i (decide_eq_true w3) h) rfl) (Tv.word (Tv.pick cst2 (fun n=>et _ _ _) (fun n s=>eb _ _ _ (s _ m1)) hba (by lia) (by decide) (by decide) B0.off hr (by lia) fun o' D od v hD ⟨pv, k1, k2⟩ hb' =>
      ⟨o', _, fun _ h=>h, fun D2 t hD2=>fin (p:=.plain pv) ((B0.new hD).new hD2) k1 hz hb' (by lia) (.list iH (.cons (.str _ _) (.cons (k2.mono noth) .nil)))⟩) Owes.re rfl rfl)
  refine Ts.skip (Te.cmpi (ew _ _) (fun t A Q E s h=>eq_i (decide_eq_false w3) h) rfl) ?_
  by_cases w4:d = 3
  · exact Ts.hand (Te.cmpi (ew _ _) (fun t A Q E s h=>eq_i (decide_eq_true w4) h) rfl) (Tv.word (Tv.pick cst3 (fun n=>et _ _ _) (fun n s=>eb _ _ _ (s _ m1)) hba (by lia) (by decide) (by decide) B0.off hr (by lia) fun o' D od v hD ⟨x, k1, k2⟩ hb' =>
      ⟨o', _, fun _ h=>h, fun D2 t hD2=>fin (p:=.text x) ((B0.new hD).new hD2) k1 hz hb' (by lia) (.list iH (.cons (.str _ _) (.cons (k2.mono noth) .nil)))⟩) Owes.re rfl rfl)
  refine Ts.skip (Te.cmpi (ew _ _) (fun t A Q E s h=>eq_i (decide_eq_false w4) h) rfl) ?_
  by_cases w5:d < 6
  · exact Ts.hand (Te.cmpi (ew _ _) (fun t A Q E s h=>lt_i (decide_eq_true w5) h) rfl) (Tv.word (Tv.take (et _ _ _) (eb _ _ _ (iC m1)) Evi.const hba (by lia) (by decide) (by decide) B0.off hr (by lia) rfl rfl rfl fun o' e t e0 e3 hb' =>
      ⟨o', _, fun _ h=>h, fun D2 t2 hD2=>fin (p:=.thing e) (B0.new hD2) ⟨e0, e3⟩ hz hb' (by lia) (.list iH (.cons (.str _ _) (.cons (.int _ _) .nil)))⟩) Owes.re rfl rfl)
  refine Ts.skip (Te.cmpi (ew _ _) (fun t A Q E s h=>lt_i (decide_eq_false w5) h) rfl) ?_
  by_cases w6:d < 8
  · have hdp:0 < deep:=jd (by lia)
    refine Ts.hand (Te.cmpi (ew _ _) (fun t A Q E s h=>lt_i (decide_eq_true w6) h) rfl) (Tv.word (ba:=ba) (Tv.compR (cl:=[(ofString "deep", c.L + 1 + 1), (ofString "box", c.L + 1)]) hcp (Tv.callee (Tv.blt range_bt (by boot_fast) (by decide) (Tv.witht (Tv.args1 (Tv.take (et _ _ _) (eb _ _ _ (iC m1)) Evi.const hba (by lia) (by decide) (by decide) B0.off hr (by lia) rfl rfl rfl fun ob e te e0 e3 hbb=>Tv.args0 (Tv.range fun D u z hD=>?_)) rfl) rfl rfl) kr rfl) rfl) ?clos ?cell rfl ?names rfl (fun v=>rfl)) Owes.re rfl rfl)
    case clos =>
      rw [Amb.env_of hcp]
      show closureFor _ (envX c.cn c.cs c.L c.a c.ccd c.cl) = _
      rw [hcs, hcl]
      rfl
    case cell=>decide
    case names=>decide
    obtain ⟨N, rfl⟩:=Int.eq_ofNat_of_zero_le e0
    refine ⟨D, N, u, te, z, rfl, iH, by lia, fun i ys n'=>∃ o' k' tl' ps M, (∀ p ∈ (ba, o') :: k', p ∈ n') ∧ Bx ba rest k' tl' ∧ (∀ p ∈ k0, p ∈ k') ∧ BoxObj o' M ∧ ((i = 0 → M = N₁ + 1 + 1) ∧ (i = 1 → M = N₁ + 1 + 1 + C₁) ∧ (i = 2 → M = N₁ + 1 + 1 + C₁ + C₁)) ∧ DatAll tl' ys (ps.map Pl.dat) ∧ ps.length = i ∧ ∀ p ∈ ps, p.Ok ∧ (p.dep:Int) ≤ deep - 1, ⟨ob, k0, [], [], _, fun p hp=>iC hp, B0, fun _ h=>h, hbb, ⟨fun _=>rfl, (fun h=>nomatch h), (fun h=>nomatch h)⟩, .nil, rfl, fun _ h=>nomatch h⟩, ?_, ?_⟩
    · intro i ys n' v heads C oC m₂ hi _ z9 hC hN hx off'
      refine byP fun _ q9=>?_
      obtain ⟨o', k', tl', ps, M, sn, B, s0, hbM, hM, hA, hl, hps⟩:=z9
      refine q9 ?_
      have hM1:M ≤ N₁ + 1 + 1 + C₁:=by
        have:i = 0 ∨ i = 1:=by lia
        rcases this with h | h
        · rw [hM.1 h]; lia
        · rw [hM.2.1 h]; lia
      have ub:=UpdF.pre (.head (o:=o') B.off) fun q hq=>Ne.symm (off' q hq (ba, o') (sn _ iH))
      refine Tv.re (k:=heads ++ ((ba, o') :: k')) (fun p hp=>(List.mem_append.mp hp).elim (iL) fun h=>iR (sn p h)) ?_
      have mm:∀ p ∈ k0, p ∈ heads ++ ((ba, o') :: k'):=fun p hp=>iR (iC (s0 p hp))
      refine Tv.callee (Ev.cglob (by k_is) (Kc.of hcs rfl rfl) rfl _ (Tv.with1 (by k_is) (Tv.args1 (Ev.ccell rfl (mm _ m1) ho2 (Kc.of hcs rfl rfl) rfl _ (Tv.args1 (Tv.binop (Ev.ccell rfl (mm _ m2) ho1 (Kc.of hcs rfl rfl) rfl _ (Tv.cint fun t=>Tv.subi fun t2=>Tv.args0 (Tv.does (dn:=dn + 1) (IH hdp ub hbM (by lia)) (fun d hd=>hr d (by lia)) (fun r n2 t g q=>?_) (Nat.lt_succ_self _))))) rfl)) rfl) rfl rfl)) rfl
      refine byP fun _ q9=>?_
      obtain ⟨o2', ⟨p, p1, p2, p3, p4⟩, rfl⟩:=q
      refine q9 ?_
      refine ⟨(ba, o2') :: (k' ++ t), fun q hq=>?_, fun q hq p hp=>?_, o2', k' ++ t, tl' ++ t, ps ++ [p], M + C₁, fun _ h=>h, B.app (Gt.sub (fun p hp=>List.mem_append_right heads hp) g), fun p hp=>iL (s0 p hp), p3, ?_, ?_, ?_, ?_⟩
      · rw [List.append_assoc]; exact hq
      · rcases List.mem_cons.mp hp with e | hp
        · rw [e]; exact off' q hq (ba, o') (sn _ iH)
        · rcases List.mem_append.mp hp with h | h
          · exact off' q hq p (sn _ (iC h))
          · exact Ne.symm (g q (iL hq) p h)
      · refine ⟨(fun h=>nomatch h), fun h=>?_, fun h=>?_⟩
        · rw [hM.1 (Nat.succ.inj h)]
        · rw [hM.2.1 (Nat.succ.inj h)]
      · rw [List.map_append]
        exact DatAll.snoc (hA.mono fun p hp=>iL hp) (p4.mono fun p hp=>iR hp)
      · rw [List.length_append, hl]; rfl
      · exact fun x hx=>(List.mem_append.mp hx).elim (hps x) fun h=>by rw [List.mem_singleton.mp h]; exact ⟨p1, p2⟩
    · intro D3 ys n' z9 o1
      refine byP fun _ q9=>?_
      obtain ⟨o', k', tl', ps, M, sn, B, s0, hbM, hM, hA, hl, hps⟩:=z9
      refine q9 ?_
      refine ⟨o', (D3, LCg.lst ys) :: k', fun p hp=>?_, fun D2 t2 hD2=>?_⟩
      · exact (List.mem_cons.mp hp).elim (fun e=>e ▸ iC (sn _ iH)) fun h=>(List.mem_cons.mp h).elim (fun e=>e ▸ iH) fun h=>iC (sn _ (iC h))
      have BB:=(B.add (od:=LCg.lst ys) (fun p hp=>o1 p (sn p (iC hp))) (Ne.symm (o1 _ (sn _ iH)))).new (od:=listOf [.str (ofString "list") t2, .ref D3].toArray 0) hD2
      have hDD:DatIn ((D2, listOf [.str (ofString "list") t2, .ref D3].toArray 0) :: (D3, LCg.lst ys) :: tl') (.ref D2) (.list [.str (ofString "list"), .list (ps.map Pl.dat)]):=.list iH (.cons (.str _ _) (.cons (.list (iC iH) (hA.mono fun p hp=>iC (iC hp))) .nil))
      have hN2:N ≤ 2:=by lia
      have hMC:M ≤ N₁ + C:=by
        have:N = 0 ∨ N = 1 ∨ N = 2:=by lia
        rcases this with h | h | h
        · rw [hM.1 h]; lia
        · rw [hM.2.1 h]; lia
        · rw [hM.2.2 h]; lia
      clear hM
      match ps, hl with
      | [], _=>exact fin (p:=.l0) BB trivial (by show ((1:Nat):Int) ≤ deep; lia) hbM hMC hDD
      | [p], _=>exact fin (p:=.l1 p) BB (hps p iH).1 (by have:=(hps p iH).2; show ((p.dep + 1:Nat):Int) ≤ deep; lia) hbM hMC hDD
      | [p, q], _=>exact fin (p:=.l2 p q) BB ⟨(hps p iH).1, (hps q (iC iH)).1⟩ (by have h1:=(hps p iH).2; have h2:=(hps q (iC iH)).2; show ((max p.dep q.dep + 1:Nat):Int) ≤ deep; lia) hbM hMC hDD
      | _ :: _ :: _ :: _, h=>simp only [List.length_cons] at h; lia
  refine Ts.skip (Te.cmpi (ew _ _) (fun t A Q E s h=>lt_i (decide_eq_false w6) h) rfl) ?_
  have hdp:0 < deep:=jd (by lia)
  have rv:∀ {α:Type} {t:α → Sem (List Value)} {P:α → List Value → Led → Prop} r (n n':Led), (∀ p ∈ n', p ∈ n) → Tv c m' n' (t r) (P r) → Tv c m' n (t r) (P r):=fun r n n' s h=>Tv.re s h
  refine Ts.ret (Tv.word (ba:=ba) (Tv.listx (Tv.args1 (Tv.word (ba:=ba) (Tv.take (j:=2) (et _ _ _) (eb _ _ _ (iC m1)) Evi.const hba (by lia) (by decide) (by decide) B0.off hr (by lia) rfl rfl rfl fun o1' d1 t1 d10 d11 hb1=>⟨o1', _, fun _ h=>h, fun D1 u1 hD1=>?_⟩) rv rfl rfl) rfl)) Owes.re rfl rfl)
  have B1:=B0.new (od:=listOf [.str (ofString "plain") u1, .int d1 t1].toArray 0) hD1
  refine Tv.args1 (Tv.word (ba:=ba) (Tv.pick (j:=3) csto (fun n=>et _ _ _) (fun n s=>eb _ _ _ (s _ (iC m1))) hb1 (by lia) (by decide) (by decide) B1.off hr (by lia) fun o2' Dp od v hDp ⟨x, k1, k2⟩ hb2=>⟨o2', _, fun _ h=>h, fun D2 u2 hD2=>?_⟩) rv rfl rfl) rfl
  have B2:=(B1.new (od:=od) hDp).new (od:=listOf [.str (ofString "plain") u2, v].toArray 0) hD2
  refine Tv.args1 (Tv.word (ba:=ba) (Tv.cmpv (Tv.take (j:=2) (et _ _ _) (eb _ _ _ (iC (iC (iC (iC m1))))) Evi.const hb2 (by lia) (by decide) (by decide) B2.off hr (by lia) rfl rfl rfl fun o3' d3 t3 d30 d31 hb3=>Tv.cint fun t4 Q E h₁ tk F N ret=>eq_i rfl (ret _ _ _ _ F N ⟨o3', _, fun _ h=>h, fun D3 u3 hD3=>Tv.args0 (Tv.list (fun D4 hD4=>⟨o3', (D4, _) :: _, swap2, fun D5 u5 hD5=>?_⟩) (Nat.le_of_ble_eq_true rfl))⟩)) rfl) rv rfl rfl) rfl
  have B3:=((B2.new (od:=listOf [.str (ofString "plain") u3, .bool (decide (d3 = 1))].toArray 0) hD3).new (od:=listOf [.ref D1, .ref D2, .ref D3].toArray 0) hD4).new (od:=listOf [.str (ofString "range") u5, .ref D4].toArray 0) hD5
  refine fin (p:=.range d1 x (decide (d3 = 1))) B3 ⟨by lia, k1⟩ (by show ((1:Nat):Int) ≤ deep; lia) hb3 (by lia) ?_
  have c1:∀ {q a b:Addr × Obj} {l:Led}, q ∈ l → q ∈ a :: b :: l:=fun h=>iC (iC h)
  exact .list iH (.cons (.str _ _) (.cons (.list (iC iH) (.cons (.list (c1 (c1 (iC iH))) (.cons (.str _ _) (.cons (.int _ _) .nil))) (.cons (.list (c1 (iC iH)) (.cons (.str _ _) (.cons (k2.mono noth) .nil))) (.cons (.list (c1 iH) (.cons (.str _ _) (.cons (.bool _) .nil))) .nil)))) .nil))
theorem plan0 {w mx}:PlanC w mx 0 3 6:=plan_ok (C₁:=0) 0 (by decide) (by decide) (by decide) (by decide) (by decide) (fun h=>absurd h (by decide))
theorem plan1 {w mx}:PlanC w mx 1 6 14:=plan_ok (C₁:=6) 3 (by decide) (by decide) (by decide) (by decide) (by decide) (fun _=>plan0)
theorem plan2 {w mx}:PlanC w mx 2 9 30:=plan_ok (C₁:=14) 6 (by decide) (by decide) (by decide) (by decide) (by decide) (fun _=>plan1)
section
variable {w mx} {c:Amb w mx} {m:Fm} {n:Led} {R:Value → Led → Prop} {K:Fm → Led → Prop} {rest:List Stmt}
theorem Ts.seq {s:Stmt} {J:Fm → Led → Prop} (h:Ts c m n [s] R J) (k:∀ m' n', J m' n' → Ts c m' n' rest R K):Ts c m n (s :: rest) R K:=fun Q E h₁ tk hE F N r1 r2=>by
  have go:=h (fun f s'=>match f with | .next=>wpAny (model PR w) c.A (execs rest c.env) Q E s' | f=>Q f s') E h₁ tk hE F N (fun v h' tk' m' n' F' N' r=>r1 v h' tk' m' n' F' N' r) (fun h' tk' m' n' F' N' j=>k m' n' j Q E h' tk' hE F' N' r1 r2)
  refine wpAny_execs_cons fun Γ p hΓ=>?_
  have g2:=go Γ p hΓ
  rw [execs_cons, Sem.wp_bind'] at g2
  refine Sem.wp_mono _ Γ _ (fun f p' s' h'=>?_) (fun _ _ _ h'=>h') _ _ g2
  cases f <;> exact h'
noncomputable def Ta (c:Amb w mx) (m:Fm) (n:Led) (t:Expr) (v:Value) (K:Fm → Led → Prop):Prop :=
  ∀ (Q:Unit → Shared → Prop) (E:Value → Shared → Prop) (h:Heap) (tk:Nat), Fr c.h₀ c.L h (fm m) → News c.h₀ c.L h n → (∀ h' tk' m' n', Fr c.h₀ c.L h' (fm m') → News c.h₀ c.L h' n' → K m' n' → Q () (c.st h' tk')) → wpAny (model PR w) c.A (assign t c.env v) Q E (c.st h tk)
theorem Ta.name {x:Str} {pos:Pos} {v:Value} (hx:Kd c x .local) (h:K ((x, v) :: m) n):Ta c m n (.Name x pos) v K:=fun Q E h₁ tk F N ret=>by
  rw [Amb.env_of hx.1]
  exact wpAny_assign_Name (storeX_L F N (fun h'' F'' N''=>ret _ _ _ _ (fm_set F'') N'' h) c.k hx.2)
noncomputable def Tn (heads:Led) (J:Fm → Led → Prop) (m:Fm) (n:Led):Prop:=∃ n', (∀ p ∈ heads ++ n', p ∈ n) ∧ (∀ q ∈ heads, ∀ p ∈ n', (p.1:Nat) ≠ q.1) ∧ J m n'
theorem items_ts (hp:c.cp = none) {target:Expr} {body:List Stmt} {I ax:Addr} {lo:Obj} {cl:String} {xs:List Value} {Q:Flow → Shared → Prop} {E:Value → Shared → Prop} {h₁:Heap} {tk:Nat} (J:Nat → Fm → Led → Prop) (hJ:∀ i m n, J i m n → (ax, lo) ∈ n) (hE:PassesOwn (model PR w) c.A c.env E)
    (step:∀ i v m n heads, xs[i]? = some v → J i m n → (∀ q ∈ heads, ∀ p ∈ n, (p.1:Nat) ≠ q.1) → Ta c m (heads ++ n) target v fun m1 n1=>Ts c m1 n1 body R (Tn heads (J (i + 1))))
    (r1:∀ v h' tk' m' n', Fr c.h₀ c.L h' (fm m') → News c.h₀ c.L h' n' → R v n' → Q (.ret v) (c.st h' tk')) (r2:∀ h' tk' m' n', Fr c.h₀ c.L h' (fm m') → News c.h₀ c.L h' n' → J xs.length m' n' → Q .next (c.st h' tk')) :
    ∀ (k i:Nat), xs.length - i = k → ∀ m n, J i m n → (∀ p ∈ n, (p.1:Nat) ≠ I) → i ≤ xs.length → ItemsRest PR w c.A E c.h₀ c.env0 target body Q (c.st h₁ tk) [(I, cl)] [(ax, lo)] ((xs.drop i).map .val) (fm m) n:=by
  intro k
  induction k with
  | zero =>
    intro i hi m n hj _ hle
    have e:i = xs.length:=Nat.le_antisymm hle (Nat.le_of_sub_eq_zero hi)
    subst e
    rw [List.drop_length]
    exact fun h tk F N=>r2 h tk m n F N hj
  | succ k ih =>
    intro i hi m n hj off hle
    have hlt:i < xs.length:=Nat.lt_of_sub_pos (hi ▸ Nat.succ_pos k)
    rw [List.drop_eq_getElem_cons hlt]
    refine ItemsRest.val fun h tk2 F=>AllObj.cons fun o ho=>AllObj.nil fun N=>?_
    have st:=step i xs[i] m n [(I, o)] (List.getElem?_eq_getElem hlt) hj (fun q hq p hp=>by rw [List.mem_singleton.mp hq]; exact off p hp)
    have go:=st (fun _ s₂=>wpAny (model PR w) c.A (execs body c.env) (UnrPostW c.h₀ c.env0.locals { c.st h₁ tk with heap:=h, toks:=tk2 } [(I, o)] (fun m' n'=>SubL [(ax, lo)] n' ∧ ItemsRest PR w c.A E c.h₀ c.env0 target body Q (c.st h₁ tk) [(I, cl)] [(ax, lo)] ((xs.drop (i + 1)).map .val) m' n') Q) E s₂) E h tk2 F N (fun h' tk' m' n' F' N' ts=>?_)
    · rw [Amb.env_of hp] at go
      exact go
    · refine ts _ E h' tk' hE F' N' (fun v h3 tk3 m3 n3 F3 N3 r=>r1 v h3 tk3 m3 n3 F3 N3 r) (fun h3 tk3 m3 n3 F3 N3 tn=>?_)
      refine byP fun _ q9=>?_
      obtain ⟨n4, sub, off4, j4⟩:=tn
      refine q9 ?_
      exact ⟨h3, tk3, fm m3, n4, rfl, F3, fun p hp=>N3 p (sub p hp), fun p hp q hq=>off4 q hq p hp, And.intro (hJ _ _ _ j4) trivial, ih (i + 1) (by rw [Nat.sub_add_eq, hi]; rfl) m3 n4 j4 (fun p hp=>off4 (I, o) iH p hp) hlt⟩
theorem Ts.forL {target iter:Expr} {body:List Stmt} {pos:Pos} {ax:Addr} {lo:Obj} {xs:List Value} {j:Nat} (J:Nat → Fm → Led → Prop) (hp:c.cp = none) (hit:Tv c m n (eval iter c.env) fun v n'=>v = .ref ax ∧ J 0 m n') (hc:lo.cls = .type "list") (hd:lo.data = .seq xs.toArray j) (hJ:∀ i m n, J i m n → (ax, lo) ∈ n)
    (step:∀ i v m n heads, xs[i]? = some v → J i m n → (∀ q ∈ heads, ∀ p ∈ n, (p.1:Nat) ≠ q.1) → Ta c m (heads ++ n) target v fun m1 n1=>Ts c m1 n1 body R (Tn heads (J (i + 1))))
    (fin:∀ m n, J xs.length m n → Ts c m n rest R K) (hs:∀ v, foldedSetIterable iter c.env0 v = pure v):Ts c m n (.For target iter body [] pos :: rest) R K:=fun Q E h₁ tk hE F N r1 r2=>by
  have hE':=hE
  have hit':=hit
  have fin':=fin
  unfold Tv at hit'
  unfold Ts at fin'
  rw [Amb.env_of hp] at hE' hit' fin'
  refine wpAny_execs_cons ?_
  rw [Amb.env_of hp]
  refine For_turns F (hit' _ E h₁ tk F N fun v h' tk' n' F' N' ⟨e, j0⟩=>?_) hs hE'
  subst e
  refine iter_listTurns rfl F' N' (hJ _ _ _ j0) hc hd fun I l=>?_
  have key:=items_ts (I:=I) (cl:="list_iterator") (h₁:=h') (tk:=tk') (Q:=fun f s=>match f with | .next=>wpAny (model PR w) c.A (execs rest c.env0) Q E s | f=>Q f s) hp J hJ hE step (fun v h3 tk3 m3 n3 F3 N3 r=>r1 v h3 tk3 m3 n3 F3 N3 r) (fun h3 tk3 m3 n3 F3 N3 j=>fin' m3 n3 j Q E h3 tk3 hE' F3 N3 r1 r2) xs.length 0 rfl m n' j0 (fun p hp=>Nat.ne_of_lt (l p hp)) (Nat.zero_le _)
  rw [List.drop_zero] at key
  exact key
structure ForT (c:Amb w mx) (target:Expr) (body rest:List Stmt) (R:Value → Led → Prop) (K:Fm → Led → Prop) (ax:Addr) (xs:List Value) (J:Nat → Fm → Led → Prop):Prop where
  hJ:∀ i m n, J i m n → (ax, ({ cls:=.type "tuple", data:=.seq xs.toArray }:Obj)) ∈ n
  step:∀ i v m n heads, xs[i]? = some v → J i m n → (∀ q ∈ heads, ∀ p ∈ n, (p.1:Nat) ≠ q.1) → Ta c m (heads ++ n) target v fun m1 n1=>Ts c m1 n1 body R (Tn heads (J (i + 1)))
  fin:∀ m n, J xs.length m n → Ts c m n rest R K
theorem Ts.forT {target iter:Expr} {body:List Stmt} {pos:Pos} (hp:c.cp = none) (hit:Tv c m n (eval iter c.env) fun v n'=>∃ ax xs J, v = .ref ax ∧ J 0 m n' ∧ ForT c target body rest R K ax xs J) (hs:∀ v, foldedSetIterable iter c.env0 v = pure v):Ts c m n (.For target iter body [] pos :: rest) R K:=fun Q E h₁ tk hE F N r1 r2=>by
  have hE':=hE
  have hit':=hit
  unfold Tv at hit'
  rw [Amb.env_of hp] at hE' hit'
  refine wpAny_execs_cons ?_
  rw [Amb.env_of hp]
  refine For_turns F (hit' _ E h₁ tk F N fun v h' tk' n' F' N' hq=>?_) hs hE'
  refine byP fun _ q9=>?_
  obtain ⟨ax, xs, J, e, j0, hJ, step, fin⟩:=hq
  refine q9 ?_
  have fin':=fin
  unfold Ts at fin'
  rw [Amb.env_of hp] at fin'
  subst e
  refine iter_tupTurns rfl F' N' (hJ _ _ _ j0) rfl rfl fun I l=>?_
  have key:=items_ts (I:=I) (cl:="tuple_iterator") (h₁:=h') (tk:=tk') (Q:=fun f s=>match f with | .next=>wpAny (model PR w) c.A (execs rest c.env0) Q E s | f=>Q f s) hp J hJ hE step (fun v h3 tk3 m3 n3 F3 N3 r=>r1 v h3 tk3 m3 n3 F3 N3 r) (fun h3 tk3 m3 n3 F3 N3 j=>fin' m3 n3 j Q E h3 tk3 hE' F3 N3 r1 r2) xs.length 0 rfl m n' j0 (fun p hp=>Nat.ne_of_lt (l p hp)) (Nat.zero_le _)
  rw [List.drop_zero] at key
  exact key
structure ForR (c:Amb w mx) (x:Str) (body rest:List Stmt) (R:Value → Led → Prop) (K:Fm → Led → Prop) (N:Nat) (J:Nat → Fm → Led → Prop):Prop where
  step:∀ i t m n heads, i < N → J i m n → (∀ q ∈ heads, ∀ p ∈ n, (p.1:Nat) ≠ q.1) → Ts c ((x, .int (i:Int) t) :: m) (heads ++ n) body R (Tn heads (J (i + 1)))
  fin:∀ m n, J N m n → Ts c m n rest R K
theorem range_ts (hp:c.cp = none) {x:Str} {body:List Stmt} {I:Addr} {N:Nat} {Q:Flow → Shared → Prop} {E:Value → Shared → Prop} {h₁:Heap} {tk:Nat} (J:Nat → Fm → Led → Prop) (hE:PassesOwn (model PR w) c.A c.env E)
    (step:∀ i t m n heads, i < N → J i m n → (∀ q ∈ heads, ∀ p ∈ n, (p.1:Nat) ≠ q.1) → Ts c ((x, .int (i:Int) t) :: m) (heads ++ n) body R (Tn heads (J (i + 1))))
    (r1:∀ v h' tk' m' n', Fr c.h₀ c.L h' (fm m') → News c.h₀ c.L h' n' → R v n' → Q (.ret v) (c.st h' tk')) (r2:∀ h' tk' m' n', Fr c.h₀ c.L h' (fm m') → News c.h₀ c.L h' n' → J N m' n' → Q .next (c.st h' tk')) :
    ∀ (k i:Nat), i + k = N → ∀ m n, J i m n → (∀ p ∈ n, (p.1:Nat) ≠ I) → RangeRest PR w c.A E c.h₀ c.env0 x body Q (c.st h₁ tk) I 0 N k i (fm m) n:=by
  intro k
  induction k with
  | zero =>
    intro i hi m n hj _
    have e:i = N:=by lia
    subst e
    exact fun h tk F N=>r2 h tk m n F N hj
  | succ k ih =>
    intro i hi m n hj off
    refine RangeRest.succ fun t h tk2 F N2=>?_
    rw [Int.zero_add] at F
    have st:=step i t m n [(I, itR (0 + ((i + 1:Nat):Int)) ((N:Int) - ((i + 1:Nat):Int)))] (by lia) hj (fun q hq p hp=>by rw [List.mem_singleton.mp hq]; exact off p hp)
    unfold Ts at st
    rw [Amb.env_of hp] at st hE
    refine st _ E h tk2 hE (fm_set F) N2 (fun v h3 tk3 m3 n3 F3 N3 r=>r1 v h3 tk3 m3 n3 F3 N3 r) (fun h3 tk3 m3 n3 F3 N3 tn=>?_)
    refine byP fun _ q9=>?_
    obtain ⟨n4, sub, off4, j4⟩:=tn
    refine q9 ?_
    exact ⟨h3, tk3, fm m3, n4, rfl, F3, fun p hp=>N3 p (sub p hp), fun p hp=>off4 _ iH p hp, ih (i + 1) (by lia) m3 n4 j4 (fun p hp=>off4 _ iH p hp)⟩
theorem Ts.forR {x:Str} {px:Pos} {iter:Expr} {body:List Stmt} {pos:Pos} (hp:c.cp = none) (hx:Kd c x .local) (hit:Tv c m n (eval iter c.env) fun v n'=>∃ r N t u z J, v = .ref r ∧ (r, rng (N:Nat) t u z) ∈ n' ∧ N ≤ 1000 ∧ J 0 m n' ∧ ForR c x body rest R K N J) (hs:∀ v, foldedSetIterable iter c.env0 v = pure v):Ts c m n (.For (.Name x px) iter body [] pos :: rest) R K:=fun Q E h₁ tk hE F N r1 r2=>by
  have hE':=hE
  have hit':=hit
  unfold Tv at hit'
  rw [Amb.env_of hp] at hE' hit'
  refine wpAny_execs_cons ?_
  rw [Amb.env_of hp]
  refine For_invVF F hx.2 (by show (c.cs.kind == .class || (c.cs.kind == .module && _)) = false; rw [c.k]; rfl) (hit' _ E h₁ tk F N fun v h' tk' n' F' N' hq=>?_) hs hE'
  refine byP fun _ q9=>?_
  obtain ⟨r, n1, t, u, z, J, e, hm, hn, j0, step, fin⟩:=hq
  refine q9 ?_
  have fin':=fin
  unfold Ts at fin'
  rw [Amb.env_of hp] at fin'
  subst e
  refine iter_rangeUnr rfl (N' _ hm).1 (small_one (by decide) (by decide) (by lia) (by lia)) (range_size n1) F' N' fun I l=>?_
  exact range_ts (I:=I) (h₁:=h') (tk:=tk') (Q:=fun f s=>match f with | .next=>wpAny (model PR w) c.A (execs rest c.env0) Q E s | f=>Q f s) hp J hE step (fun v h3 tk3 m3 n3 F3 N3 r=>r1 v h3 tk3 m3 n3 F3 N3 r) (fun h3 tk3 m3 n3 F3 N3 j=>fin' m3 n3 j Q E h3 tk3 hE' F3 N3 r1 r2) n1 0 (Nat.zero_add _) m n' j0 (fun p hp=>Nat.ne_of_lt (l p hp))
theorem Ts.while {test:Expr} {body:List Stmt} {pos:Pos} (J:Nat → Fm → Led → Prop) {k0:Nat} (hp:c.cp = none) (j0:J k0 m n)
    (step:∀ k m n, J k m n → Tv c m n (PySem.isTrue test c.env (eval test c.env)) fun b n'=>(b = true → Ts c m n' body R fun m' n''=>∃ k', k' < k ∧ J k' m' n'') ∧ (b = false → Ts c m n' rest R K)):Ts c m n (.While test body [] pos :: rest) R K:=fun Q E h₁ tk hE F N r1 r2=>by
  have hE':=hE
  have step':=step
  unfold Tv Ts at step'
  rw [Amb.env_of hp] at hE' step'
  refine wpAny_execs_cons ?_
  rw [Amb.env_of hp]
  refine While_inv2 (fun k mf nn=>∃ m', mf = fm m' ∧ J k m' nn) (n₀:=k0) F N ⟨m, rfl, j0⟩ (fun k mf nn h1 tk1 F1 N1 ⟨m', e, hj⟩=>?_) hE'
  subst e
  refine step' k m' nn hj _ E h1 tk1 F1 N1 fun b h2 tk2 n2 F2 N2 hb=>?_
  cases b with
  | false=>exact hb.2 rfl Q E h2 tk2 hE' F2 N2 r1 r2
  | true=>exact hb.1 rfl _ E h2 tk2 hE' F2 N2 (fun v h3 tk3 m3 n3 F3 N3 r=>r1 v h3 tk3 m3 n3 F3 N3 r) (fun h3 tk3 m3 n3 F3 N3 ⟨k', lt, hj'⟩=>⟨h3, tk3, fm m3, n3, k', rfl, F3, N3, lt, m3, rfl, hj'⟩)
end
section
variable {w mx} {c:Amb w mx} {m:Fm} {n:Led} {R:Value → Led → Prop} {K:Fm → Led → Prop} {rest:List Stmt}
theorem bind_all (hp:c.cp = none):∀ (xs:List Str) (us:List Value) (m:Fm), xs.length = us.length → (∀ x ∈ xs, Kd c x .local) → ∀ (Q:Unit → Shared → Prop) (E:Value → Shared → Prop) (h:Heap) (tk:Nat), Fr c.h₀ c.L h (fm m) → News c.h₀ c.L h n →
    (∀ h' tk', Fr c.h₀ c.L h' (fm ((xs.zip us).reverse ++ m)) → News c.h₀ c.L h' n → Q () (c.st h' tk')) → wpAny (model PR w) c.A (assignInOrder (xs.map fun x=>bindName c.env0 x) us) Q E (c.st h tk)
  | [], _, m, _, _=>fun Q E h tk F N ret=>assignInOrder_nil (ret h tk F N)
  | x :: xs, [], m, e, _=>nomatch e
  | x :: xs, u :: us, m, e, hk=>fun Q E h tk F N ret=>by
    refine assignInOrder_cons (bindName_ (storeX_L F N (fun h'' F'' N''=>?_) c.k (hk x iH).2))
    refine bind_all hp xs us ((x, u) :: m) (Nat.succ.inj e) (fun y hy=>hk y (iC hy)) Q E h'' _ (fm_set F'') N'' fun h' tk' F' N'=>ret h' tk' ?_ N'
    rw [List.zip_cons_cons, List.reverse_cons, List.append_assoc]
    exact F'
theorem Ts.tupS {elts:List Expr} {k:Nat} {tpos pos:Pos} {value:Expr} {xs:List Str} (hp:c.cp = none)
    (h:Tv c m n (eval value c.env) fun v n'=>∃ D us j, v = .ref D ∧ (D, ({ cls:=.type "tuple", data:=.seq us.toArray j }:Obj)) ∈ n' ∧ xs.length = us.length ∧ ∀ m', m' = (xs.zip us) ++ m → Ts c m' n' rest R K) (hk:∀ x ∈ xs, Kd c x .local)
    (hs:swapsWithSole [.Tuple elts k tpos] value pos.line c.env0 = pure false) (hw:swappedStores [.Tuple elts k tpos] value c.env0 = pure (some xs)):Ts c m n (.Assign [.Tuple elts k tpos] value pos :: rest) R K:=fun Q E h₁ tk hE F N r1 r2=>by
  have h':=h
  unfold Tv at h'
  rw [Amb.env_of hp] at h'
  refine wpAny_execs_cons ?_
  rw [Amb.env_of hp]
  refine Assign_Tuple_swapped (h' _ E h₁ tk F N fun v h2 tk2 n2 F2 N2 hq=>?_) hs hw
  refine byP fun _ q9=>?_
  obtain ⟨D, us, j, e, hm, hl, go⟩:=hq
  refine q9 ?_
  subst e
  refine unpackItemsN_ F2 N2 ⟨_, (N2 _ hm).1, rfl, _, rfl⟩ rfl (by rw [hl, List.size_toArray]) fun h3 F3 N3=>?_
  rw [List.toList_toArray]
  refine bind_all hp xs.reverse us.reverse m (by rw [List.length_reverse, List.length_reverse, hl]) (fun x hx=>hk x (List.mem_reverse.mp hx)) _ E h3 _ F3 N3 fun h4 tk4 F4 N4=>?_
  have g:=go _ rfl Q E h4 tk4 hE (by
    have e:(xs.reverse.zip us.reverse).reverse = xs.zip us:=by rw [List.zip_eq_zipWith, List.zip_eq_zipWith, ← List.reverse_zipWith hl, List.reverse_reverse]
    rw [e] at F4
    exact F4) N4 r1 r2
  rw [Amb.env_of hp] at g
  exact g
structure ForL (c:Amb w mx) (target:Expr) (body rest:List Stmt) (R:Value → Led → Prop) (K:Fm → Led → Prop) (ax:Addr) (xs:List Value) (q:Nat) (J:Nat → Fm → Led → Prop):Prop where
  hJ:∀ i m n, J i m n → (ax, listOf xs.toArray q) ∈ n
  step:∀ i v m n heads, xs[i]? = some v → J i m n → (∀ q ∈ heads, ∀ p ∈ n, (p.1:Nat) ≠ q.1) → Ta c m (heads ++ n) target v fun m1 n1=>Ts c m1 n1 body R (Tn heads (J (i + 1)))
  fin:∀ m n, J xs.length m n → Ts c m n rest R K
theorem Ts.forX {target iter:Expr} {body:List Stmt} {pos:Pos} (hp:c.cp = none) (hit:Tv c m n (eval iter c.env) fun v n'=>∃ ax xs q J, v = .ref ax ∧ J 0 m n' ∧ ForL c target body rest R K ax xs q J) (hs:∀ v, foldedSetIterable iter c.env0 v = pure v):Ts c m n (.For target iter body [] pos :: rest) R K:=fun Q E h₁ tk hE F N r1 r2=>by
  have hE':=hE
  have hit':=hit
  unfold Tv at hit'
  rw [Amb.env_of hp] at hE' hit'
  refine wpAny_execs_cons ?_
  rw [Amb.env_of hp]
  refine For_turns F (hit' _ E h₁ tk F N fun v h' tk' n' F' N' hq=>?_) hs hE'
  refine byP fun _ q9=>?_
  obtain ⟨ax, xs, q, J, e, j0, hJ, step, fin⟩:=hq
  refine q9 ?_
  have fin':=fin
  unfold Ts at fin'
  rw [Amb.env_of hp] at fin'
  subst e
  refine iter_listTurns rfl F' N' (hJ _ _ _ j0) rfl rfl fun I l=>?_
  have key:=items_ts (I:=I) (cl:="list_iterator") (h₁:=h') (tk:=tk') (Q:=fun f s=>match f with | .next=>wpAny (model PR w) c.A (execs rest c.env0) Q E s | f=>Q f s) hp J hJ hE step (fun v h3 tk3 m3 n3 F3 N3 r=>r1 v h3 tk3 m3 n3 F3 N3 r) (fun h3 tk3 m3 n3 F3 N3 j=>fin' m3 n3 j Q E h3 tk3 hE' F3 N3 r1 r2) xs.length 0 rfl m n' j0 (fun p hp=>Nat.ne_of_lt (l p hp)) (Nat.zero_le _)
  rw [List.drop_zero] at key
  exact key
end
theorem miss_mono {a b:List (Str × Value)} (h:∀ y v, valueAt a y = some v → valueAt b y = some v):miss b ≤ miss a:=by
  unfold miss
  have:∀ l:List Str, (l.filter fun n=>(valueAt b n).isNone).length ≤ (l.filter fun n=>(valueAt a n).isNone).length:=by
    intro l
    induction l with
    | nil=>exact Nat.le_refl _
    | cons x l ih =>
      simp only [List.filter_cons]
      cases ha:valueAt a x with
      | none=>cases hb:valueAt b x <;> simp <;> lia
      | some v=>rw [h x v ha]; simpa using ih
  exact this _
theorem ModF.idl {es es':List DictEntry} {i:Int} {x:Str} {v:Value} (h:ModF es i) (P:Put es es' x v) (hx:x ≠ ofString "ident"):IdL es' :=
  ⟨by have:=h.len; have:=P.len; lia, .inl ((P.other _ hx).trans h.ident)⟩
theorem ParOk.same {kvs:List (Str × Value)} {y:Str} {es es':List DictEntry} (h:ParOk kvs y es) (e:getL (ofString "parent") es' = getL (ofString "parent") es):ParOk kvs y es':=by
  rcases h with h | ⟨h1, p, h2, h3⟩
  · exact .inl (e.trans h)
  · exact .inr ⟨h1, p, e.trans h2, h3⟩
theorem native_inj {es:List DictEntry} {x y:Str} {t u:Tok} (h:has "native" es (.str x t)) (k:has "native" es (.str y u)):x = y:=by
  have:=h.symm.trans k
  simp only [Option.some.injEq, Value.str.injEq] at this
  exact this.1
noncomputable def BC (w:World) (mx:Mx) (k dn:Nat):Prop:=∀ {c:Wc} {σ:Ws} {X:Led} {x:Str} {tx:Tok}, Inv w c σ X → x ∈ names → miss σ.kvs ≤ k →
  WC w mx c σ X 483 dn [.ref c.wa, .str x tx] (fun r σ' _=>∃ b, r = .ref b ∧ valueAt σ'.kvs x = some (.ref b))
theorem cp_notin {w mx} {b:Amb w mx} {m:Fm} {n:Led} {x:Str} {t:Tok} {r:Bool} (h:modNames.any (· == x) = !r):Cp b m n .NotIn (.str x t) (.ref 414) (.bool r):=fun P hP Q E h₁ tk F N ret =>
  modules_notin F b.X h (ret _ _ _ _ F N (by rw [Bool.not_not]; exact hP 0))
theorem Tv.made {w mx} {b:Amb w mx} {m:Fm} {k:Wc} {σ:Ws} {X A:Led} {x:Str} {t:Tok} {v:Value} {P:Unit → Led → Prop} (hI:Inv w k σ X) (g:Gt (Wk k σ) A) (h:∀ σ', Made w σ σ' x v → P () (Wk k σ' ++ A)):Tv b m (Wk k σ ++ A) (setItem (.ref k.md) (.str x t) v) P:=fun Q E h₁ tk F N ret =>
  set_made2 F N .here hI g fun h' σ' F' N' M=>ret _ _ _ _ F' N' (h σ' M)
theorem ev_builtins {w mx} {b:Amb w mx} {m:Fm} {n:Led} {e1 e2:PySem.Expr} {pos:Pos} {x:Str} {t:Tok} {v:Value} (h1:Ev b m n e1 (.ref 415)) (h2:Ev b m n e2 (.str x t)) (e:nsIn (KK w) 415 x = some (some v)) (hs:subscripted e2 false (.ref 415) (.str x t) = operate [.ref 415, .str x t] (getItem (.ref 415) (.str x t))):Ev b m n (.Subscript e1 e2 pos) v:=fun P h =>
  Tv.sub (h1 _ (h2 _ fun Q E h₁ tk F N ret=>builtins_item F b.X e (ret _ _ _ _ F N h) hs))
theorem mod_turn {a R:Led} {p q:Addr × Obj}:∀ r ∈ a ++ ([q] ++ (p :: R)), r ∈ (a ++ ([] ++ R)) ++ [p, q]:=fun r hr=>by
  simp only [List.mem_append, List.mem_cons, List.nil_append, List.not_mem_nil, or_false] at hr ⊢
  rcases hr with h | h | h | h
  · exact .inl (.inl h)
  · exact .inr (.inr h)
  · exact .inr (.inl h)
  · exact .inl (.inr h)
theorem own_turn {a h R:Led} {q:Addr × Obj}:∀ r ∈ a ++ (h ++ ([q] ++ R)), r ∈ q :: (a ++ (h ++ R)):=fun r hr=>by
  simp only [List.mem_append, List.mem_cons, List.not_mem_nil, or_false] at hr ⊢
  rcases hr with h | h | h | h
  · exact .inr (.inl h)
  · exact .inr (.inr (.inl h))
  · exact .inl h
  · exact .inr (.inr (.inr h))
theorem make_g {w mx} {k dn:Nat} {c:Wc} {σ:Ws} {X:Led} {x:Str} {tx:Tok} {ic:Bool} {pv:Value} (IH:BC w mx k dn) (hI:Inv w c σ X) (hx:x ∈ names) (hn:valueAt σ.kvs x = none) (hk:miss σ.kvs ≤ k + 1)
    (hm:modNames.any (· == x) = !ic) (hl:x.length ≤ 40) (hb:nsIn (K9 w.params) 415 x = some (some pv)) {its:List Value} {mz:Option Value} (hX:nsIn (KK w) 418 x = some mz) (hmx:(mz = none ∧ its = []) ∨ ∃ ta, mz = some (.ref ta) ∧ (K9 w.params).lookup ta = some ⟨.type "tuple", none, .seq its.toArray 0, #[]⟩) (hits:∀ (i:Nat) (v:Value), its[i]? = some v → ∃ y ty, v = .str y ty ∧ y ∈ names) (hz:its.length ≤ sizeLine) (hpv:pv = .none ∨ (x ≠ Bo ∧ ∃ p tp, pv = .str p tp ∧ p ∈ names ∧ (x = Ob → p = Bo))) :
    WC w mx c σ X 488 (dn + 5) [.ref c.wa, .str x tx] (fun r σ' _=>∃ b, r = .ref b ∧ valueAt σ'.kvs x = some (.ref b)):=by
  have h228:Cls w 228:=⟨by k_is, by k_is, by k_is⟩
  k_dflt (refine' wi_enterC (binds:=[(ofString "self", .ref c.wa), (ofString "name", .str x tx)]) (bm:=[(ofString "name", .str x tx)]) ?h1 ?h2 ?h3 ?h4 ?hn ?h5 ?h6 ?h7 ?h9 ?hb hI ?_; (case h1=>k_is); (case h2=>k_is); (case h3=>exact fun s X=>BindsTo.of_eq rfl); (case h4=>exact rfl); (case hn=>decide +kernel); (case h5=>exact rfl); (case h6=>exact rfl); (case h7=>exact rfl); (case h9=>lia); (case hb=>exact rfl); intro b m rest cells hm0 hcp hcs hcl hY hlt hr W)
  obtain ⟨o, rfl, ho⟩:=CellsAre.one (n:=ofString "self") (c:=b.L + 1) hY
  have se:∀ {m' A p}, (b.L + 1, o) ∈ A → Ev b m' A (.Name (ofString "self") p) (.ref c.wa):=fun h=>Ev.cell (by rw [hcl]; rfl) h ho Kx rfl
  replace W:=W.own (own:=[(b.L + 1, o)]) (Gt.subl (fun p hp=>hp) fun q hq p hp=>by rw [List.mem_singleton.mp hq]; exact Nat.ne_of_gt (Nat.lt_succ_of_lt (hlt p hp)))
  refine Ts.re (k:=Wk c σ ++ ([] ++ ([(b.L + 1, o)] ++ rest))) (fun p hp=>?_) ?_
  · simp only [List.mem_append, List.nil_append] at hp ⊢
    exact hp.elim (fun h=>.inr (.inl h)) fun h=>h.elim .inl fun h=>.inr (.inr h)
  have hc:(b.L + 1, o) ∈ [(b.L + 1, o)] ++ rest:=iH
  revert W hc
  generalize [(b.L + 1, o)] ++ rest = R0
  intro W hc
  -- is_class
  refine Ts.assign hm0 (Ev.cmp (by exact Ev.loc hm0 rfl Kx rfl) (by exact Ev.glob (by k_is) Kx rfl) (cp_notin hm) rfl _ fun m1 hm1=>?_) Kx rfl
  clear hm0
  -- found = ModuleThing(self.number(), None, name, is_class)
  have nm:∀ {A p}, Ev b m1 A (.Name (ofString "name") p) (.str x tx):=by exact Ev.loc hm1 rfl Kx rfl
  have args:∀ {A p1 p2 p3 k1}, Evs b m1 A [.Constant .none k1 p1, .Name (ofString "name") p2, .Name (ofString "is_class") p3] [.none, .str x tx, .bool ic]:=Evs.cons Ev.none (Evs.cons nm (Evs.cons (by exact Ev.loc hm1 rfl Kx rfl) Evs.nil rfl) rfl) rfl
  refine Ts.assign hm1 (Tv.callee ((show ∀ p, Ev b m1 _ (.Name (ofString "ModuleThing") p) (.ref 228) from fun p=>by exact Ev.glob (by k_is) Kx rfl) _ _ (Tv.with1 (by k_is) (Tv.args1 (Tv.num (heads:=[]) (se (List.mem_append_right (Wk c σ) hc)) W (fun _ h=>nomatch h) hr (fun t σ2 W2 E2 _ e5 e4=>args _ _ (Tv.doesT mod_new hr (fun r n' tl ⟨_, _, _, _, e, _⟩=>e) (fun r tl g z9=>?_) (by lia))) (by lia) rfl) rfl) rfl rfl)) rfl) Kx rfl
  refine byP fun _ q9=>?_
  obtain ⟨fa, fd, es, e1, _, l2, e2, hF⟩:=z9
  refine q9 ?_
  subst e1
  subst e2
  intro m2 hm2
  clear args nm hm1
  have hn2:valueAt σ2.kvs x = none:=by rw [e4]; exact hn
  have fo:∀ {A p}, Ev b m2 A (.Name (ofString "found") p) (.ref fa):=by exact Ev.loc hm2 rfl Kx rfl
  have nm:∀ {A p}, Ev b m2 A (.Name (ofString "name") p) (.str x tx):=by exact Ev.loc hm2 rfl Kx rfl
  refine Ts.re (k:=Wk c σ2 ++ ([(fd, dictOf es 17)] ++ ((fa, instObj 228 fd) :: R0))) mod_turn ?_
  have W3:=W2.mod g l2
  -- self.made[name] = found
  refine Ts.setitem (fo _ (Ev.wf (attr:=none) (se (iR (iC (iC hc)))) ⟨by k_is, by k_is, by k_is, by k_is⟩ W2.inv.ok.f_md rfl rfl _ (nm _ (Tv.made W2.inv W3.gw fun σ4 M4=>?_)))) rfl
  -- found.native = name
  refine Ts.setattr (nm _ (fo _ (Tv.wput iH h228 (by k_is) (isSome_get hF.native) (Nat.le_trans hF.len (Nat.le_of_ble_eq_true rfl)) (Gt.app (Gt.wkr W3.off.symm.l.symm) W3.off.symm.r.symm) fun es5 n5 P5=>?_))) rfl
  clear W3
  have hat5:has "attached" es5 .none:=(P5.other _ (by decide +kernel)).trans hF.attached
  have hpa5:has "parent" es5 .none:=(P5.other _ (by decide +kernel)).trans hF.parent
  have how5:has "owner" es5 .none:=(P5.other _ (by decide +kernel)).trans hF.owner
  have hmi5:∃ v, has "mixed" es5 v:=hF.mixed.imp fun v h=>(P5.other _ (by decide +kernel)).trans h
  have hln5:es5.length ≤ 18:=Nat.le_trans P5.len (Nat.succ_le_succ hF.len)
  have W5:=W2.madeW (j:=n5) g l2 M4 hx hn2 (ModOk.of iH (iC iH) ⟨_, hF.number.imp fun t h=>⟨(P5.other _ (by decide +kernel)).trans h, by lia⟩⟩ ⟨tx, P5.same⟩ hat5 (.inl hpa5) ((P5.other _ (by decide +kernel)).trans hF.own) (hF.idl P5 (by decide +kernel)))
  have hk5:miss σ4.kvs ≤ k:=by
    have:=(miss_stored hx hn2 (.ref fa)).2
    rw [M4.kvs]
    rw [e4] at *
    lia
  have hv5:valueAt σ4.kvs x = some (.ref fa):=by rw [M4.kvs, valueAt_stored]; simp
  have hna5:has "native" es5 (.str x tx):=P5.same
  clear P5 M4 hF W2 E2 g hn2
  have hf:(fa, instObj 228 fd) ∈ (fa, instObj 228 fd) :: R0:=iH
  replace hc:(b.L + 1, o) ∈ (fa, instObj 228 fd) :: R0:=iC hc
  revert W5 hf hc
  generalize (fa, instObj 228 fd) :: R0 = R5
  generalize [(fa, instObj 228 fd)] = T5
  intro W5 hf hc
  -- parent = BUILTINS[name]
  refine Ts.assign hm2 (ev_builtins (by exact Ev.glob (by k_is) Kx rfl) nm hb rfl _ fun m3 hm3=>?_) Kx rfl
  clear nm fo hm2
  -- found.parent = ..
  have fo:∀ {A p}, Ev b m3 A (.Name (ofString "found") p) (.ref fa):=by exact Ev.loc hm3 rfl Kx rfl
  have pa:∀ {A p}, Ev b m3 A (.Name (ofString "parent") p) pv:=by exact Ev.loc hm3 rfl Kx rfl
  refine Ts.setattr (Tv.mono (P:=fun v n'=>∃ σ6 T6 R6, n' = Wk c σ6 ++ ([(fd, dictOf es5 n5)] ++ R6) ∧ Wi w c σ X rest σ6 T6 [(fd, dictOf es5 n5)] R6 ∧ Ext σ4 σ6 ∧ (∀ p ∈ R5, p ∈ R6) ∧ (v = .none ∨ (x ≠ Bo ∧ ∃ bp, v = .ref bp ∧ (x = Ob → valueAt σ6.kvs Bo = some (.ref bp))))) ?par fun v n' ⟨σ6, T6, R6, e6, W6, E6, s6, hv6⟩=>?_) rfl
  case par =>
    rcases hpv with rfl | ⟨hxb, p, tp, rfl, hp, hxo⟩
    · exact Ev.ext (isN pa) Ev.none _ ⟨σ4, T5, R5, rfl, W5, Ext.refl _, fun _ h=>h, .inl rfl⟩
    · exact Tv.exf (isNs pa) (Tv.wm1 (heads:=[]) (se (List.mem_append_right (Wk c σ4) (iC hc))) wm_builtin W5.inv.ok.n_builtin (by k_is) (Evs.cons pa Evs.nil rfl)
        (Tv.wi (IH W5.inv hp hk5) W5 hr (fun r σ6 tl W6 E6 ⟨bp, e, hv⟩=>⟨σ6, _, _, rfl, W6, E6, fun _ h=>iL h, .inr ⟨hxb, bp, e, fun q=>by rw [← hxo q]; exact hv⟩⟩) (by lia)) rfl rfl rfl)
  subst e6
  refine fo _ (Tv.wput (s6 _ hf) h228 (by k_is) (isSome_get hpa5) (Nat.le_trans hln5 (Nat.le_of_ble_eq_true rfl)) W6.off fun es7 n7 P7=>?_)
  have W7:=W6.upd (es':=es7) (n':=n7) (P7.other _ (by decide +kernel)) (P7.other _ (by decide +kernel)) (P7.other _ (by decide +kernel)) (P7.other _ (by decide +kernel)) (fun y t hy _=>by
    have e:x = y:=native_inj hna5 hy
    subst e
    rcases hv6 with rfl | ⟨q1, bp, rfl, q2⟩
    · exact .inl P7.same
    · exact .inr ⟨q1, bp, P7.same, q2⟩) (P7.idl (by decide +kernel) hpa5)
  have how7:has "owner" es7 .none:=(P7.other _ (by decide +kernel)).trans how5
  have hmi7:∃ v, has "mixed" es7 v:=hmi5.imp fun v h=>(P7.other _ (by decide +kernel)).trans h
  have hln7:es7.length ≤ 19:=Nat.le_trans P7.len (Nat.succ_le_succ hln5)
  have hk7:miss σ6.kvs ≤ k:=Nat.le_trans (miss_mono E6.kvs) hk5
  have hv7:=E6.kvs _ _ hv5
  replace hf:=s6 _ hf
  replace hc:=s6 _ hc
  clear P7 hv6 W6 W5 E6 s6 hna5 hpa5 how5 hmi5 hln5 hk5 hv5 pa hpv
  -- found.owner = ..
  refine Ts.setattr (Tv.mono (P:=fun v n'=>∃ σ8 T8 R8, n' = Wk c σ8 ++ ([(fd, dictOf es7 n7)] ++ R8) ∧ Wi w c σ X rest σ8 T8 [(fd, dictOf es7 n7)] R8 ∧ Ext σ6 σ8 ∧ (∀ p ∈ R6, p ∈ R8)) ?own fun v n' ⟨σ8, T8, R8, e8, W8, E8, s8⟩=>?_) rfl
  case own =>
    refine Tv.wmx (heads:=[]) (se (List.mem_append_right (Wk c σ6) (iC hc))) wm_builtin W7.inv.ok.n_builtin (by k_is) (Tv.args1 (Tv.mono (P:=fun v n'=>n' = Wk c σ6 ++ ([(fd, dictOf es7 n7)] ++ R6) ∧ ∃ y t, v = .str y t ∧ y ∈ names) ?arg fun v n' ⟨e, y, t, e2, hy⟩=>?call) rfl) rfl rfl rfl
    case arg =>
      have ice:∀ {A p}, Ev b m3 A (.Name (ofString "is_class") p) (.bool ic):=by exact Ev.loc hm3 rfl Kx rfl
      cases ic with
      | true=>exact Tv.ext (Te.ev ice rfl) (Tv.cstr fun tk=>⟨rfl, _, tk, rfl, by decide +kernel⟩)
      | false=>exact Tv.exf (Te.ev ice rfl) (Tv.cstr fun tk=>⟨rfl, _, tk, rfl, by decide +kernel⟩)
    case call =>
      subst e
      subst e2
      exact Tv.args0 (Tv.wi (IH W7.inv hy hk7) W7 hr (fun r σ8 tl W8 E8 _=>⟨σ8, _, _, rfl, W8, E8, fun _ h=>iL h⟩) (by lia))
  subst e8
  refine fo _ (Tv.wput (s8 _ hf) h228 (by k_is) (isSome_get how7) (Nat.le_trans hln7 (Nat.le_of_ble_eq_true rfl)) W8.off fun es9 n9 P9=>?_)
  have W9:=W8.upd (es':=es9) (n':=n9) (P9.other _ (by decide +kernel)) (P9.other _ (by decide +kernel)) (P9.other _ (by decide +kernel)) (P9.other _ (by decide +kernel)) (fun y t hy h=>h.same (P9.other _ (by decide +kernel))) (P9.idl (by decide +kernel) how7)
  obtain ⟨vm, hmi9⟩:∃ v, has "mixed" es9 v:=hmi7.imp fun v h=>(P9.other _ (by decide +kernel)).trans h
  have hln9:es9.length ≤ 20:=Nat.le_trans P9.len (Nat.succ_le_succ hln7)
  have hk9:miss σ8.kvs ≤ k:=Nat.le_trans (miss_mono E8.kvs) hk7
  have hv9:=E8.kvs _ _ hv7
  replace hf:=s8 _ hf
  replace hc:=s8 _ hc
  clear P9 W8 W7 E8 s8 how7 hmi7 hln7 hk7 hv7
  -- found.mixed = ..
  have nm:∀ {A p}, Ev b m3 A (.Name (ofString "name") p) (.str x tx):=by exact Ev.loc hm3 rfl Kx rfl
  have gm:∀ {A} {P:Value × List Value → Led → Prop} {pl}, P (.builtin "dict.get", [.ref 418]) A → Tv b m3 A (getMethod (.ref 418) (ofString "get") pl) P:=fun h Q E h₁ tk F N ret=>mixed_method F b.X (ret _ _ _ _ F N h)
  have dg:∀ {A D} {P:Value → Led → Prop}, P (mz.getD (.ref D)) A → Tv b m3 A (call (.builtin "dict.get") [.ref 418, .str x tx, .ref D]) P:=fun h Q E h₁ tk F N ret=>mixed_get F b.X hX (ret _ _ _ _ F N h)
  refine Ts.setattr (Tv.compT (cl:=[(ofString "self", b.L + 1)]) hcp (Tv.meth ((show ∀ p, Ev b m3 _ (.Name (ofString "MIXED") p) (.ref 418) from fun p=>by exact Ev.glob (by k_is) Kx rfl) _ _ (gm (Tv.withm1 (Tv.args1 (nm _ (Tv.args1 (Tv.tup (Tv.args0 (Tv.tuple (fun D hD=>Tv.re own_turn (Tv.args0 (dg ?src))) (Nat.zero_le _)))) rfl)) rfl) rfl rfl))) rfl) ?clos ?cell rfl ?names rfl (fun v=>rfl)) rfl
  case clos =>
    rw [Amb.env_of hcp]
    show closureFor _ (envX b.cn b.cs b.L b.a b.ccd b.cl) = _
    rw [hcs, hcl]
    rfl
  case cell=>decide
  case names=>decide
  case src =>
    have W10:=W9.own (own:=[(D, { cls:=.type "tuple", data:=.seq ([]:List Value).toArray })]) (fun q hq p hp=>by rw [List.mem_singleton.mp hq]; exact Ne.symm (Nat.ne_of_lt (hD p hp)))
    have hT:∃ ax, mz.getD (.ref D) = .ref ax ∧ (∀ (i:Nat) (v:Value), its[i]? = some v → ∀ n', TupAt b.h₀ ax its.toArray n') ∧ TupAt b.h₀ ax its.toArray (Wk c σ8 ++ ([(fd, dictOf es9 n9)] ++ ([(D, { cls:=.type "tuple", data:=.seq ([]:List Value).toArray })] ++ R8))):=by
      rcases hmx with ⟨rfl, rfl⟩ | ⟨ta, rfl, ht⟩
      · exact ⟨D, rfl, (fun i v hv=>by simp at hv), .inr ⟨_, iR (iC iH), rfl, _, rfl⟩⟩
      · have q:=fun n':Led=>(show TupAt b.h₀ ta its.toArray n' from .inl ⟨_, b.X _ _ ht, rfl, _, rfl⟩)
        exact ⟨ta, rfl, fun _ _ _=>q, q _⟩
    refine byP fun _ q9=>?_
    obtain ⟨ax, hax, hT1, hT0⟩:=hT
    refine q9 ?_
    refine ⟨ax, its, fun i ys n'=>TupAt b.h₀ ax its.toArray n' ∧ ∃ σ' T' R', n' = Wk c σ' ++ ([(fd, dictOf es9 n9)] ++ R') ∧ Wi w c σ X rest σ' T' [(fd, dictOf es9 n9)] R' ∧ Ext σ8 σ' ∧ (∀ p ∈ R8, p ∈ R'), hax, hz, ⟨hT0, σ8, T8, _, rfl, W10, Ext.refl _, fun _ h=>iC h⟩, fun _ _ _ h=>h.1, ?step, ?fin⟩
    case step =>
      intro i ys n' v heads C oC m₂ hv z9 hC hoC hm2 off
      refine byP fun _ q9=>?_
      obtain ⟨hT', σ', T', R', rfl, W', E', s'⟩:=z9
      refine q9 ?_
      refine byP fun _ q9=>?_
      obtain ⟨y, ty, rfl, hy⟩:=hits i v hv
      refine q9 ?_
      exact Tv.wm1 (b:=b.inC _ _ C) (Ev.ccell rfl (iR (List.mem_append_right (Wk c σ') (iC (s' _ hc)))) ho (Kc.of hcs rfl rfl) rfl) wm_builtin W'.inv.ok.n_builtin (by k_is) (Evs.cons (Ev.own (iL hC) hoC hm2 (Kc.of hcs rfl rfl) rfl) Evs.nil rfl)
        (Tv.wih (b:=b.inC _ _ C) (IH W'.inv hy (Nat.le_trans (miss_mono E'.kvs) hk9)) W' (fun q hq p hp=>Ne.symm (off q hq p hp)) hr (fun r σ2 tl W2 E2 g _=>⟨_, fun _ h=>h, fun q hq p hp=>Ne.symm (g q hq p hp), hT1 i _ hv _, σ2, _, _, rfl, W2, E'.trans E2, fun _ h=>iL (s' _ h)⟩) (by lia)) rfl rfl rfl
    case fin =>
      intro D2 ys n' z9 o1
      refine byP fun _ q9=>?_
      obtain ⟨_, σ', T', R', rfl, W', E', s'⟩:=z9
      refine q9 ?_
      refine Tv.re (k:=Wk c σ' ++ ([(fd, dictOf es9 n9)] ++ R')) (fun p hp=>iC hp) (fo _ (Tv.wput (s' _ hf) h228 (by k_is) (isSome_get hmi9) (Nat.le_trans hln9 (Nat.le_of_ble_eq_true rfl)) W'.off fun es11 n11 P11=>?_))
      have W11:=W'.upd (es':=es11) (n':=n11) (P11.other _ (by decide +kernel)) (P11.other _ (by decide +kernel)) (P11.other _ (by decide +kernel)) (P11.other _ (by decide +kernel)) (fun y t hy h=>h.same (P11.other _ (by decide +kernel))) (P11.idl (by decide +kernel) hmi9)
      have hv11:=E'.kvs _ _ hv9
      have ret:∀ {K':Fm → Led → Prop} {p q:Pos}, Ts b m3 (Wk c σ' ++ ([(fd, dictOf es11 n11)] ++ R')) [.Return (some (.Name (ofString "found") p)) q] (Wo w c σ X rest fun r σ' _=>∃ b, r = .ref b ∧ valueAt σ'.kvs x = some (.ref b)) K':=Ts.ret (fo _ (W11.owes (fun _ h=>h) ⟨fa, rfl, hv11⟩))
      refine Ts.ite (Te.ev (x:=σ'.rd) (Ev.wf (attr:=none) (se (List.mem_append_right (Wk c σ') (iC (s' _ hc)))) ⟨by k_is, by k_is, by k_is, by k_is⟩ W11.inv.ok.f_rd rfl rfl) rfl _ ⟨fun _=>?_, fun _=>Ts.nil ret⟩)
      exact Ts.expr (Tv.wm1 (heads:=[]) (se (List.mem_append_right (Wk c σ') (iC (s' _ hc)))) wm_own W11.inv.ok.n_own (by k_is) (Evs.cons nm Evs.nil rfl) (Tv.wih0 (heads:=[]) (give_own_ok W11.inv hl) (fun r σ' tl hP=>hP.2.2) W11 (fun _ h=>nomatch h) hr (fun r σ3 W3 E3 _ hP=>by
        have e:=hP.2.1
        subst e
        exact Ts.nil ret) (by lia)) rfl rfl rfl) hcp rfl
theorem len_names:∀ x ∈ names, x.length ≤ 40:=by decide +kernel
theorem no_names:∀ (i:Nat) (v:Value), ([]:List Value)[i]? = some v → ∃ y ty, v = .str y ty ∧ y ∈ names:=fun i v h=>by simp at h
theorem one_name {y:Str} {t:Tok} (h:y ∈ names):∀ (i:Nat) (v:Value), [Value.str y t][i]? = some v → ∃ y ty, v = .str y ty ∧ y ∈ names:=fun i v e=>by
  cases i with
  | zero=>exact ⟨_, _, (by simpa using e.symm), h⟩
  | succ i=>simp at e
theorem make3 {w mx} {k dn:Nat} {c:Wc} {σ:Ws} {X:Led} {x:Str} {tx:Tok} {p y:Str} {tp ty:Tok} {ta:Addr} (IH:BC w mx k dn) (hI:Inv w c σ X) (hx:x ∈ names) (hn:valueAt σ.kvs x = none) (hk:miss σ.kvs ≤ k + 1) (hm:modNames.any (· == x) = false) (hb:nsIn (K9 w.params) 415 x = some (some (.str p tp))) (hX:nsIn (K9 w.params) 418 x = some (some (.ref ta))) (ht:(K9 w.params).lookup ta = some ⟨.type "tuple", none, .seq [.str y ty].toArray 0, #[]⟩) (hp:p ∈ names) (hy:y ∈ names) (hxb:x ≠ Bo) (hxo:x = Ob → p = Bo) :
    WC w mx c σ X 488 (dn + 5) [.ref c.wa, .str x tx] (fun r σ' _=>∃ b, r = .ref b ∧ valueAt σ'.kvs x = some (.ref b)) :=
  make_g (ic:=true) IH hI hx hn hk hm (len_names x hx) hb hX (.inr ⟨ta, rfl, ht⟩) (one_name hy) (by rw [sizeLine_eq]; exact Nat.le_of_ble_eq_true rfl) (.inr ⟨hxb, p, tp, rfl, hp, hxo⟩)
theorem make2 {w mx} {k dn:Nat} {c:Wc} {σ:Ws} {X:Led} {x:Str} {tx:Tok} {p:Str} {tp:Tok} (IH:BC w mx k dn) (hI:Inv w c σ X) (hx:x ∈ names) (hn:valueAt σ.kvs x = none) (hk:miss σ.kvs ≤ k + 1) (hm:modNames.any (· == x) = false) (hb:nsIn (K9 w.params) 415 x = some (some (.str p tp))) (hX:nsIn (K9 w.params) 418 x = some none) (hp:p ∈ names) (hxb:x ≠ Bo) (hxo:x = Ob → p = Bo) :
    WC w mx c σ X 488 (dn + 5) [.ref c.wa, .str x tx] (fun r σ' _=>∃ b, r = .ref b ∧ valueAt σ'.kvs x = some (.ref b)) :=
  make_g (ic:=true) IH hI hx hn hk hm (len_names x hx) hb hX (.inl ⟨rfl, rfl⟩) no_names (Nat.zero_le _) (.inr ⟨hxb, p, tp, rfl, hp, hxo⟩)
theorem make1 {w mx} {k dn:Nat} {c:Wc} {σ:Ws} {X:Led} {x:Str} {tx:Tok} {ic:Bool} (IH:BC w mx k dn) (hI:Inv w c σ X) (hx:x ∈ names) (hn:valueAt σ.kvs x = none) (hk:miss σ.kvs ≤ k + 1) (hm:modNames.any (· == x) = !ic) (hb:nsIn (K9 w.params) 415 x = some (some .none)) (hX:nsIn (K9 w.params) 418 x = some none) :
    WC w mx c σ X 488 (dn + 5) [.ref c.wa, .str x tx] (fun r σ' _=>∃ b, r = .ref b ∧ valueAt σ'.kvs x = some (.ref b)) :=
  make_g (ic:=ic) IH hI hx hn hk hm (len_names x hx) hb hX (.inl ⟨rfl, rfl⟩) no_names (Nat.zero_le _) (.inl rfl)
theorem make_any {w mx} {k dn:Nat} {c:Wc} {σ:Ws} {X:Led} {x:Str} {tx:Tok} (IH:BC w mx k dn) (hI:Inv w c σ X) (hx:x ∈ names) (hn:valueAt σ.kvs x = none) (hk:miss σ.kvs ≤ k + 1) :
    WC w mx c σ X 488 (dn + 5) [.ref c.wa, .str x tx] (fun r σ' _=>∃ b, r = .ref b ∧ valueAt σ'.kvs x = some (.ref b)):=by
  have hx':=hx
  simp only [names, List.mem_cons, List.not_mem_nil, or_false] at hx'
  rcases hx' with rfl | rfl | rfl | rfl | rfl | rfl | rfl | rfl | rfl | rfl | rfl | rfl | rfl
  · refine' make3 IH hI hx hn hk (by decide +kernel) ?hb ?hX ?ht ?hp ?hy (by decide +kernel) (fun _=>rfl); (case hb=>k_is); (case hX=>k_is); (case ht=>k_is); (case hp=>decide +kernel); (case hy=>decide +kernel)
  · exact make1 (ic:=true) IH hI hx hn hk (by decide +kernel) (by k_is) (by k_is)
  · refine' make2 IH hI hx hn hk (by decide +kernel) ?hb ?hX ?hp (by decide +kernel) (fun h=>absurd h (by decide +kernel)); (case hb=>k_is); (case hX=>k_is); (case hp=>decide +kernel)
  · refine' make2 IH hI hx hn hk (by decide +kernel) ?hb ?hX ?hp (by decide +kernel) (fun h=>absurd h (by decide +kernel)); (case hb=>k_is); (case hX=>k_is); (case hp=>decide +kernel)
  · exact make1 (ic:=false) IH hI hx hn hk (by decide +kernel) (by k_is) (by k_is)
  · exact make1 (ic:=false) IH hI hx hn hk (by decide +kernel) (by k_is) (by k_is)
  · exact make1 (ic:=false) IH hI hx hn hk (by decide +kernel) (by k_is) (by k_is)
  · refine' make3 IH hI hx hn hk (by decide +kernel) ?hb ?hX ?ht ?hp ?hy (by decide +kernel) (fun h=>absurd h (by decide +kernel)); (case hb=>k_is); (case hX=>k_is); (case ht=>k_is); (case hp=>decide +kernel); (case hy=>decide +kernel)
  · refine' make2 IH hI hx hn hk (by decide +kernel) ?hb ?hX ?hp (by decide +kernel) (fun h=>absurd h (by decide +kernel)); (case hb=>k_is); (case hX=>k_is); (case hp=>decide +kernel)
  · refine' make3 IH hI hx hn hk (by decide +kernel) ?hb ?hX ?ht ?hp ?hy (by decide +kernel) (fun h=>absurd h (by decide +kernel)); (case hb=>k_is); (case hX=>k_is); (case ht=>k_is); (case hp=>decide +kernel); (case hy=>decide +kernel)
  · refine' make3 IH hI hx hn hk (by decide +kernel) ?hb ?hX ?ht ?hp ?hy (by decide +kernel) (fun h=>absurd h (by decide +kernel)); (case hb=>k_is); (case hX=>k_is); (case ht=>k_is); (case hp=>decide +kernel); (case hy=>decide +kernel)
  · refine' make3 IH hI hx hn hk (by decide +kernel) ?hb ?hX ?ht ?hp ?hy (by decide +kernel) (fun h=>absurd h (by decide +kernel)); (case hb=>k_is); (case hX=>k_is); (case ht=>k_is); (case hp=>decide +kernel); (case hy=>decide +kernel)
  · refine' make3 IH hI hx hn hk (by decide +kernel) ?hb ?hX ?ht ?hp ?hy (by decide +kernel) (fun h=>absurd h (by decide +kernel)); (case hb=>k_is); (case hX=>k_is); (case ht=>k_is); (case hp=>decide +kernel); (case hy=>decide +kernel)
theorem builtin_new {w mx} {dn:Nat} {c:Wc} {σ:Ws} {X:Led} {x:Str} {tx:Tok} (hI:Inv w c σ X) (hx:valueAt σ.kvs x = none)
    (C:WC w mx c σ X 488 dn [.ref c.wa, .str x tx] (fun r σ' _=>∃ b, r = .ref b ∧ valueAt σ'.kvs x = some (.ref b))) :
    WC w mx c σ X 483 (dn + 2) [.ref c.wa, .str x tx] (fun r σ' _=>∃ b, r = .ref b ∧ valueAt σ'.kvs x = some (.ref b)):=by
  refine wi_enter (bm:=[(ofString "name", .str x tx), (ofString "self", .ref c.wa)]) (by k_is) (by k_is) (by first | exact fun s X=>BindsTo.of_eq rfl | exact fun s X=>binds_K X rfl (by k_is) rfl rfl rfl) (by exact rfl) (by exact rfl) (by exact rfl) (by exact rfl) (by exact rfl) (by first | decide | lia) (by exact rfl) hI fun b m rest hm hcp hcs hcl hr W=>?_
  have se:∀ {A p}, Ev b m A (.Name (ofString "self") p) (.ref c.wa):=by exact Ev.loc hm rfl Kx rfl
  have nm:∀ {A p}, Ev b m A (.Name (ofString "name") p) (.str x tx):=by exact Ev.loc hm rfl Kx rfl
  refine Ts.assign hm (ev_mget (Ev.wf (attr:=none) se ⟨by k_is, by k_is, by k_is, by k_is⟩ W.inv.ok.f_md rfl rfl) nm (iL Wk.m2) W.inv.dict W.inv.lo rfl rfl rfl _ fun m1 hm1=>?_) Kx rfl
  rw [hx] at hm1
  have nm:∀ {A p}, Ev b m1 A (.Name (ofString "name") p) (.str x tx):=by exact Ev.loc hm1 rfl Kx rfl
  refine Ts.ret (Tv.ext (isN (by exact Ev.loc hm1 rfl Kx rfl)) (Tv.wm1 (heads:=[]) (by exact Ev.loc hm1 rfl Kx rfl) wm_make W.inv.ok.n_make (by k_is) (Evs.cons nm Evs.nil rfl) (Tv.wi (by simpa using C) W hr (fun r σ2 tl W2 E2 hP=>W2.owes (fun _ h=>h) hP) (by lia)) rfl rfl rfl))
theorem WC.le {w mx} {c:Wc} {σ:Ws} {X:Led} {f:Addr} {n k:Nat} {args:List Value} {P:Value → Ws → Led → Prop} (h:WC w mx c σ X f n args P) (hk:n ≤ k):WC w mx c σ X f k args P:=by
  intro rest hs hg dp un gd cn cs a ccd cl outer A₀ base h₀ L m s Q E B F X₀ N T hk' hd' hu hret
  exact h rest hs hg dp un gd cn cs a ccd cl outer A₀ base h₀ L m s Q E B F X₀ N T hk' (by lia) (by lia) hret
theorem WC.mono {w mx} {c:Wc} {σ:Ws} {X:Led} {f:Addr} {n:Nat} {args:List Value} {P P':Value → Ws → Led → Prop} (h:WC w mx c σ X f n args P) (hP:∀ r σ' tl, Inv w c σ' (X ++ tl) → Ext σ σ' → P r σ' tl → P' r σ' tl):WC w mx c σ X f n args P':=by
  intro rest hs hg dp un gd cn cs a ccd cl outer A₀ base h₀ L m s Q E B F X₀ N T hk' hd' hu hret
  refine h rest hs hg dp un gd cn cs a ccd cl outer A₀ base h₀ L m s Q E B F X₀ N T hk' hd' hu fun r n' tl h' tk' F' N' g' hR=>hret r n' tl h' tk' F' N' g' ?_
  refine byP fun _ q9=>?_
  obtain ⟨σ', e, I, X, p⟩:=hR
  refine q9 ?_
  exact ⟨σ', e, I, X, hP _ _ _ I X p⟩
theorem miss_pos {kvs:List (Str × Value)} {x:Str} (hx:x ∈ names) (h:valueAt kvs x = none):1 ≤ miss kvs:=by
  unfold miss
  exact List.length_pos_of_mem (List.mem_filter.mpr ⟨hx, by rw [h]; rfl⟩)
theorem builtin_any {w mx}:∀ k:Nat, BC w mx k (7 * k + 1):=by
  have old:∀ {c:Wc} {σ:Ws} {X:Led} {x:Str} {tx:Tok} {v:Value}, Inv w c σ X → valueAt σ.kvs x = some v → WC w mx c σ X 483 1 [.ref c.wa, .str x tx] (fun r σ' _=>∃ b, r = .ref b ∧ valueAt σ'.kvs x = some (.ref b)):=by
    intro c σ X x tx v hI hv
    refine byP fun _ q9=>?_
    obtain ⟨_, b, e, _⟩:=hI.mods x v hv
    refine q9 ?_
    rw [e] at hv
    exact (builtin_old hI hv).mono fun r σ' tl _ _ hP=>⟨b, hP.1, by rw [hP.2.1]; exact hv⟩
  intro k
  induction k with
  | zero =>
    intro c σ X x tx hI hx hk
    cases hv:valueAt σ.kvs x with
    | none=>exact absurd (miss_pos hx hv) (by lia)
    | some v=>exact old hI hv
  | succ k ih =>
    intro c σ X x tx hI hx hk
    cases hv:valueAt σ.kvs x with
    | none=>exact builtin_new hI hv (make_any ih hI hx hv hk)
    | some v=>exact (old hI hv).le (by lia)
inductive Idn (l:Led):Value → PV ⊕ Int → Prop
  | plain {v:Value} {pv:PV}:DatIn [] v pv.dat → Idn l v (.inl pv)
  | thing {a C d:Addr} {es:List DictEntry} {n:Nat} {k:Int} {t:Tok}:C ∈ ([40, 62, 82, 120, 140, 228]:List Nat) → (a, instObj C d) ∈ l → (d, dictOf es n) ∈ l → has "number" es (.int k t) → Idn l (.ref a) (.inr k)
theorem Idn.mono {l k:Led} (s:∀ p ∈ l, p ∈ k) {v:Value} {i:PV ⊕ Int} (h:Idn l v i):Idn k v i:=by
  cases h with
  | plain h=>exact .plain h
  | thing h1 h2 h3 h4=>exact .thing h1 (s _ h2) (s _ h3) h4
noncomputable def sortS:PV ⊕ Int → String
  | .inl (.int _)=>"int" | .inl (.bool _)=>"bool" | .inl .none=>"nil" | .inl (.sym _)=>"sym" | .inr _=>"thing"
theorem Idn.kind {l:Led} {v:Value} {i:PV ⊕ Int} (h:Idn l v i):Kind l v (sortS i):=by
  cases h with
  | plain h =>
    rename_i pv
    cases pv <;> cases h
    · exact .int _ _
    · exact .bool _
    · exact .none
    · exact .str _ _
  | thing h1 h2 h3 h4=>exact .inst h1 h2 h3
theorem dat_str {l:Led} {v:Value} {x:Str} (h:DatIn l v (.str x)):∃ t, v = .str x t:=by
  cases h
  exact ⟨_, rfl⟩
theorem dat_int {l:Led} {v:Value} {x:Int} (h:DatIn l v (.int x)):∃ t, v = .int x t:=by
  cases h
  exact ⟨_, rfl⟩
theorem dat_none {l:Led} {v:Value} (h:DatIn l v .none):v = .none:=by
  cases h
  rfl
theorem dat_bool {l:Led} {v:Value} {b:Bool} (h:DatIn l v (.bool b)):v = .bool b:=by
  cases h
  rfl
theorem num_fld {w:World} {C:Addr} (h:C ∈ ([40, 62, 82, 120, 140, 228]:List Nat)):FieldOk w C (ofString "number") none:=by
  rcases h with _ | ⟨_, _ | ⟨_, _ | ⟨_, _ | ⟨_, _ | ⟨_, _ | ⟨_, h⟩⟩⟩⟩⟩⟩
  · exact n_40
  · exact ⟨by k_is, by k_is, by k_is, by k_is⟩
  · exact n_82
  · exact n_120
  · exact ⟨by k_is, by k_is, by k_is, by k_is⟩
  · exact n_228
  · cases h
section
variable {w mx} {b:Amb w mx} {m:Fm} {n:Led}
inductive Sm:Value → Value → PV ⊕ Int → PV ⊕ Int → Prop
  | int {i j:Int} {t u:Tok}:Sm (.int i t) (.int j u) (.inl (.int i)) (.inl (.int j))
  | bool {i j:Bool}:Sm (.bool i) (.bool j) (.inl (.bool i)) (.inl (.bool j))
  | str {i j:Str} {t u:Tok}:Sm (.str i t) (.str j u) (.inl (.sym i)) (.inl (.sym j))
  | none:Sm .none .none (.inl .none) (.inl .none)
theorem bool_iff {x c:Bool} {P:Prop} (hc:c = true ↔ P) (hx:x = true ↔ P):x = c:=by
  cases x <;> cases c <;> first | rfl | exact absurd (hx.mp rfl) fun h=>(nomatch hc.mpr h) | exact absurd (hc.mp rfl) fun h=>(nomatch hx.mpr h)
theorem cp_same {v u:Value} {i j:PV ⊕ Int} {c:Bool} (h:Sm v u i j) (hc:c = true ↔ i = j):Cp b m n .Eq v u (.bool c):=fun P k Q E h₁ tk F N ret=>by
  have go:∀ x:Bool, (x = true ↔ i = j) → Q (.bool x) (b.st h₁ tk):=fun x hx=>bool_iff hc hx ▸ ret _ _ _ _ F N (k tk)
  cases h with
  | int=>exact eq_int (go _ (by simp))
  | bool=>walk1; exact go _ (by simp)
  | str=>walk1; exact go _ (by simp)
  | none=>walk1; exact go _ (by simp)
end
inductive Sh (l:Led):Value → Value → PV ⊕ Int → PV ⊕ Int → Prop
  | plain {v u:Value} {i j:PV ⊕ Int} (s:Sm v u i j) (e:(ofString (sortS i) == ofString "thing") = false):Sh l v u i j
  | thing {a C d a' C' d':Addr} {es es':List DictEntry} {n n':Nat} {k k':Int} {t t':Tok} (h1:C ∈ ([40, 62, 82, 120, 140, 228]:List Nat)) (h2:(a, instObj C d) ∈ l) (h3:(d, dictOf es n) ∈ l) (h4:has "number" es (.int k t)) (g1:C' ∈ ([40, 62, 82, 120, 140, 228]:List Nat)) (g2:(a', instObj C' d') ∈ l) (g3:(d', dictOf es' n') ∈ l) (g4:has "number" es' (.int k' t')):Sh l (.ref a) (.ref a') (.inr k) (.inr k')
theorem sh_of {l:Led} {v u:Value} {i j:PV ⊕ Int} (hv:Idn l v i) (hu:Idn l u j) (h:(ofString (sortS i) != ofString (sortS j)) = false):Sh l v u i j:=by
  cases hv with
  | @plain _ pv h1 =>
    cases hu with
    | @plain _ pu h2 =>
      cases pv with
      | int x =>
        obtain ⟨_, e⟩:=dat_int h1
        cases pu with
        | int y=>obtain ⟨_, e'⟩:=dat_int h2; rw [e, e']; exact .plain .int rfl
        | _=>exact nomatch (show true = false from h)
      | bool x =>
        cases pu with
        | bool y=>rw [dat_bool h1, dat_bool h2]; exact .plain .bool rfl
        | _=>exact nomatch (show true = false from h)
      | none =>
        cases pu with
        | none=>rw [dat_none h1, dat_none h2]; exact .plain .none rfl
        | _=>exact nomatch (show true = false from h)
      | sym x =>
        obtain ⟨_, e⟩:=dat_str h1
        cases pu with
        | sym y=>obtain ⟨_, e'⟩:=dat_str h2; rw [e, e']; exact .plain .str rfl
        | _=>exact nomatch (show true = false from h)
    | thing=>cases pv <;> exact nomatch (show true = false from h)
  | thing hC a1 a2 a3 =>
    cases hu with
    | @plain _ pu h2=>cases pu <;> exact nomatch (show true = false from h)
    | thing hD b1 b2 b3=>exact .thing hC a1 a2 a3 hD b1 b2 b3
theorem same_ok {w mx} {l:Led} {v u:Value} {i j:PV ⊕ Int} (hv:Idn l v i) (hu:Idn l u j) (c:Bool) (hc:c = true ↔ i = j):Does w mx 244 3 [v, u] l (fun r n' tl=>r = .bool c ∧ n' = l ∧ tl = []):=by
  refine does_enter (bm:=[(ofString "other", u), (ofString "one", v)]) (by k_is) (by k_is) (by first | exact fun s X=>BindsTo.of_eq rfl | exact fun s X=>binds_K X rfl (by k_is) rfl rfl rfl) (by exact rfl) (by exact rfl) (by exact rfl) (by exact rfl) (by exact rfl) (by first | decide | lia) (by exact rfl) fun b m hm hcp hcs hcl hr=>?_
  have es:∀ {m p}, Ev b m l (.Name (ofString "sort_of") p) (.ref 237):=by exact Ev.glob (by k_is) Kx rfl
  have e1:∀ {p}, Ev b m l (.Name (ofString "one") p) v:=by exact Ev.loc hm rfl Kx rfl
  refine Ts.assign hm (Tv.gcall es (by k_is) (Evs.cons e1 Evs.nil rfl) (Tv.does0 (sort_ok hv.kind) hr (fun r n' tl ⟨_, _, q⟩=>q) (fun r ⟨t, e, _⟩ m1 hm1=>?_) (by decide)) rfl rfl) Kx rfl
  subst e
  clear e1 hm
  have e1:∀ {p}, Ev b m1 l (.Name (ofString "one") p) v:=by exact Ev.loc hm1 rfl Kx rfl
  have e2:∀ {p}, Ev b m1 l (.Name (ofString "other") p) u:=by exact Ev.loc hm1 rfl Kx rfl
  have e3:∀ {p}, Ev b m1 l (.Name (ofString "sort") p) (.str (ofString (sortS i)) t):=by exact Ev.loc hm1 rfl Kx rfl
  clear hm1
  have fin:∀ {R:Value → Led → Led → Prop}, R (.bool c) l [] → Owes l R (.bool c) l:=fun h=>Owes.same h
  refine Ts.ite (Tv.cmp1 (e3 _ (Tv.gcall es (by k_is) (Evs.cons e2 Evs.nil rfl) (Tv.does0 (sort_ok hu.kind) hr (fun r n' tl ⟨_, _, q⟩=>q) (fun r ⟨t2, e, _⟩=>e ▸ fun Q E h₁ tk F N ret=>ne_str (ret _ _ _ _ F N (Tv.tbool ⟨fun h=>?_, fun h=>Ts.nil ?_⟩))) (by decide)) rfl rfl)) rfl)
  · have:c = false:=by
      cases hcc:c with
      | false=>rfl
      | true =>
        rw [hc.mp hcc] at h
        exact absurd h (by simp)
    subst this
    exact Ts.ret (Tv.cbool (fin ⟨rfl, rfl, rfl⟩))
  cases sh_of hv hu h with
  | plain s e=>exact Ts.ret (Tv.exf (Te.eqs e3 e) (Tv.cmpv (e1 _ (e2 _ (cp_same s hc _ fun _=>fin ⟨rfl, rfl, rfl⟩))) rfl))
  | thing hC a1 a2 a3 hD b1 b2 b3=>exact Ts.ret (Tv.ext (Te.eqs e3 rfl) (Tv.cmpv (Ev.attr e1 a1 a2 (num_fld hC) a3 rfl rfl _ (Ev.attr e2 b1 b2 (num_fld hD) b3 rfl rfl _ fun Q E h₁ tk F N ret=>eq_int (bool_iff hc ((beq_iff_eq).trans ⟨congrArg Sum.inr, Sum.inr.inj⟩) ▸ ret _ _ _ _ F N (fin ⟨rfl, rfl, rfl⟩)))) rfl))
theorem miss_le (kvs:List (Str × Value)):miss kvs ≤ 13:=List.length_filter_le _ _
theorem builtin_ok {w mx} {c:Wc} {σ:Ws} {X:Led} {x:Str} {tx:Tok} (hI:Inv w c σ X) (hx:x ∈ names) :
    WC w mx c σ X 483 92 [.ref c.wa, .str x tx] (fun r σ' _=>∃ b, r = .ref b ∧ valueAt σ'.kvs x = some (.ref b)):=builtin_any 13 hI hx (miss_le _)
theorem Inv.more {w:World} {c:Wc} {σ:Ws} {X t:Led} (h:Inv w c σ X) (g:Gt (Wk c σ) t):Inv w c σ (X ++ t):=h.mono (Gt.app h.gt g) fun p hp=>iL hp
noncomputable def Fresh (t:Led) (a C:Addr) (es:List DictEntry) (lo hi:Int):Prop:=Ins t a C es ∧ has "ident" es .none ∧ ∃ k u, has "number" es (.int k u) ∧ lo < k ∧ k ≤ hi ∧ es.length ≤ 30
theorem NewF.fresh {t:Led} {a C d:Addr} {es:List DictEntry} {i lo hi:Int} {n:Nat} (h:NewF es i) (h1:(a, instObj C d) ∈ t) (h2:(d, dictOf es n) ∈ t) (l1:lo < i) (l2:i ≤ hi):Fresh t a C es lo hi:=by
  obtain ⟨u, hn⟩:=h.number
  exact ⟨⟨d, n, h1, h2⟩, h.ident, i, u, hn, l1, l2, Nat.le_trans h.len (Nat.le_of_ble_eq_true rfl)⟩
theorem NewF.fresh2 {t:Led} {a C d:Addr} {es:List DictEntry} {i lo hi:Int} {n:Nat} (h:NewF es i) (l1:lo < i) (l2:i ≤ hi):Fresh ([] ++ (t ++ [(a, instObj C d), (d, dictOf es n)])) a C es lo hi :=
  h.fresh (n:=n) (List.mem_append_right t iH) (List.mem_append_right t (iC iH)) l1 l2
theorem app1 {a R:Led} {q:Addr × Obj}:∀ p ∈ a ++ ([] ++ (R ++ [q])), p ∈ q :: (a ++ ([] ++ R)):=fun p hp=>by
  simp only [List.mem_append, List.mem_cons, List.nil_append, List.not_mem_nil, or_false] at hp ⊢
  rcases hp with h | h | h
  · exact .inr (.inl h)
  · exact .inr (.inr h)
  · exact .inl h
theorem lt_gt {l:Led} {D:Addr} {o:Obj} (h:∀ p ∈ l, p.1 < D):Gt l [(D, o)]:=fun q hq p hp=>by rw [List.mem_singleton.mp hp]; exact Nat.ne_of_lt (h q hq)
theorem app3 {a R t:Led}:∀ p ∈ a ++ ([] ++ (R ++ t)), p ∈ (a ++ ([] ++ R)) ++ t:=fun p hp=>by
  rw [List.append_assoc]; exact hp
section
variable {w mx} {b:Amb w mx} {m:Fm} {n:Led} {k:Wc} {σ0 σ:Ws} {X rest T R:Led}
theorem Wi.more {tl:Led} (W:Wi w k σ0 X rest σ T [] R) (g:Gt (Wk k σ ++ ([] ++ R)) tl):Wi w k σ0 X rest σ (T ++ tl) [] (R ++ tl):=W.call (W.inv.more g.l) (Ext.refl σ) g
theorem Tv.newargs {x:Str} {es:List Expr} {p1 p2 p3 p4 p5 p6 p7 pos:Pos} {k0 dn:Nat} {P:List Value → Led → Prop} {pl1 pl2:Sem Bool} (W:Wi w k σ0 X rest σ T [] R) (hr:b.Room dn) (hs:∀ {A p}, Ev b m A (.Name (ofString "self") p) (.ref k.wa)) (hx:x ∈ names)
    (h:∀ t σ2 tl bo, Wi w k σ0 X rest σ2 (T ++ tl) [] (R ++ tl) → σ.num + 1 ≤ σ2.num → valueAt σ2.kvs x = some (.ref bo) → Tv b m (Wk k σ2 ++ ([] ++ (R ++ tl))) (spliced (backTo pos (starEach es b.env))) fun vs n2=>P (.int (σ.num + 1) t :: .ref bo :: vs) n2) (hd:92 < dn)
    (he1:eval (Expr.Call (.Attribute (.Name (ofString "self") p1) (ofString "number") p2) [] [] p3) b.env = (do let ov ← eval (.Name (ofString "self") p1) b.env; standAt (Pos.atName p2); let x ← holding [ov] (getMethod ov (ofString "number") pl1); match x with | (g, first)=>callWith p3 g first (backTo p3 (starEach [] b.env)) []))
    (he2:eval (Expr.Call (.Attribute (.Name (ofString "self") p4) (ofString "builtin") p5) [.Constant (.str x) k0 p6] [] p7) b.env = (do let ov ← eval (.Name (ofString "self") p4) b.env; standAt (Pos.atName p5); let z ← holding [ov] (getMethod ov (ofString "builtin") pl2); match z with | (g, first)=>callWith p7 g first (backTo p7 (starEach [.Constant (.str x) k0 p6] b.env)) [])) :
    Tv b m (Wk k σ ++ ([] ++ R)) (spliced (backTo pos (starEach (.Call (.Attribute (.Name (ofString "self") p1) (ofString "number") p2) [] [] p3 :: .Call (.Attribute (.Name (ofString "self") p4) (ofString "builtin") p5) [.Constant (.str x) k0 p6] [] p7 :: es) b.env))) P :=
  Tv.args1 (Tv.num (heads:=[]) hs W (fun _ h=>nomatch h) hr (fun t σ1 W1 E1 _ en _=>Tv.args1 (Tv.wmx (heads:=[]) hs wm_builtin W1.inv.ok.n_builtin (by k_is) (Tv.args1 (Tv.cstr fun tk=>Tv.args0 (Tv.wi (builtin_ok W1.inv hx) W1 hr (fun r σ2 tl W2 E2 ⟨bo, e, hv⟩=>by
    subst e
    exact h t σ2 tl bo W2 (by have:=E2.num; lia) hv) hd)) rfl) he2 rfl rfl) rfl) (by lia) he1) rfl
end
theorem text_ok {w mx} {c:Wc} {σ:Ws} {X:Led} {x:Str} {tx:Tok} (hI:Inv w c σ X) :
    WC w mx c σ X 545 96 [.ref c.wa, .str x tx] (fun r σ' tl=>∃ a es, r = .ref a ∧ Fresh tl a 62 es σ.num σ'.num ∧ has "text" es (.str x tx)):=by
  refine WC.gen fun PG gP=>?_
  refine wi_enter (bm:=[(ofString "text", .str x tx), (ofString "self", .ref c.wa)]) (by k_is) (by k_is) (by first | exact fun s X=>BindsTo.of_eq rfl | exact fun s X=>binds_K X rfl (by k_is) rfl rfl rfl) (by exact rfl) (by exact rfl) (by exact rfl) (by exact rfl) (by exact rfl) (by first | decide | lia) (by exact rfl) hI fun b m rest hm hcp hcs hcl hr W=>?_
  have ex:∀ {A p}, Ev b m A (.Name (ofString "text") p) (.str x tx):=by exact Ev.loc hm rfl Kx rfl
  refine Ts.ret (Tv.callee ((show ∀ p, Ev b m _ (.Name (ofString "Text") p) (.ref 62) from fun p=>by exact Ev.glob (by k_is) Kx rfl) _ _ (Tv.with1 (by k_is) (Tv.newargs W hr (by exact Ev.loc hm rfl Kx rfl) (by decide +kernel) (fun t σ2 tl bo W2 hn _=>Evs.cons ex Evs.nil rfl _ _ (Tv.doesT text_new hr (fun r n' tl z9=>by refine byP fun _ q9=>?_; obtain ⟨_, _, _, _, e, _⟩:=z9; exact q9 (e)) (fun r t2 g z9=>?_) (by decide))) (by decide) rfl rfl) rfl rfl)) rfl)
  refine byP fun _ q9=>?_
  obtain ⟨a, d, es, e1, _, l2, e2, hF, hx⟩:=z9
  refine q9 ?_
  subst e1
  subst e2
  exact (W2.more g).owes app3 (gP _ _ _ ⟨a, es, rfl, hF.fresh2 (by lia) hn, hx⟩)
theorem Tv.listOf {w mx} {b:Amb w mx} {m:Fm} {n:Led} {a:Addr} {vs:List Value} {j:Nat} {P:Value → Led → Prop} (hm:(a, listOf vs.toArray j) ∈ n) (hz:vs.length ≤ 1000) (h:∀ D j', (∀ p ∈ n, p.1 < D) → P (.ref D) ((D, W.listOf vs.toArray j') :: n)):Tv b m n (call (.type "list") [.ref a]) P:=fun Q E h₁ tk F N ret =>
  kup_listOf (zs:=vs) F N hm (by simp) (fun D5 n5 h5 F5 N5 l5=>ret _ _ _ _ F5 N5 (h D5 n5 l5)) (by rw [sizeLine_eq]; simp; lia)
theorem list_ok {w mx} {c:Wc} {σ:Ws} {X:Led} {b:Addr} {vs:List Value} {nb:Nat} (hI:Inv w c σ X) (hb:(b, listOf vs.toArray nb) ∈ X) (hz:vs.length ≤ 8) :
    WC w mx c σ X 552 96 [.ref c.wa, .ref b] (fun r σ' tl=>∃ a es b' n', r = .ref a ∧ Fresh tl a 82 es σ.num σ'.num ∧ has "items" es (.ref b') ∧ (b', listOf vs.toArray n') ∈ tl):=by
  refine WC.gen fun PG gP=>?_
  refine wi_enter (bm:=[(ofString "items", .ref b), (ofString "self", .ref c.wa)]) (by k_is) (by k_is) (by first | exact fun s X=>BindsTo.of_eq rfl | exact fun s X=>binds_K X rfl (by k_is) rfl rfl rfl) (by exact rfl) (by exact rfl) (by exact rfl) (by exact rfl) (by exact rfl) (by first | decide | lia) (by exact rfl) hI fun ab m rest hm hcp hcs hcl hr W=>?_
  have ei:∀ {A p}, Ev ab m A (.Name (ofString "items") p) (.ref b):=by exact Ev.loc hm rfl Kx rfl
  refine Ts.ret (Tv.callee ((show ∀ p, Ev ab m _ (.Name (ofString "ListThing") p) (.ref 82) from fun p=>by exact Ev.glob (by k_is) Kx rfl) _ _ (Tv.with1 (by k_is) (Tv.newargs W hr (by exact Ev.loc hm rfl Kx rfl) (by decide +kernel) (fun t σ2 tl bo W2 hn _=>Tv.args1 (Tv.callee (Tv.blt (show nsIn (K9 w.params) mainGlobals (ofString "list") = some none by k_is) (by k_dflt boot_fast) (by decide) (Tv.witht (Evs.cons ei Evs.nil rfl _ _ (Tv.listOf (List.mem_append_right (Wk c σ2) (List.mem_append_left tl (W.sub _ (iL (W.xs _ hb))))) (Nat.le_trans hz (Nat.le_of_ble_eq_true rfl)) (fun D j' hD=>?_))) rfl rfl) Kx rfl) rfl) rfl) (by decide) rfl rfl) rfl rfl)) rfl)
  refine Tv.re app1 (Tv.args0 (Tv.doesT list_new hr (fun r n' tl z9=>by refine byP fun _ q9=>?_; obtain ⟨_, _, _, _, e, _⟩:=z9; exact q9 (e)) (fun r t2 g z9=>?_) (by decide)))
  refine byP fun _ q9=>?_
  obtain ⟨a, d, es, e1, _, l2, e2, hF, hx⟩:=z9
  refine q9 ?_
  subst e1
  subst e2
  exact ((W2.more (lt_gt hD)).more g).owes app3 (gP _ _ _ ⟨a, es, D, j', rfl, hF.fresh2 (by lia) hn, hx, List.mem_append_left [(a, instObj 82 d), (d, dictOf es 7)] (List.mem_append_right tl iH)⟩)
theorem class_int {w mx} {c:Wc} {σ:Ws} {X:Led} {i:Int} {ti:Tok} (hI:Inv w c σ X) :
    WC w mx c σ X 510 94 [.ref c.wa, .int i ti] (fun r σ' tl=>∃ b, r = .ref b ∧ valueAt σ'.kvs (ofString "Integer") = some (.ref b)):=by
  refine wi_enter (bm:=[(ofString "value", .int i ti), (ofString "self", .ref c.wa)]) (by k_is) (by k_is) (by first | exact fun s X=>BindsTo.of_eq rfl | exact fun s X=>binds_K X rfl (by k_is) rfl rfl rfl) (by exact rfl) (by exact rfl) (by exact rfl) (by exact rfl) (by exact rfl) (by first | decide | lia) (by exact rfl) hI fun b m rest hm hcp hcs hcl hr W=>?_
  have ev:∀ {A p}, Ev b m A (.Name (ofString "value") p) (.int i ti):=by exact Ev.loc hm rfl Kx rfl
  have ki:Kd b (ofString "isinstance") .globalImplicit:=Kx
  exact Ts.skip (isNi ev) (Ts.skip (Te.isi (k:=[]) ev isi_int_bool (fun _ h=>nomatch h) ki Kx) (Ts.hand (Te.isi (k:=[]) ev isi_int_int (fun _ h=>nomatch h) ki Kx)
    (Tv.wmx (heads:=[]) (by exact Ev.loc hm rfl Kx rfl) wm_builtin W.inv.ok.n_builtin (by k_is) (Tv.args1 (Tv.cstr fun tk=>Tv.args0 (Tv.wi (builtin_ok W.inv (by decide +kernel)) W hr (fun r σ2 tl W2 E2 hP=>W2.owes (fun _ h=>h) hP) (by decide))) rfl) rfl rfl rfl)))
theorem Inv.idn {w:World} {c:Wc} {σ:Ws} {X:Led} {x:Str} {b:Addr} (h:Inv w c σ X) (hv:valueAt σ.kvs x = some (.ref b)):∃ k, Idn X (.ref b) (.inr k):=by
  refine byP fun _ q9=>?_
  obtain ⟨_, b', e, d, es, n, k, t, t', h1, h2, h3, _⟩:=h.mods _ _ hv
  refine q9 ?_
  cases e
  exact ⟨k, .thing (by decide) h1 h2 h3⟩
theorem wm_class {w:World}:MethOk w 681 "class_of" 510:=⟨by k_is, by k_is, by k_is⟩
theorem cp_isnot_i {w mx} {b:Amb w mx} {m:Fm} {n:Led} {i:Int} {t:Tok}:Cp b m n .IsNot (.int i t) .none (.bool true):=fun P hP Q E h₁ tk F N ret=>by
  walk1
  exact ret _ _ _ _ F N (hP 0)
theorem cp_isnot_n {w mx} {b:Amb w mx} {m:Fm} {n:Led}:Cp b m n .IsNot .none .none (.bool false):=fun P hP Q E h₁ tk F N ret=>by
  walk1
  exact ret _ _ _ _ F N (hP 0)
theorem Ev.sortEq {w mx} {b:Amb w mx} {m:Fm} {n:Led} {x:String} {s:Str} {e:PySem.Expr} {v:Value} {p1 p2 p3 p4:Pos} {k dn:Nat} (hf:Ev b m n (.Name (ofString "sort_of") p1) (.ref 237)) (h1:Ev b m n e v) (hk:Kind n v x) (hr:b.Room dn) (hd:1 < dn) (hs:starEach [e] b.env = (false, eval e b.env) :: starEach [] b.env) :
    Ev b m n (.Compare (.Call (.Name (ofString "sort_of") p1) [e] [] p2) [.Eq] [.Constant (.str s) k p3] p4) (.bool (ofString x == s)):=fun P h =>
  Tv.cmpv (Tv.callee (hf _ (Tv.with1 (by k_is) (Tv.args1 (h1 _ (Tv.args0 (Tv.does0 (sort_ok hk) hr (fun r n' tl z9=>by refine byP fun _ q9=>?_; obtain ⟨t, e1, e2, e3⟩:=z9; exact q9 (⟨e2, e3⟩)) (fun r ⟨t, e1, _⟩=>e1 ▸ Tv.cstr fun tk Q E h₁ tk F N ret=>eq_str (ret _ _ _ _ F N h)) hd))) hs) hs rfl)) rfl) rfl
theorem range_ok {w mx} {c:Wc} {σ:Ws} {X:Led} {y:Int} {ty:Tok} {z:Value} {o:Bool} (hI:Inv w c σ X) (hz:z = .none ∨ ∃ i t, z = .int i t) :
    WC w mx c σ X 573 110 [.ref c.wa, .int y ty, z, .bool o] (fun r σ' tl=>∃ a es, r = .ref a ∧ Fresh tl a 140 es σ.num σ'.num ∧ has "first" es (.int y ty) ∧ has "last" es z ∧ has "open" es (.bool o)):=by
  have hC:Cls w 140:=⟨by k_is, by k_is, by k_is⟩
  refine WC.gen fun PG gP=>?_
  refine wi_enter (bm:=[(ofString "is_open", .bool o), (ofString "last", z), (ofString "first", .int y ty), (ofString "self", .ref c.wa)]) (by k_is) (by k_is) (by first | exact fun s X=>BindsTo.of_eq rfl | exact fun s X=>binds_K X rfl (by k_is) rfl rfl rfl) (by exact rfl) (by exact rfl) (by exact rfl) (by exact rfl) (by exact rfl) (by first | decide | lia) (by exact rfl) hI fun b m rest hm hcp hcs hcl hr W=>?_
  have se:∀ {A p}, Ev b m A (.Name (ofString "self") p) (.ref c.wa):=by exact Ev.loc hm rfl Kx rfl
  have ef:∀ {A p}, Ev b m A (.Name (ofString "first") p) (.int y ty):=by exact Ev.loc hm rfl Kx rfl
  have el:∀ {A p}, Ev b m A (.Name (ofString "last") p) z:=by exact Ev.loc hm rfl Kx rfl
  refine Ts.seq (J:=fun m' n'=>∃ σ' T' R' v, n' = Wk c σ' ++ ([] ++ R') ∧ Wi w c σ X rest σ' T' [] R' ∧ m' = v ++ m ∧ (v = [] ∨ ∃ u, v = [(ofString "is_odd", u)])) ?first ?tail
  case first =>
    rcases hz with rfl | ⟨i, t, rfl⟩
    · exact Ts.skip (Te.and2 (Te.cmp ef Ev.none cp_isnot_i rfl) (Te.cmp el Ev.none cp_isnot_n rfl)) (Ts.nil ⟨σ, [], rest, [], rfl, W, rfl, .inl rfl⟩)
    · refine Ts.ift (Te.and2 (Te.cmp ef Ev.none cp_isnot_i rfl) (Te.cmp el Ev.none cp_isnot_i rfl)) (Ts.assign rfl (Tv.orv (Ev.sortEq (by exact Ev.glob (by k_is) Kx rfl) ef (.int _ _) hr (by decide) rfl) (Ev.sortEq (by exact Ev.glob (by k_is) Kx rfl) el (.int _ _) hr (by decide) rfl _ fun m1 hm1=>?_)) Kx rfl)
      have hm2:m1 = (ofString "is_odd", .bool (ofString "int" == ofString "bool")) :: [(ofString "is_open", .bool o), (ofString "last", .int i t), (ofString "first", .int y ty), (ofString "self", .ref c.wa)]:=by rw [hm1, hm]
      have se:∀ {A p}, Ev b m1 A (.Name (ofString "self") p) (.ref c.wa):=by exact Ev.loc hm2 rfl Kx rfl
      have ef:∀ {A p}, Ev b m1 A (.Name (ofString "first") p) (.int y ty):=by exact Ev.loc hm2 rfl Kx rfl
      have el:∀ {A p}, Ev b m1 A (.Name (ofString "last") p) (.int i t):=by exact Ev.loc hm2 rfl Kx rfl
      refine Ts.ite (Tv.or1 (Te.ev (show Ev b m1 _ _ (.bool false) by exact Ev.loc hm2 rfl Kx rfl) rfl _ (both_f rfl (Tv.or1 (Tv.not (Tv.plain (Tv.callee ((show ∀ p, Ev b m1 _ (.Name (ofString "same") p) (.ref 244) from fun p=>by exact Ev.glob (by k_is) Kx rfl) _ _ (Tv.with1 (by k_is) (Tv.args1 ?a1 rfl) rfl rfl)) rfl) rfl))))))
      case a1 =>
        refine Tv.wm1 (heads:=[]) se wm_class W.inv.ok.n_class (by k_is) (Evs.cons ef Evs.nil rfl) (Tv.wi (class_int W.inv) W hr (fun r σ1 tl W1 E1 ⟨b1, e1, hv1⟩=>?_) (by decide)) rfl rfl rfl
        subst e1
        refine Tv.args1 (Tv.wm1 (heads:=[]) se wm_class W1.inv.ok.n_class (by k_is) (Evs.cons el Evs.nil rfl) (Tv.wi (class_int W1.inv) W1 hr (fun r σ2 tl2 W2 E2 ⟨b2, e2, hv2⟩=>?_) (by decide)) rfl rfl rfl) rfl
        subst e2
        obtain rfl:b1 = b2:=by
          have:=(E2.kvs _ _ hv1).symm.trans hv2
          simpa using this
        obtain ⟨kk, hk⟩:=W2.inv.idn hv2
        replace hk:=hk.mono (k:=Wk c σ2 ++ ([] ++ ((rest ++ tl) ++ tl2))) fun p hp=>iR ((List.mem_append.mp hp).elim (fun h=>W2.sub _ (iL (W2.xs _ h))) fun h=>W2.sub _ (iR h))
        exact Tv.args0 (Tv.does0 (same_ok hk hk true (by simp)) hr (fun r n' tl q=>q.2) (fun r q=>by
          rw [q.1]
          exact Tv.tbool (both_f rfl (Tv.or0 (both_f rfl (Ts.nil (Ts.nil (Ts.nil ⟨σ2, _, _, [(ofString "is_odd", .bool false)], rfl, W2, by rw [hm1]; rfl, .inr ⟨_, rfl⟩⟩))))))) (by decide))
  case tail =>
    intro m' n' z9
    refine byP fun _ q9=>?_
    obtain ⟨σ1, T1, R1, v, rfl, W1, rfl, hv⟩:=z9
    refine q9 ?_
    have lk:∀ {x:Str} {u:Value}, m.lookup x = some u → (ofString "is_odd" == x) = false → (v ++ m).lookup x = some u:=fun h hx=>by
      rcases hv with rfl | ⟨u, rfl⟩
      · exact h
      · show List.lookup _ (_ :: m) = _
        rw [List.lookup_cons, show (_ == ofString "is_odd") = false from by rw [beq_eq_false_iff_ne] at hx ⊢; exact hx.symm]
        exact h
    have se:∀ {A p}, Ev b (v ++ m) A (.Name (ofString "self") p) (.ref c.wa):=Ev.name (lk (look hm rfl) rfl) Kx rfl
    have args:∀ {A p1 p2 p3}, Evs b (v ++ m) A [.Name (ofString "first") p1, .Name (ofString "last") p2, .Name (ofString "is_open") p3] [.int y ty, z, .bool o]:=Evs.cons (Ev.name (lk (look hm rfl) rfl) Kx rfl) (Evs.cons (Ev.name (lk (look hm rfl) rfl) Kx rfl) (Evs.cons (Ev.name (lk (look hm rfl) rfl) Kx rfl) Evs.nil rfl) rfl) rfl
    refine Ts.assign rfl (Tv.callee ((show ∀ p, Ev b (v ++ m) _ (.Name (ofString "RangeThing") p) (.ref 140) from fun p=>by exact Ev.glob (by k_is) Kx rfl) _ _ (Tv.with1 (by k_is) (Tv.newargs W1 hr se (by decide +kernel) (fun t σ2 tl bo W2 hn _=>args _ _ (Tv.doesT range_new hr (fun r n' tl z9=>by refine byP fun _ q9=>?_; obtain ⟨_, _, _, _, e, _⟩:=z9; exact q9 (e)) (fun r t2 g z9=>?_) (by decide))) (by decide) rfl rfl) rfl rfl)) rfl) Kx rfl
    refine byP fun _ q9=>?_
    obtain ⟨a, d, es, e1, _, l2, e2, hF, hx1, hx2, hx3⟩:=z9
    refine q9 ?_
    subst e1
    subst e2
    intro m2 hm2
    have ef:∀ {A p}, Ev b m2 A (.Name (ofString "found") p) (.ref a):=by exact Ev.loc hm2 rfl Kx rfl
    obtain ⟨vf, hfr⟩:=hF.frozen
    refine Ts.re mod_turn (Ts.setattr (Ev.bool _ (ef _ (Tv.wput iH hC (by k_is) (isSome_get hfr) (Nat.le_trans hF.len (Nat.le_of_ble_eq_true rfl)) (W2.mod g l2).off fun es2 n2 P2=>?_))) rfl)
    have W3:=(W2.mod g l2).upd (es':=es2) (n':=n2) (P2.other _ (by decide +kernel)) (P2.other _ (by decide +kernel)) (P2.other _ (by decide +kernel)) (P2.other _ (by decide +kernel)) (fun y t hy h=>h.same (P2.other _ (by decide +kernel))) (P2.idl (by decide +kernel) hfr)
    have hF2:NewF es2 (σ1.num + 1):=⟨hF.number.imp fun t h=>(P2.other _ (by decide +kernel)).trans h, (P2.other _ (by decide +kernel)).trans hF.ident, ⟨_, P2.same⟩, by rw [P2.old _ hfr]; exact hF.len⟩
    exact Ts.ret (ef _ (W3.owes (fun _ h=>h) (gP _ _ _ ⟨a, es2, rfl, hF2.fresh (n:=n2) (iC iH) iH (by have:=W1.ext.num; lia) hn, (P2.other _ (by decide +kernel)).trans hx1, (P2.other _ (by decide +kernel)).trans hx2, (P2.other _ (by decide +kernel)).trans hx3⟩)))
theorem Fresh.mono {t t':Led} {a C:Addr} {es:List DictEntry} {lo hi lo' hi':Int} (h:Fresh t a C es lo hi) (s:∀ p ∈ t, p ∈ t') (h1:lo' ≤ lo) (h2:hi ≤ hi'):Fresh t' a C es lo' hi':=by
  refine byP fun _ q9=>?_
  obtain ⟨g1, g2, k, u, g3, g4, g5⟩:=h
  refine q9 ?_
  exact ⟨g1.mono s, g2, k, u, g3, by lia, by lia⟩
section
variable {w mx} {b:Amb w mx} {m:Fm} {n:Led}
theorem Te.eqc {e:Expr} {y:Str} {p2 p3:Pos} {k:Nat} {u:Str} {t:Tok} {r:Bool} (h1:Ev b m n e (.str u t)) (hb:(u == y) = r):Te b m n (.Compare e [.Eq] [.Constant (.str y) k p2] p3) r:=fun P h =>
  Tv.cmp1 (h1 _ (Tv.cstr (fun tk Q E h₁ tk F N ret=>eq_str (ret _ _ _ _ F N (Tv.tbool (by rw [hb]; exact h)))))) rfl
theorem Ev.itemE {e0 e1:Expr} {la:Addr} {vs:List Value} {j:Nat} {i:Int} {t:Tok} {p3:Pos} {v:Value} (h0:Ev b m n e0 (.ref la)) (h1:Ev b m n e1 (.int i t)) (hm:(la, listOf vs.toArray j) ∈ n) (hv:vs[i.toNat]? = some v) (hi:0 ≤ i ∧ i < 2 ^ 63) (hs:subscripted e1 false (.ref la) (.int i t) = operate [.ref la, .int i t] (getItem (.ref la) (.int i t))):Ev b m n (.Subscript e0 e1 p3) v:=fun P h =>
  Tv.sub (h0 _ (h1 _ (fun Q E h₁ tk' F N ret=>item_litK (News.isList N hm) hi.1 hi.2 hv (ret _ _ _ _ F N h) hs)))
end
theorem made_cells {w:World} {c:Wc} {σ:Ws} {X rest cells:Led} {L x1 x2:Nat} {n1 n2:Str} {cm:Str → Option Value} (hY:CellsAre cm [(n1, x1), (n2, x2)] cells) (hlt:∀ p ∈ Wk c σ ++ rest, (p.1:Nat) < L) (W:Wi w c σ X rest σ [] [] rest) (e1:L ≤ x1) (e2:L ≤ x2) :
    ∃ o1 o2, ∃ R:Led, (∀ p ∈ Wk c σ ++ ([] ++ R), p ∈ cells ++ (Wk c σ ++ ([] ++ rest))) ∧ ((x1, o1) ∈ R ∧ o1.data = .cell (cm n1)) ∧ ((x2, o2) ∈ R ∧ o2.data = .cell (cm n2)) ∧ Wi w c σ X rest σ [] [] R:=by
  refine byP fun _ q9=>?_
  obtain ⟨o1, o2, rfl, h1, h2⟩:=CellsAre.two hY
  refine q9 ?_
  refine ⟨o1, o2, [(x1, o1), (x2, o2)] ++ rest, fun p hp=>?_, ⟨iH, h1⟩, ⟨iC iH, h2⟩, W.own fun q hq p hp=>?_⟩
  · simp only [List.mem_append, List.nil_append] at hp ⊢
    exact hp.elim (fun h=>.inr (.inl h)) fun h=>h.elim .inl fun h=>.inr (.inr h)
  · have:=hlt p hp
    rcases List.mem_cons.mp hq with rfl | hq
    · exact Nat.ne_of_gt (Nat.lt_of_lt_of_le this e1)
    · rw [List.mem_singleton.mp hq]; exact Nat.ne_of_gt (Nat.lt_of_lt_of_le this e2)
theorem made_plain {w mx} {c:Wc} {σ:Ws} {X:Led} {lp lt:Addr} {vv:Value} {t0:Tok} {n:Nat} (hI:Inv w c σ X) (hp:(lp, listOf [.str (ofString "plain") t0, vv].toArray n) ∈ X) :
    WC w mx c σ X 709 2 [.ref c.wa, .ref lp, .ref lt] (fun r σ' tl=>r = vv ∧ σ' = σ ∧ tl = []):=by
  refine wi_enterC (binds:=[(ofString "world", .ref c.wa), (ofString "plan", .ref lp), (ofString "things", .ref lt)]) (bm:=[(ofString "plan", .ref lp)]) (by k_is) (by k_is) (by exact fun s X=>BindsTo.of_eq rfl) (by exact rfl) (by decide +kernel) (by exact rfl) (by exact rfl) (by exact rfl) (by first | decide | lia) (by exact rfl) hI fun b m rest cells hm hcp hcs hcl hY hlt hr W0=>?_
  refine byP fun _ q9=>?_
  obtain ⟨k1, k2, R0, hR, h1, h2, W⟩:=made_cells hY hlt W0 (Nat.le_succ_of_le (Nat.le_succ _)) (Nat.le_succ _)
  refine q9 ?_
  refine Ts.re hR ?_
  clear hR W0 hY hlt
  have ep:∀ {A p}, Ev b m A (.Name (ofString "plan") p) (.ref lp):=by exact Ev.loc hm rfl Kx rfl
  have mp:=fun p (hp:p ∈ X)=>List.mem_append_right (Wk c σ) (W.sub p (iL (W.xs p hp)))
  have ew:∀ {R p m'}, (∀ q ∈ R0, q ∈ R) → Ev b m' R (.Name (ofString "world") p) (.ref c.wa):=fun s=>Ev.cell (by rw [hcl]; rfl) (s _ h2.1) h2.2 Kx rfl
  have et:∀ {R p m'}, (∀ q ∈ R0, q ∈ R) → Ev b m' R (.Name (ofString "things") p) (.ref lt):=fun s=>Ev.cell (by rw [hcl]; rfl) (s _ h1.1) h1.2 Kx rfl
  exact Ts.hand (Te.eqc (Ev.item ep (mp _ hp) rfl (by decide) fun _=>rfl) rfl) (Ev.item ep (mp _ hp) rfl (by decide) (fun _=>rfl) _ (W.owes (fun _ h=>h) ⟨rfl, rfl, rfl⟩))
theorem wm_text {w:World}:MethOk w 681 "text" 545:=⟨by k_is, by k_is, by k_is⟩
theorem wm_listof {w:World}:MethOk w 681 "list_of" 552:=⟨by k_is, by k_is, by k_is⟩
theorem wm_range {w:World}:MethOk w 681 "range_of" 573:=⟨by k_is, by k_is, by k_is⟩
theorem made_text {w mx} {c:Wc} {σ:Ws} {X:Led} {lp lt:Addr} {x:Str} {t0 tx:Tok} {n:Nat} (hI:Inv w c σ X) (hp:(lp, listOf [.str (ofString "text") t0, .str x tx].toArray n) ∈ X) :
    WC w mx c σ X 709 100 [.ref c.wa, .ref lp, .ref lt] (fun r σ' tl=>∃ a es, r = .ref a ∧ Fresh tl a 62 es σ.num σ'.num ∧ has "text" es (.str x tx)):=by
  refine wi_enterC (binds:=[(ofString "world", .ref c.wa), (ofString "plan", .ref lp), (ofString "things", .ref lt)]) (bm:=[(ofString "plan", .ref lp)]) (by k_is) (by k_is) (by exact fun s X=>BindsTo.of_eq rfl) (by exact rfl) (by decide +kernel) (by exact rfl) (by exact rfl) (by exact rfl) (by first | decide | lia) (by exact rfl) hI fun b m rest cells hm hcp hcs hcl hY hlt hr W0=>?_
  refine byP fun _ q9=>?_
  obtain ⟨k1, k2, R0, hR, h1, h2, W⟩:=made_cells hY hlt W0 (Nat.le_succ_of_le (Nat.le_succ _)) (Nat.le_succ _)
  refine q9 ?_
  refine Ts.re hR ?_
  clear hR W0 hY hlt
  have ep:∀ {A p}, Ev b m A (.Name (ofString "plan") p) (.ref lp):=by exact Ev.loc hm rfl Kx rfl
  have mp:=fun p (hp:p ∈ X)=>List.mem_append_right (Wk c σ) (W.sub p (iL (W.xs p hp)))
  have ew:∀ {R p m'}, (∀ q ∈ R0, q ∈ R) → Ev b m' R (.Name (ofString "world") p) (.ref c.wa):=fun s=>Ev.cell (by rw [hcl]; rfl) (s _ h2.1) h2.2 Kx rfl
  have et:∀ {R p m'}, (∀ q ∈ R0, q ∈ R) → Ev b m' R (.Name (ofString "things") p) (.ref lt):=fun s=>Ev.cell (by rw [hcl]; rfl) (s _ h1.1) h1.2 Kx rfl
  exact Ts.skip (Te.eqc (Ev.item ep (mp _ hp) rfl (by decide) fun _=>rfl) rfl) (Ts.hand (Te.eqc (Ev.item ep (mp _ hp) rfl (by decide) fun _=>rfl) rfl) (Tv.wm1 (heads:=[]) (ew fun _ h=>List.mem_append_right (Wk c σ) h) wm_text W.inv.ok.n_text (by k_is) (Evs.cons (Ev.item ep (mp _ hp) rfl (by decide) fun _=>rfl) Evs.nil rfl) (Tv.wi (text_ok W.inv) W hr (fun r σ2 tl W2 E2 hP=>W2.owes (fun _ h=>h) hP) (by decide)) rfl rfl rfl))
theorem made_thing {w mx} {c:Wc} {σ:Ws} {X:Led} {lp lt:Addr} {vs:List Value} {v:Value} {i:Int} {t0 t1:Tok} {n k:Nat} (hI:Inv w c σ X) (hp:(lp, listOf [.str (ofString "thing") t0, .int i t1].toArray n) ∈ X) (ht:(lt, listOf vs.toArray k) ∈ X) (hv:vs[i.toNat]? = some v) (hi:0 ≤ i ∧ i < 2 ^ 63) :
    WC w mx c σ X 709 2 [.ref c.wa, .ref lp, .ref lt] (fun r σ' tl=>r = v ∧ σ' = σ ∧ tl = []):=by
  refine wi_enterC (binds:=[(ofString "world", .ref c.wa), (ofString "plan", .ref lp), (ofString "things", .ref lt)]) (bm:=[(ofString "plan", .ref lp)]) (by k_is) (by k_is) (by exact fun s X=>BindsTo.of_eq rfl) (by exact rfl) (by decide +kernel) (by exact rfl) (by exact rfl) (by exact rfl) (by first | decide | lia) (by exact rfl) hI fun b m rest cells hm hcp hcs hcl hY hlt hr W0=>?_
  refine byP fun _ q9=>?_
  obtain ⟨k1, k2, R0, hR, h1, h2, W⟩:=made_cells hY hlt W0 (Nat.le_succ_of_le (Nat.le_succ _)) (Nat.le_succ _)
  refine q9 ?_
  refine Ts.re hR ?_
  clear hR W0 hY hlt
  have ep:∀ {A p}, Ev b m A (.Name (ofString "plan") p) (.ref lp):=by exact Ev.loc hm rfl Kx rfl
  have mp:=fun p (hp:p ∈ X)=>List.mem_append_right (Wk c σ) (W.sub p (iL (W.xs p hp)))
  have ew:∀ {R p m'}, (∀ q ∈ R0, q ∈ R) → Ev b m' R (.Name (ofString "world") p) (.ref c.wa):=fun s=>Ev.cell (by rw [hcl]; rfl) (s _ h2.1) h2.2 Kx rfl
  have et:∀ {R p m'}, (∀ q ∈ R0, q ∈ R) → Ev b m' R (.Name (ofString "things") p) (.ref lt):=fun s=>Ev.cell (by rw [hcl]; rfl) (s _ h1.1) h1.2 Kx rfl
  exact Ts.skip (Te.eqc (Ev.item ep (mp _ hp) rfl (by decide) fun _=>rfl) rfl) (Ts.skip (Te.eqc (Ev.item ep (mp _ hp) rfl (by decide) fun _=>rfl) rfl) (Ts.hand (Te.eqc (Ev.item ep (mp _ hp) rfl (by decide) fun _=>rfl) rfl) (Ev.itemE (et fun _ h=>List.mem_append_right (Wk c σ) h) (Ev.item ep (mp _ hp) rfl (by decide) fun _=>rfl) (mp _ ht) hv hi rfl _ (W.owes (fun _ h=>h) ⟨rfl, rfl, rfl⟩))))
theorem made_parts {w mx} {b:Amb w mx} {m:Fm} {c:Wc} {σ:Ws} {X rest R0:Led} {lq lt:Addr} {ps:List Value} {nq dn dm:Nat} {Rel:Nat → Value → Led → Prop} {sc:Scope} {cl:List (Str × Addr)} {iter:PySem.Expr} {q1 q2 q3 q4 q5 px py pos spos:Pos} {x1 x2:Addr} {o1 o2:Obj} {y:Str} {more:List Stmt} {RR:Value → Led → Prop} {K:Fm → Led → Prop}
    (W:Wi w c σ X rest σ [] [] R0) (hcp:b.cp = none) (hr:b.Room dm) (hd:dn < dm) (hit:Ev b m (Wk c σ ++ ([] ++ R0)) iter (.ref lq)) (hq:(lq, listOf ps.toArray nq) ∈ X) (hz:ps.length ≤ 8)
    (IH:∀ j p, ps[j]? = some p → ∀ {σ:Ws} {Y:Led}, Inv w c σ Y → (∀ p ∈ X, p ∈ Y) → WC w mx c σ Y 709 dn [.ref c.wa, p, .ref lt] (fun r _ tl=>Rel j r tl)) (Rm:∀ {j r t t'}, Rel j r t → (∀ p ∈ t, p ∈ t') → Rel j r t')
    (w1:cl.lookup (ofString "world") = some x1) (m1:(x1, o1) ∈ R0) (d1:o1.data = .cell (some (.ref c.wa))) (w2:cl.lookup (ofString "things") = some x2) (m2:(x2, o2) ∈ R0) (d2:o2.data = .cell (some (.ref lt)))
    (kw:Kc b sc (ofString "world") .cell) (kt:Kc b sc (ofString "things") .cell) (ko:Kc b sc (ofString "one") .local) (km:Kc b sc (ofString "_law_made") .globalImplicit)
    (h:∀ D ys σ' T' R', Wi w c σ X rest σ' (T' ++ [(D, LCg.lst ys)]) [] (R' ++ [(D, LCg.lst ys)]) → (∀ p ∈ R0, p ∈ R') → ys.length = ps.length → (∀ j y, ys[j]? = some y → Rel j y T') → ∀ m', m' = (y, .ref D) :: m → Ts b m' ((D, LCg.lst ys) :: (Wk c σ' ++ ([] ++ R'))) more RR K) (hy:Kd b y .local)
    (hclos:closureFor sc b.env0 = pure cl) (hcell:∀ y ∈ sc.names, y.2 ≠ .cell) (hkind:sc.kind = .function) (hnames:∀ y ∈ sc.names, y.2 = .local → sc.names.lookup y.1 = some .local) (hx:sc.names.lookup (ofString "one") = some .local) (hs:∀ v, foldedSetIterable iter b.env0 v = pure v)
    (hsw:swapsWith (.ListComp (.Call (.Name (ofString "_law_made") q1) [.Name (ofString "world") q2, .Name (ofString "one") q3, .Name (ofString "things") q4] [] q5) [⟨.Name (ofString "one") px, iter, [], 0⟩] sc pos) (some (.Name y py)) spos.line b.env0 = pure true) :
    Ts b m (Wk c σ ++ ([] ++ R0)) (.Assign [.Name y py] (.ListComp (.Call (.Name (ofString "_law_made") q1) [.Name (ofString "world") q2, .Name (ofString "one") q3, .Name (ofString "things") q4] [] q5) [⟨.Name (ofString "one") px, iter, [], 0⟩] sc pos) spos :: more) RR K:=by
  have sq:∀ {σ' T' R'}, Wi w c σ X rest σ' T' [] R' → (lq, listOf ps.toArray nq) ∈ Wk c σ' ++ ([] ++ R'):=fun W'=>iR (W'.sub _ (iL (W'.xs _ hq)))
  refine Ts.comp (fun i ys n'=>∃ σ' T' R', n' = Wk c σ' ++ ([] ++ R') ∧ Wi w c σ X rest σ' T' [] R' ∧ (∀ q ∈ R0, q ∈ R') ∧ ys.length = i ∧ ∀ j y, ys[j]? = some y → Rel j y T') hcp hit (sq W) (by rw [List.size_toArray, sizeLine_eq]; exact Nat.le_trans hz (Nat.le_of_ble_eq_true rfl)) hclos hcell hkind hnames hx hs ⟨σ, [], R0, rfl, W, fun _ h=>h, rfl, fun j y hy=>by simp at hy⟩ ?hJ ?step ?fin hy hsw
  case hJ =>
    intro i ys n' z9
    refine byP fun _ q9=>?_
    obtain ⟨σ', T', R', rfl, W', _⟩:=z9
    refine q9 ?_
    exact sq W'
  case step =>
    intro i ys n' v heads C oC m₂ hv z9 hC hoC hm2 off
    refine byP fun _ q9=>?_
    obtain ⟨σ', T', R', rfl, W', s', hl, hR⟩:=z9
    refine q9 ?_
    have hv':ps[i]? = some v:=by simpa using hv
    have sR:∀ {q}, q ∈ R0 → q ∈ heads ++ (Wk c σ' ++ ([] ++ R')):=fun h=>iR (List.mem_append_right (Wk c σ') (s' _ h))
    refine Tv.callee (Ev.cglob (by k_is) km rfl _ (Tv.with1 (by k_is) (Evs.cons (Ev.ccell w1 (sR m1) d1 kw rfl) (Evs.cons (Ev.own (iL hC) hoC hm2 ko rfl) (Evs.cons (Ev.ccell w2 (sR m2) d2 kt rfl) Evs.nil rfl) rfl) rfl _ _ (Tv.wih (b:=b.inC sc cl C) (IH i v hv' W'.inv (fun p hp=>iL hp)) W' (fun q hq p hp=>Ne.symm (off q hq p hp)) hr (fun r σ2 tl W2 E2 g hP=>?_) hd)) rfl rfl)) rfl
    refine ⟨_, fun _ h=>h, fun q hq p hp=>Ne.symm (g q hq p hp), σ2, _, _, rfl, W2, fun _ h=>iL (s' _ h), by simp [hl], fun j y hy=>?_⟩
    by_cases hj:j < ys.length
    · rw [List.getElem?_append_left hj] at hy
      exact Rm (hR j y hy) fun _ h=>iL h
    · rw [List.getElem?_append_right (Nat.le_of_not_lt hj)] at hy
      have e:j = i:=by
        have:=(List.getElem?_eq_some_iff.mp hy).1
        simp at this
        lia
      subst e
      rw [hl, Nat.sub_self] at hy
      cases hy
      exact Rm hP fun _ h=>iR h
  case fin =>
    intro D ys n' z9 o1 m' hm'
    refine byP fun _ q9=>?_
    obtain ⟨σ', T', R', rfl, W', s', hl, hR⟩:=z9
    refine q9 ?_
    rw [List.size_toArray] at hl
    exact h D ys σ' T' R' (W'.more fun q hq p hp=>by rw [List.mem_singleton.mp hp]; exact o1 q hq) s' hl hR m' hm'
theorem made_list {w mx} {c:Wc} {σ:Ws} {X:Led} {lp lq lt:Addr} {t0:Tok} {np nq dn:Nat} {ps:List Value} {Rel:Nat → Value → Led → Prop} (hdn:100 ≤ dn) (hI:Inv w c σ X) (hp:(lp, listOf [.str (ofString "list") t0, .ref lq].toArray np) ∈ X) (hq:(lq, listOf ps.toArray nq) ∈ X) (hz:ps.length ≤ 8)
    (IH:∀ j p, ps[j]? = some p → ∀ {σ:Ws} {Y:Led}, Inv w c σ Y → (∀ p ∈ X, p ∈ Y) → WC w mx c σ Y 709 dn [.ref c.wa, p, .ref lt] (fun r _ tl=>Rel j r tl)) (Rm:∀ {j r t t'}, Rel j r t → (∀ p ∈ t, p ∈ t') → Rel j r t') :
    WC w mx c σ X 709 (dn + 3) [.ref c.wa, .ref lp, .ref lt] (fun r σ' tl=>∃ a es b' n', ∃ vs:List Value, r = .ref a ∧ Fresh tl a 82 es σ.num σ'.num ∧ has "items" es (.ref b') ∧ (b', listOf vs.toArray n') ∈ tl ∧ vs.length = ps.length ∧ ∀ j y, vs[j]? = some y → Rel j y tl):=by
  refine wi_enterC (binds:=[(ofString "world", .ref c.wa), (ofString "plan", .ref lp), (ofString "things", .ref lt)]) (bm:=[(ofString "plan", .ref lp)]) (by k_is) (by k_is) (by exact fun s X=>BindsTo.of_eq rfl) (by exact rfl) (by decide +kernel) (by exact rfl) (by exact rfl) (by exact rfl) (by first | decide | lia) (by exact rfl) hI fun b m rest cells hm hcp hcs hcl hY hlt hr W0=>?_
  refine byP fun _ q9=>?_
  obtain ⟨k1, k2, R0, hR, h1, h2, W⟩:=made_cells hY hlt W0 (Nat.le_succ_of_le (Nat.le_succ _)) (Nat.le_succ _)
  refine q9 ?_
  refine Ts.re hR ?_
  clear hR W0 hY hlt
  have ep:∀ {A p}, Ev b m A (.Name (ofString "plan") p) (.ref lp):=by exact Ev.loc hm rfl Kx rfl
  have mp:=fun p (hp:p ∈ X)=>List.mem_append_right (Wk c σ) (W.sub p (iL (W.xs p hp)))
  have ew:∀ {R p m'}, (∀ q ∈ R0, q ∈ R) → Ev b m' R (.Name (ofString "world") p) (.ref c.wa):=fun s=>Ev.cell (by rw [hcl]; rfl) (s _ h2.1) h2.2 Kx rfl
  have et:∀ {R p m'}, (∀ q ∈ R0, q ∈ R) → Ev b m' R (.Name (ofString "things") p) (.ref lt):=fun s=>Ev.cell (by rw [hcl]; rfl) (s _ h1.1) h1.2 Kx rfl
  refine Ts.skip (Te.eqc (Ev.item ep (mp _ hp) rfl (by decide) fun _=>rfl) rfl) (Ts.skip (Te.eqc (Ev.item ep (mp _ hp) rfl (by decide) fun _=>rfl) rfl) (Ts.skip (Te.eqc (Ev.item ep (mp _ hp) rfl (by decide) fun _=>rfl) rfl) ?_))
  refine made_parts (cl:=[(ofString "world", b.L + 1), (ofString "things", b.L + 1 + 1)]) (Rel:=Rel) W hcp hr (by lia) (Ev.item ep (mp _ hp) rfl (by decide) fun _=>rfl) hq hz IH Rm rfl h2.1 h2.2 rfl h1.1 h1.2 (Kc.of hcs rfl rfl) (Kc.of hcs rfl rfl) (Kc.of hcs rfl rfl) (Kc.of hcs rfl rfl) (fun D ys σ' T' R' W' s' hl hR m' hm1=>?_) Kx ?clos (by decide) rfl (by decide) rfl (fun _=>rfl) ?sw
  case clos =>
    show closureFor _ (envX b.cn b.cs b.L b.a b.ccd b.cl) = _
    rw [hcs, hcl]
    rfl
  case sw =>
    show swapsWith _ _ _ (envX b.cn b.cs b.L b.a b.ccd b.cl) = _
    rw [hcs]
    rfl
  have hm':m' = [(ofString "parts", .ref D), (ofString "plan", .ref lp)]:=by rw [hm1, hm]
  have ep:∀ {A p}, Ev b m' A (.Name (ofString "plan") p) (.ref lp):=by exact Ev.loc hm' rfl Kx rfl
  have ea:∀ {A p}, Ev b m' A (.Name (ofString "parts") p) (.ref D):=by exact Ev.loc hm' rfl Kx rfl
  refine Ts.re app1 (Ts.ret (Tv.ext (Te.eqc (Ev.item ep (List.mem_append_right (Wk c σ') (W'.sub _ (iL (W'.xs _ hp)))) rfl (by decide) fun _=>rfl) rfl) (Tv.wm1 (heads:=[]) (ew (R:=Wk c σ' ++ ([] ++ (R' ++ [(D, LCg.lst ys)]))) fun _ h=>List.mem_append_right (Wk c σ') (List.mem_append_left [(D, LCg.lst ys)] (s' _ h))) wm_listof W'.inv.ok.n_list (by k_is) (Evs.cons ea Evs.nil rfl) (Tv.wi (list_ok (vs:=ys) (nb:=ys.length) W'.inv (List.mem_append_right X (List.mem_append_right T' iH)) (by lia)) W' hr (fun r σ2 tl W2 E2 z9=>?_) (by lia)) rfl rfl rfl)))
  refine byP fun _ q9=>?_
  obtain ⟨a, es, b', n', e, hF, hx, hb⟩:=z9
  refine q9 ?_
  subst e
  exact W2.owes (fun _ h=>h) ⟨a, es, b', n', ys, rfl, hF.mono (fun p hp=>List.mem_append_right (T' ++ [(D, LCg.lst ys)]) hp) W'.ext.num (Int.le_refl _), hx, List.mem_append_right (T' ++ [(D, LCg.lst ys)]) hb, hl, fun j y hy=>Rm (hR j y hy) fun p hp=>List.mem_append_left tl (iL hp)⟩
theorem made_range {w mx} {c:Wc} {σ:Ws} {X:Led} {lp lq lt:Addr} {t0:Tok} {np nq dn:Nat} {ps:List Value} {y:Int} {ty:Tok} {z:Value} {o:Bool} (hdn:110 ≤ dn) (hI:Inv w c σ X) (hp:(lp, listOf [.str (ofString "range") t0, .ref lq].toArray np) ∈ X) (hq:(lq, listOf ps.toArray nq) ∈ X) (hz:ps.length = 3) (hzz:z = .none ∨ ∃ i t, z = .int i t)
    (IH:∀ j p, ps[j]? = some p → ∀ {σ:Ws} {Y:Led}, Inv w c σ Y → (∀ p ∈ X, p ∈ Y) → WC w mx c σ Y 709 dn [.ref c.wa, p, .ref lt] (fun r _ tl=>r = if j = 0 then .int y ty else if j = 1 then z else .bool o)) :
    WC w mx c σ X 709 (dn + 3) [.ref c.wa, .ref lp, .ref lt] (fun r σ' tl=>∃ a es, r = .ref a ∧ Fresh tl a 140 es σ.num σ'.num ∧ has "first" es (.int y ty) ∧ has "last" es z ∧ has "open" es (.bool o)):=by
  refine wi_enterC (binds:=[(ofString "world", .ref c.wa), (ofString "plan", .ref lp), (ofString "things", .ref lt)]) (bm:=[(ofString "plan", .ref lp)]) (by k_is) (by k_is) (by exact fun s X=>BindsTo.of_eq rfl) (by exact rfl) (by decide +kernel) (by exact rfl) (by exact rfl) (by exact rfl) (by first | decide | lia) (by exact rfl) hI fun b m rest cells hm hcp hcs hcl hY hlt hr W0=>?_
  refine byP fun _ q9=>?_
  obtain ⟨k1, k2, R0, hR, h1, h2, W⟩:=made_cells hY hlt W0 (Nat.le_succ_of_le (Nat.le_succ _)) (Nat.le_succ _)
  refine q9 ?_
  refine Ts.re hR ?_
  clear hR W0 hY hlt
  have ep:∀ {A p}, Ev b m A (.Name (ofString "plan") p) (.ref lp):=by exact Ev.loc hm rfl Kx rfl
  have mp:=fun p (hp:p ∈ X)=>List.mem_append_right (Wk c σ) (W.sub p (iL (W.xs p hp)))
  have ew:∀ {R p m'}, (∀ q ∈ R0, q ∈ R) → Ev b m' R (.Name (ofString "world") p) (.ref c.wa):=fun s=>Ev.cell (by rw [hcl]; rfl) (s _ h2.1) h2.2 Kx rfl
  have et:∀ {R p m'}, (∀ q ∈ R0, q ∈ R) → Ev b m' R (.Name (ofString "things") p) (.ref lt):=fun s=>Ev.cell (by rw [hcl]; rfl) (s _ h1.1) h1.2 Kx rfl
  refine Ts.skip (Te.eqc (Ev.item ep (mp _ hp) rfl (by decide) fun _=>rfl) rfl) (Ts.skip (Te.eqc (Ev.item ep (mp _ hp) rfl (by decide) fun _=>rfl) rfl) (Ts.skip (Te.eqc (Ev.item ep (mp _ hp) rfl (by decide) fun _=>rfl) rfl) ?_))
  refine made_parts (cl:=[(ofString "world", b.L + 1), (ofString "things", b.L + 1 + 1)]) (Rel:=fun j r _=>r = if j = 0 then .int y ty else if j = 1 then z else .bool o) W hcp hr (by lia) (Ev.item ep (mp _ hp) rfl (by decide) fun _=>rfl) hq (by lia) IH (fun h _=>h) rfl h2.1 h2.2 rfl h1.1 h1.2 (Kc.of hcs rfl rfl) (Kc.of hcs rfl rfl) (Kc.of hcs rfl rfl) (Kc.of hcs rfl rfl) (fun D ys σ' T' R' W' s' hl hR m' hm1=>?_) Kx ?clos (by decide) rfl (by decide) rfl (fun _=>rfl) ?sw
  case clos =>
    show closureFor _ (envX b.cn b.cs b.L b.a b.ccd b.cl) = _
    rw [hcs, hcl]
    rfl
  case sw =>
    show swapsWith _ _ _ (envX b.cn b.cs b.L b.a b.ccd b.cl) = _
    rw [hcs]
    rfl
  have hm':m' = [(ofString "parts", .ref D), (ofString "plan", .ref lp)]:=by rw [hm1, hm]
  have ep:∀ {A p}, Ev b m' A (.Name (ofString "plan") p) (.ref lp):=by exact Ev.loc hm' rfl Kx rfl
  have ea:∀ {A p}, Ev b m' A (.Name (ofString "parts") p) (.ref D):=by exact Ev.loc hm' rfl Kx rfl
  rw [hz] at hl
  have hg:∀ j, j < 3 → ys[j]? = some (if j = 0 then .int y ty else if j = 1 then z else .bool o):=fun j hj=>by
    rw [← hl] at hj
    rw [List.getElem?_eq_getElem hj]
    exact congrArg some (hR j _ (List.getElem?_eq_getElem hj))
  have mD:(D, listOf ys.toArray ys.length) ∈ Wk c σ' ++ ([] ++ (R' ++ [(D, LCg.lst ys)])):=List.mem_append_right (Wk c σ') (List.mem_append_right R' iH)
  refine Ts.re app1 (Ts.ret (Tv.exf (Te.eqc (Ev.item ep (List.mem_append_right (Wk c σ') (W'.sub _ (iL (W'.xs _ hp)))) rfl (by decide) fun _=>rfl) rfl) (Tv.wm1 (heads:=[]) (ew (R:=Wk c σ' ++ ([] ++ (R' ++ [(D, LCg.lst ys)]))) fun _ h=>List.mem_append_right (Wk c σ') (List.mem_append_left [(D, LCg.lst ys)] (s' _ h))) wm_range W'.inv.ok.n_range (by k_is) (Evs.cons (Ev.item ea mD (hg 0 (by decide)) (by decide) fun _=>rfl) (Evs.cons (Ev.item ea mD (hg 1 (by decide)) (by decide) fun _=>rfl) (Evs.cons (Ev.item ea mD (hg 2 (by decide)) (by decide) fun _=>rfl) Evs.nil rfl) rfl) rfl) (Tv.wi (range_ok W'.inv hzz) W' hr (fun r σ2 tl W2 E2 z9=>?_) (by lia)) rfl rfl rfl)))
  refine byP fun _ q9=>?_
  obtain ⟨a, es, e, hF, hx⟩:=z9
  refine q9 ?_
  subst e
  exact W2.owes (fun _ h=>h) ⟨a, es, rfl, hF.mono (fun p hp=>List.mem_append_right (T' ++ [(D, LCg.lst ys)]) hp) W'.ext.num (Int.le_refl _), hx⟩
noncomputable def Pl.fresh:Pl → Bool
  | .plain _=>false | .thing _=>false | _=>true
noncomputable def Vn (th:Th) (t:Led) (r:Value) (p:Pl) (lo hi:Int):Prop:=VIn th t r p ∧ (p.fresh = true → ∃ k, Idn t r (.inr k) ∧ lo < k ∧ k ≤ hi)
theorem Fresh.idn {t:Led} {a C:Addr} {es:List DictEntry} {lo hi:Int} (h:Fresh t a C es lo hi) (hC:C ∈ ([40, 62, 82, 120, 140, 228]:List Nat)):∃ k, Idn t (.ref a) (.inr k) ∧ lo < k ∧ k ≤ hi:=by
  refine byP fun _ q9=>?_
  obtain ⟨⟨d, n, h1, h2⟩, _, k, u, h3, h4, h5⟩:=h
  refine q9 ?_
  exact ⟨k, .thing hC h1 h2 h3, h4, h5.1⟩
theorem dat_list {l:Led} {v:Value} {ds:List Dat} (h:DatIn l v (.list ds)):∃ a, ∃ vs:List Value, ∃ n, v = .ref a ∧ (a, listOf vs.toArray n) ∈ l ∧ DatAll l vs ds:=by
  cases h with
  | list hm hA=>exact ⟨_, _, _, rfl, hm, hA⟩
theorem all_cons {l:Led} {vs:List Value} {d:Dat} {ds:List Dat} (h:DatAll l vs (d :: ds)):∃ v r, vs = v :: r ∧ DatIn l v d ∧ DatAll l r ds:=by
  cases h with
  | cons h k=>exact ⟨_, _, rfl, h, k⟩
theorem all_nil {l:Led} {vs:List Value} (h:DatAll l vs []):vs = []:=by
  cases h
  rfl
theorem dat_get {l:Led}:∀ {vs:List Value} {ds:List Dat} {j:Nat} {v:Value}, DatAll l vs ds → vs[j]? = some v → ∃ d, ds[j]? = some d ∧ DatIn l v d
  | _, _, 0, _, .cons h _, e=>by
    cases e
    exact ⟨_, rfl, h⟩
  | _, _, j + 1, _, .cons _ k, e=>dat_get (j:=j) k e
theorem plan_inv {l:Led} {v:Value} {x:Str} {d:Dat} (h:DatIn l v (.list [.str x, d])):∃ a t u n, v = .ref a ∧ (a, listOf [.str x t, u].toArray n) ∈ l ∧ DatIn l u d:=by
  refine byP fun _ q9=>?_
  obtain ⟨a, vs, n, e, hm, hA⟩:=dat_list h
  obtain ⟨v0, r0, rfl, h0, hA⟩:=all_cons hA
  obtain ⟨u, r1, rfl, h1, hA⟩:=all_cons hA
  refine q9 ?_
  obtain rfl:=all_nil hA
  obtain ⟨t, rfl⟩:=dat_str h0
  exact ⟨a, t, u, n, e, hm, h1⟩
theorem dat_nil {l:Led} {v:Value} {pv:PV} (h:DatIn l v pv.dat):DatIn [] v pv.dat:=by
  cases pv with
  | int i=>obtain ⟨t, rfl⟩:=dat_int h; exact .int _ _
  | bool b=>rw [dat_bool h]; exact .bool _
  | none=>rw [dat_none h]; exact .none
  | sym s=>obtain ⟨t, rfl⟩:=dat_str h; exact .str _ _
noncomputable def MC (w:World) (mx:Mx) (th:Th) (lt:Addr) (nt dn:Nat) (p:Pl):Prop:=∀ {c:Wc} {σ:Ws} {X:Led} {pv:Value}, Inv w c σ X → DatIn X pv p.dat → (lt, listOf [.ref th.a0, .ref th.a1, .ref th.a2].toArray nt) ∈ X → p.Ok →
    WC w mx c σ X 709 dn [.ref c.wa, pv, .ref lt] (fun r σ' tl=>Vn th tl r p σ.num σ'.num)
theorem MC.le {w mx} {th:Th} {lt:Addr} {nt dn k:Nat} {p:Pl} (h:MC w mx th lt nt dn p) (hk:dn ≤ k):MC w mx th lt nt k p:=fun h1 h2 h3 h4=>(h h1 h2 h3 h4).le hk
theorem made_ls {w mx} {th:Th} {lt:Addr} {nt dn:Nat} {qs:List Pl} {P:Pl} (hP:P.dat = .list [.str (ofString "list"), .list (qs.map Pl.dat)]) (hz:qs.length ≤ 8) (hdn:100 ≤ dn) (IH:∀ q ∈ qs, MC w mx th lt nt dn q ∧ q.Ok)
    (fin:∀ {tl:Led} {a b:Addr} {es:List DictEntry} {n:Nat} {vs:List Value}, Ins tl a 82 es → has "items" es (.ref b) → (b, listOf vs.toArray n) ∈ tl → vs.length = qs.length → (∀ (j:Nat) y q, vs[j]? = some y → qs[j]? = some q → VIn th tl y q) → VIn th tl (.ref a) P):MC w mx th lt nt (dn + 3) P:=by
  intro c σ X pv hI hd ht _
  rw [hP] at hd
  refine byP fun _ q9=>?_
  obtain ⟨lp, t0, u, n, rfl, hm, hu⟩:=plan_inv hd
  obtain ⟨lq, ps, nq, rfl, hq, hA⟩:=dat_list hu
  refine q9 ?_
  have hl:ps.length = qs.length:=by rw [DatAll.len hA, List.length_map]
  refine (made_list (Rel:=fun j r t=>∀ q, qs[j]? = some q → VIn th t r q) hdn hI hm hq (by lia) (fun j p hj {σ' Y} hI' hs=>?_) (fun h s q hq=>(h q hq).mono s)).mono fun r σ' tl _ _ ⟨a, es, b', n', vs, e, hF, hx, hb, hv, hR⟩=>?_
  · obtain ⟨d, hd, hD⟩:=dat_get hA hj
    rw [List.getElem?_map] at hd
    refine byP fun _ q9=>?_
    obtain ⟨q, hq, rfl⟩:=Option.map_eq_some_iff.mp hd
    obtain ⟨h1, h2⟩:=IH q (List.mem_of_getElem? hq)
    refine q9 ?_
    exact (h1 hI' (hD.mono hs) (hs _ ht) h2).mono fun r _ _ _ _ hV q' hq'=>by
      rw [hq] at hq'
      cases hq'
      exact hV.1
  · subst e
    exact ⟨fin hF.1 hx hb (hv.trans hl) fun j y q hy hq=>hR j y hy q hq, fun _=>hF.idn (by decide)⟩
theorem made_all {w mx} {th:Th} {lt:Addr} {nt:Nat}:∀ p:Pl, p.Ok → MC w mx th lt nt (3 * p.dep + 115) p
  | .plain v, _=>fun hI hd ht ok=>by
    refine byP fun _ q9=>?_
    obtain ⟨lp, t0, u, n, rfl, hm, hu⟩:=plan_inv hd
    refine q9 ?_
    exact ((made_plain hI hm).mono fun r σ' tl _ _ hP=>⟨by rw [hP.1]; exact .plain (dat_nil hu), nofun⟩).le (by lia)
  | .text x, _=>fun hI hd ht ok=>by
    refine byP fun _ q9=>?_
    obtain ⟨lp, t0, u, n, rfl, hm, hu⟩:=plan_inv hd
    obtain ⟨t, rfl⟩:=dat_str hu
    refine q9 ?_
    exact ((made_text hI hm).mono fun r σ' tl _ _ ⟨a, es, e, hF, hx⟩=>by
      subst e
      exact ⟨.text hF.1 hx, fun _=>hF.idn (by decide)⟩).le (by lia)
  | .thing i, _=>fun hI hd ht ok=>by
    refine byP fun _ q9=>?_
    obtain ⟨lp, t0, u, n, rfl, hm, hu⟩:=plan_inv hd
    obtain ⟨t, rfl⟩:=dat_int hu
    refine q9 ?_
    have hv:[Value.ref th.a0, .ref th.a1, .ref th.a2][i.toNat]? = some (.ref (th.at i)):=by
      have hi:i = 0 ∨ i = 1 ∨ i = 2:=by have:=ok.1; have:=ok.2; lia
      rcases hi with rfl | rfl | rfl <;> rfl
    exact ((made_thing hI hm ht hv ⟨ok.1, Int.lt_trans ok.2 (by decide)⟩).mono fun r σ' tl _ _ hP=>⟨by rw [hP.1]; exact .thing ok.1 ok.2, nofun⟩).le (by lia)
  | .l0, _=>MC.le (made_ls (dn:=112) (qs:=[]) rfl (by decide) (by decide) (fun q h=>nomatch h) fun h1 h2 h3 h4 _=>.l0 h1 h2 (by rwa [List.length_eq_zero_iff.mp h4] at h3)) (by lia)
  | .l1 p, ok=>MC.le (made_ls (dn:=3 * p.dep + 115) (qs:=[p]) rfl (Nat.le_of_ble_eq_true rfl) (by lia) (fun q h=>by rw [List.mem_singleton.mp h]; exact ⟨made_all p ok, ok⟩) fun h1 h2 h3 h4 h5=>by
      obtain ⟨v, rfl⟩:=List.length_eq_one_iff.mp h4
      exact .l1 h1 h2 h3 (h5 0 v p rfl rfl)) (by show 3 * p.dep + 115 + 3 ≤ 3 * (p.dep + 1) + 115; lia)
  | .l2 p q, ok=>MC.le (made_ls (dn:=3 * max p.dep q.dep + 115) (qs:=[p, q]) rfl (Nat.le_of_ble_eq_true rfl) (by lia) (fun r h=>by
      rcases List.mem_cons.mp h with e | h
      · rw [e]; exact ⟨MC.le (made_all p ok.1) (by lia), ok.1⟩
      · rw [List.mem_singleton.mp h]; exact ⟨MC.le (made_all q ok.2) (by lia), ok.2⟩) fun h1 h2 h3 h4 h5=>by
      refine byP fun _ q9=>?_
      obtain ⟨v, r, rfl⟩:=List.exists_cons_of_length_eq_add_one h4
      obtain ⟨u, rfl⟩:=List.length_eq_one_iff.mp (Nat.succ.inj h4)
      refine q9 ?_
      exact .l2 h1 h2 h3 (h5 0 v p rfl rfl) (h5 1 u q rfl rfl)) (by show 3 * max p.dep q.dep + 115 + 3 ≤ 3 * (max p.dep q.dep + 1) + 115; lia)
  | .range a b o, _=>by
    intro hI hd ht ok
    refine byP fun _ q9=>?_
    obtain ⟨lp, t0, u, n, rfl, hm, hu⟩:=plan_inv hd
    obtain ⟨lq, ps, nq, rfl, hq, hA⟩:=dat_list hu
    obtain ⟨p0, r0, rfl, h0, hA⟩:=all_cons hA
    obtain ⟨p1, r1, rfl, h1, hA⟩:=all_cons hA
    obtain ⟨p2, r2, rfl, h2, hA⟩:=all_cons hA
    refine q9 ?_
    obtain rfl:=all_nil hA
    refine byP fun _ q9=>?_
    obtain ⟨l0, s0, u0, n0, rfl, m0, d0⟩:=plan_inv h0
    obtain ⟨l1, s1, u1, n1, rfl, m1, d1⟩:=plan_inv h1
    obtain ⟨l2, s2, u2, n2, rfl, m2, d2⟩:=plan_inv h2
    obtain ⟨ty, rfl⟩:=dat_int d0
    refine q9 ?_
    obtain rfl:=dat_bool d2
    have hz:(u1 = .none ∨ ∃ i t, u1 = .int i t) ∧ DatIn [] u1 (optDat b):=by
      cases b with
      | none=>rw [dat_none d1]; exact ⟨.inl rfl, .none⟩
      | some y=>obtain ⟨t, rfl⟩:=dat_int d1; exact ⟨.inr ⟨y, t, rfl⟩, .int _ _⟩
    refine ((made_range (dn:=112) (y:=a) (ty:=ty) (z:=u1) (o:=o) (by decide) hI hm hq rfl hz.1 fun j p hj {σ' Y} hI' hs=>?_).mono fun r σ' tl _ _ ⟨a, es, e, hF, hx, hy, ho⟩=>by
      subst e
      exact ⟨.range hF.1 hx hy hz.2 ho, fun _=>hF.idn (by decide)⟩).le (by lia)
    rcases j with _ | _ | _ | j
    · cases hj; exact ((made_plain hI' (hs _ m0)).mono fun r _ _ _ _ hP=>hP.1).le (by decide)
    · cases hj; exact ((made_plain hI' (hs _ m1)).mono fun r _ _ _ _ hP=>hP.1).le (by decide)
    · cases hj; exact ((made_plain hI' (hs _ m2)).mono fun r _ _ _ _ hP=>hP.1).le (by decide)
    · simp at hj
theorem made_ok {w mx} {th:Th} {lt:Addr} {nt:Nat} (p:Pl) {c:Wc} {σ:Ws} {X:Led} {pv:Value} (hI:Inv w c σ X) (hd:DatIn X pv p.dat) (ht:(lt, listOf [.ref th.a0, .ref th.a1, .ref th.a2].toArray nt) ∈ X) (ok:p.Ok) :
    WC w mx c σ X 709 (3 * p.dep + 115) [.ref c.wa, pv, .ref lt] (fun r σ' tl=>Vn th tl r p σ.num σ'.num):=made_all p ok hI hd ht ok
noncomputable def lN:Nat → Pl → Pl
  | 0, p=>p
  | n + 1, p=>.l1 (lN n p)
inductive Nest (l:Led) (lo:Int):Int → Nat → Value → Value → Prop
  | zero {hi:Int} {v:Value}:Nest l lo hi 0 v v
  | succ {hi i:Int} {k n m:Nat} {a b d:Addr} {es:List DictEntry} {t:Tok} {u v:Value}:(a, instObj 82 d) ∈ l → (d, dictOf es m) ∈ l → has "ident" es .none → es.length ≤ 30 → has "number" es (.int i t) → lo < i → i ≤ hi → has "items" es (.ref b) → (b, listOf [u].toArray n) ∈ l → Nest l lo (i - 1) k u v → Nest l lo hi (k + 1) (.ref a) v
theorem Nest.mono {l k:Led} {lo hi:Int} {n:Nat} {u v:Value} (s:∀ p ∈ l, p ∈ k) (h:Nest l lo hi n u v):Nest k lo hi n u v:=by
  induction h with
  | zero=>exact .zero
  | succ h1 h2 h3 h4 h5 h6 h7 h8 h9 _ ih=>exact .succ (s _ h1) (s _ h2) h3 h4 h5 h6 h7 h8 (s _ h9) ih
theorem Nest.up {l:Led} {lo hi hi':Int} {n:Nat} {u v:Value} (e:hi ≤ hi') (h:Nest l lo hi n u v):Nest l lo hi' n u v:=by
  cases h with
  | zero=>exact .zero
  | succ h1 h2 h3 h4 h5 h6 h7 h8 h9 h10=>exact .succ h1 h2 h3 h4 h5 h6 (Int.le_trans h7 e) h8 h9 h10
theorem Nest.vin {th:Th} {l:Led} {lo hi:Int} {n:Nat} {u v:Value} {p:Pl} (h:Nest l lo hi n v u) (hu:VIn th l u p):VIn th l v (lN n p):=by
  induction h with
  | zero=>exact hu
  | succ h1 h2 h3 h4 h5 h6 h7 h8 h9 _ ih=>exact .l1 ⟨_, _, h1, h2⟩ h8 h9 (ih hu)
noncomputable def NJ (w:World) (th:Th) (c:Wc) (σ:Ws) (X rest:Led) (p:Pl) (v0:Value) (i:Nat) (m:Fm) (n:Led):Prop :=
  ∃ σ' T R v, (∀ q ∈ Wk c σ' ++ ([] ++ R), q ∈ n) ∧ Wi w c σ X rest σ' T [] R ∧ m.lookup (ofString "found") = some v ∧ m.lookup (ofString "world") = some (.ref c.wa) ∧ VIn th (X ++ T) v (lN i p) ∧ (0 < i → ∃ k, Idn T v (.inr k) ∧ σ.num < k ∧ k ≤ σ'.num) ∧ Nest T σ.num σ'.num i v v0
theorem nested_ok {w mx} {th:Th} {c:Wc} {σ:Ws} {X:Led} {n:Nat} {td:Tok} {v:Value} {p:Pl} (hI:Inv w c σ X) (hv:VIn th X v p) (hn:n ≤ 20) :
    WC w mx c σ X 716 100 [.ref c.wa, .int (n:Int) td, v] (fun r σ' tl=>VIn th (X ++ tl) r (lN n p) ∧ (0 < n → ∃ k, Idn tl r (.inr k) ∧ σ.num < k ∧ k ≤ σ'.num) ∧ Nest tl σ.num σ'.num n r v):=by
  refine WC.gen fun PG gP=>?_
  refine wi_enter (bm:=[(ofString "inmost", v), (ofString "deep", .int (n:Int) td), (ofString "world", .ref c.wa)]) (by k_is) (by k_is) (by first | exact fun s X=>BindsTo.of_eq rfl | exact fun s X=>binds_K X rfl (by k_is) rfl rfl rfl) (by exact rfl) (by exact rfl) (by exact rfl) (by exact rfl) (by exact rfl) (by first | decide | lia) (by exact rfl) hI fun b m rest hm hcp hcs hcl hr W=>?_
  refine Ts.assign hm ((show ∀ q, Ev b m _ (.Name (ofString "inmost") q) v from fun q=>by exact Ev.loc hm rfl Kx rfl) _ _ fun m1 hm1=>?_) Kx rfl
  refine Ts.forR hcp ?kx (Tv.callee (Tv.blt (show nsIn (K9 w.params) mainGlobals (ofString "range") = some none by k_is) (by k_dflt boot_fast) (by decide) (Tv.witht (Tv.args1 ((show ∀ q, Ev b m1 _ (.Name (ofString "deep") q) (.int (n:Int) td) from fun q=>by exact Ev.loc hm1 rfl Kx rfl) _ _ (Tv.args0 (Tv.range fun D u z hD=>⟨D, n, u, td, z, NJ w th c σ X rest p v, rfl, iH, Nat.le_trans hn (Nat.le_of_ble_eq_true rfl), ⟨σ, [], rest, v, fun q hq=>iC hq, W, by rw [hm1]; rfl, by rw [hm1]; rfl, by rw [List.append_nil]; exact hv, fun h=>absurd h (Nat.lt_irrefl 0), .zero⟩, ?step, ?fin⟩))) rfl) rfl rfl) Kx rfl) rfl) (fun _=>rfl)
  case kx=>exact Kx
  case fin =>
    intro m2 n2 z9
    refine byP fun _ q9=>?_
    obtain ⟨σ', T, R, v', sn, W', l1, l2, hv', hk, hNe⟩:=z9
    refine q9 ?_
    exact Ts.ret (Ev.name l1 Kx rfl _ (W'.owes sn (gP _ _ _ ⟨hv', hk, hNe⟩)))
  case step =>
    intro i t m2 n2 heads hi z9 off
    refine byP fun _ q9=>?_
    obtain ⟨σ', T, R, v', sn, W', l1, l2, hv', hk, hNe⟩:=z9
    refine q9 ?_
    have g1:(((ofString "level", Value.int (i:Int) t) :: m2:Fm)).lookup (ofString "found") = some v':=l1
    have g2:(((ofString "level", Value.int (i:Int) t) :: m2:Fm)).lookup (ofString "world") = some (.ref c.wa):=l2
    have ew:∀ {A q}, Ev b ((ofString "level", Value.int (i:Int) t) :: m2) A (.Name (ofString "world") q) (.ref c.wa):=Ev.name g2 Kx rfl
    have ef:∀ {A q}, Ev b ((ofString "level", Value.int (i:Int) t) :: m2) A (.Name (ofString "found") q) v':=Ev.name g1 Kx rfl
    have hh:Gt heads (Wk c σ' ++ ([] ++ R)):=fun q hq p hp=>Ne.symm (off q hq p (sn p hp))
    refine Ts.re (k:=heads ++ (Wk c σ' ++ ([] ++ R))) (fun p hp=>(List.mem_append.mp hp).elim (iL) fun h=>iR (sn p h)) ?_
    refine Ts.assign rfl (Tv.wmx (heads:=heads) ew wm_listof W'.inv.ok.n_list (by k_is) (Tv.args1 (Tv.listx (Evs.cons ef Evs.nil rfl _ _ (Tv.list (fun la hla=>?_) (by rw [sizeLine_eq]; exact Nat.le_of_ble_eq_true rfl)))) rfl) rfl rfl rfl) Kx rfl
    have W2:=W'.more (tl:=[(la, listOf [v'].toArray 0)]) (lt_gt fun p hp=>hla p (iR hp))
    have hh2:Gt heads (Wk c σ' ++ ([] ++ (R ++ [(la, listOf [v'].toArray 0)]))):=Gt.app hh.symm.l.symm (show Gt heads (R ++ [(la, listOf [v'].toArray 0)]) from Gt.app (t₁:=R) hh.symm.r.symm (lt_gt fun p hp=>hla p (iL hp)))
    refine Tv.re (k:=heads ++ (Wk c σ' ++ ([] ++ (R ++ [(la, listOf [v'].toArray 0)])))) (fun p hp=>?_) (Tv.args0 (Tv.wih (list_ok (vs:=[v']) (nb:=0) W2.inv (List.mem_append_right X (List.mem_append_right T iH)) (Nat.le_of_ble_eq_true rfl)) W2 hh2 hr (fun r σ7 tl W7 E7 g7 ⟨a, es, b', n', e, hF, hx, hb⟩=>?_) (by decide)))
    · rcases List.mem_append.mp hp with h | h
      · exact iC (iL h)
      · have:=app1 p h
        exact (List.mem_cons.mp this).elim (fun e=>e ▸ iH) fun h=>iC (iR h)
    · intro m3 hm3
      subst e
      subst hm3
      have sT:∀ q ∈ T, q ∈ (T ++ [(la, listOf [v'].toArray 0)]) ++ tl:=fun q hq=>iL (iL hq)
      have st:∀ q ∈ tl, q ∈ (T ++ [(la, listOf [v'].toArray 0)]) ++ tl:=fun q hq=>iR hq
      have h0:=W'.ext.num
      refine Ts.nil ⟨_, fun _ h=>h, fun q hq p hp=>Ne.symm (g7 q hq p hp), σ7, _, _, .ref a, fun _ h=>h, W7, rfl, g2, .l1 (hF.1.mono fun q hq=>List.mem_append_right X (st q hq)) hx (List.mem_append_right X (st _ hb)) (hv'.mono fun q hq=>(List.mem_append.mp hq).elim (iL) fun h=>List.mem_append_right X (sT q h)), fun _=>?_, ?_⟩
      · refine byP fun _ q9=>?_
        obtain ⟨k, h1, h2, h3⟩:=hF.idn (by decide)
        refine q9 ?_
        exact ⟨k, h1.mono st, by lia, h3⟩
      · refine byP fun _ q9=>?_
        obtain ⟨⟨d9, n9, q1, q2⟩, q3, k9, u9, q4, q5, q6, q7⟩:=hF
        refine q9 ?_
        exact .succ (st _ q1) (st _ q2) q3 q7 q4 (by lia) q6 hx (st _ hb) ((hNe.mono sT).up (by lia))
theorem Owes.fit {news n k:Led} {R:Value → Led → Led → Prop} {r:Value} (h:R r k []) (s:∀ p ∈ k, p ∈ n):Owes news R r n:=⟨k, [], fun p hp=>s p (by rwa [List.append_nil] at hp), Gt.nil, h⟩
theorem ident_int {w mx} {l:Led} {wa:Addr} {i:Int} {t:Tok}:Does w mx 476 4 [.ref wa, .int i t] l (fun r n' tl=>(∃ t, r = .int (2 * i + 1) t) ∧ n' = l ∧ tl = []):=by
  refine does_enter (bm:=[(ofString "value", .int i t), (ofString "self", .ref wa)]) (by k_is) (by k_is) (by first | exact fun s X=>BindsTo.of_eq rfl | exact fun s X=>binds_K X rfl (by k_is) rfl rfl rfl) (by exact rfl) (by exact rfl) (by exact rfl) (by exact rfl) (by exact rfl) (by first | decide | lia) (by exact rfl) fun b m0 hm hcp hcs hcl hr0=>?_
  refine Ts.assign hm (Tv.gcall ((show ∀ p, Ev b m0 _ (.Name (ofString "sort_of") p) (.ref 237) from fun p=>by exact Ev.glob (by k_is) Kx rfl) _) (by k_is) (Evs.cons (v:=.int i t) (by exact Ev.loc hm rfl Kx rfl) Evs.nil rfl) (Tv.does0 (sort_ok (Kind.int i t)) hr0 (fun r n' tl ⟨_, _, q⟩=>q) (fun r ⟨t', e, _⟩ m1 hm1=>?_) (by decide)) rfl rfl) Kx rfl
  subst e
  have ev:∀ {A p}, Ev b m1 A (.Name (ofString "value") p) (.int i t):=by exact Ev.loc hm1 rfl Kx rfl
  have eo:∀ {A p}, Ev b m1 A (.Name (ofString "sort") p) (.str (ofString "int") t'):=by exact Ev.loc hm1 rfl Kx rfl
  exact Ts.hand (Te.eqs eo rfl) (Tv.binop (Tv.binop (Tv.cint fun t=>ev _ (Tv.muli (PySem.IntMulOk.of_left (PySem.intBits_le_64 (by decide) (by decide))) fun t=>Tv.cint fun t=>Tv.addi fun t=>Owes.same ⟨⟨_, rfl⟩, rfl, rfl⟩))))
theorem ident_none {w mx} {l:Led} {wa:Addr} :Does w mx 476 4 [.ref wa, .none] l (fun r n' tl=>(∃ t, r = .int (8) t) ∧ n' = l ∧ tl = []):=by
  refine does_enter (bm:=[(ofString "value", .none), (ofString "self", .ref wa)]) (by k_is) (by k_is) (by first | exact fun s X=>BindsTo.of_eq rfl | exact fun s X=>binds_K X rfl (by k_is) rfl rfl rfl) (by exact rfl) (by exact rfl) (by exact rfl) (by exact rfl) (by exact rfl) (by first | decide | lia) (by exact rfl) fun b m0 hm hcp hcs hcl hr0=>?_
  refine Ts.assign hm (Tv.gcall ((show ∀ p, Ev b m0 _ (.Name (ofString "sort_of") p) (.ref 237) from fun p=>by exact Ev.glob (by k_is) Kx rfl) _) (by k_is) (Evs.cons (v:=.none) (by exact Ev.loc hm rfl Kx rfl) Evs.nil rfl) (Tv.does0 (sort_ok Kind.none) hr0 (fun r n' tl ⟨_, _, q⟩=>q) (fun r ⟨t, e, _⟩ m1 hm1=>?_) (by decide)) rfl rfl) Kx rfl
  subst e
  have ev:∀ {A p}, Ev b m1 A (.Name (ofString "value") p) (.none):=by exact Ev.loc hm1 rfl Kx rfl
  have eo:∀ {A p}, Ev b m1 A (.Name (ofString "sort") p) (.str (ofString "nil") t):=by exact Ev.loc hm1 rfl Kx rfl
  exact Ts.skip (Te.eqs eo rfl) (Ts.hand (Te.eqs eo rfl) (Tv.cint fun t=>Owes.same ⟨⟨_, rfl⟩, rfl, rfl⟩))
theorem ident_true {w mx} {l:Led} {wa:Addr} :Does w mx 476 4 [.ref wa, .bool true] l (fun r n' tl=>(∃ t, r = .int (20) t) ∧ n' = l ∧ tl = []):=by
  refine does_enter (bm:=[(ofString "value", .bool true), (ofString "self", .ref wa)]) (by k_is) (by k_is) (by first | exact fun s X=>BindsTo.of_eq rfl | exact fun s X=>binds_K X rfl (by k_is) rfl rfl rfl) (by exact rfl) (by exact rfl) (by exact rfl) (by exact rfl) (by exact rfl) (by first | decide | lia) (by exact rfl) fun b m0 hm hcp hcs hcl hr0=>?_
  refine Ts.assign hm (Tv.gcall ((show ∀ p, Ev b m0 _ (.Name (ofString "sort_of") p) (.ref 237) from fun p=>by exact Ev.glob (by k_is) Kx rfl) _) (by k_is) (Evs.cons (v:=.bool true) (by exact Ev.loc hm rfl Kx rfl) Evs.nil rfl) (Tv.does0 (sort_ok (Kind.bool true)) hr0 (fun r n' tl ⟨_, _, q⟩=>q) (fun r ⟨t, e, _⟩ m1 hm1=>?_) (by decide)) rfl rfl) Kx rfl
  subst e
  have ev:∀ {A p}, Ev b m1 A (.Name (ofString "value") p) (.bool true):=by exact Ev.loc hm1 rfl Kx rfl
  have eo:∀ {A p}, Ev b m1 A (.Name (ofString "sort") p) (.str (ofString "bool") t):=by exact Ev.loc hm1 rfl Kx rfl
  exact Ts.skip (Te.eqs eo rfl) (Ts.skip (Te.eqs eo rfl) (Ts.hand (Te.eqs eo rfl) (Tv.ext (Te.ev ev rfl) (Tv.cint fun t=>Owes.same ⟨⟨_, rfl⟩, rfl, rfl⟩))))
theorem ident_false {w mx} {l:Led} {wa:Addr} :Does w mx 476 4 [.ref wa, .bool false] l (fun r n' tl=>(∃ t, r = .int (0) t) ∧ n' = l ∧ tl = []):=by
  refine does_enter (bm:=[(ofString "value", .bool false), (ofString "self", .ref wa)]) (by k_is) (by k_is) (by first | exact fun s X=>BindsTo.of_eq rfl | exact fun s X=>binds_K X rfl (by k_is) rfl rfl rfl) (by exact rfl) (by exact rfl) (by exact rfl) (by exact rfl) (by exact rfl) (by first | decide | lia) (by exact rfl) fun b m0 hm hcp hcs hcl hr0=>?_
  refine Ts.assign hm (Tv.gcall ((show ∀ p, Ev b m0 _ (.Name (ofString "sort_of") p) (.ref 237) from fun p=>by exact Ev.glob (by k_is) Kx rfl) _) (by k_is) (Evs.cons (v:=.bool false) (by exact Ev.loc hm rfl Kx rfl) Evs.nil rfl) (Tv.does0 (sort_ok (Kind.bool false)) hr0 (fun r n' tl ⟨_, _, q⟩=>q) (fun r ⟨t, e, _⟩ m1 hm1=>?_) (by decide)) rfl rfl) Kx rfl
  subst e
  have ev:∀ {A p}, Ev b m1 A (.Name (ofString "value") p) (.bool false):=by exact Ev.loc hm1 rfl Kx rfl
  have eo:∀ {A p}, Ev b m1 A (.Name (ofString "sort") p) (.str (ofString "bool") t):=by exact Ev.loc hm1 rfl Kx rfl
  exact Ts.skip (Te.eqs eo rfl) (Ts.skip (Te.eqs eo rfl) (Ts.hand (Te.eqs eo rfl) (Tv.exf (Te.ev ev rfl) (Tv.cint fun t=>Owes.same ⟨⟨_, rfl⟩, rfl, rfl⟩))))
theorem dict_tail {w:World} {A:Around} {E:Value → Shared → Prop} {s:Shared} {h₀:Heap} {L d:Addr} {news:Led} {o:Obj} {kvs:List (Str × Value)} {k:Str} {u:Tok} {v:Value} {value slice:PySem.Expr} {Q:Value → Shared → Prop} (N:News h₀ L s.heap news) (hp:(d, o) ∈ news) (hd:o.IsDictOf (strKind PR w) kvs) (hl:valueAt kvs k = some v) (h:Q v { s with toks:=s.toks + 1 })
    (hs:subscripted slice false (.ref d) (.str k u) = operate [.ref d, .str k u] (getItem (.ref d) (.str k u))):wpAny (model PR w) A (subscriptTail value slice (.ref d) (.str k u)) Q E s :=
  have hD:=kda_dict N hp hd
  tail_any hD.typeIs slot_dict_getitem.lookup (wpAny_getItem_of (strKind_is _ _ _ _) hD.mapOf hl h) hs
theorem UpdF.app {d:Addr} {o:Obj} {l:Led} {g:Obj → Led}:∀ {pre:Led}, (∀ p ∈ pre, p.1 ≠ d) → UpdF d o l g → UpdF d o (pre ++ l) (fun o'=>pre ++ g o')
  | [], _, U=>U
  | q :: pre, h, U=>.tail (h q (.head _)) (UpdF.app (fun p hp=>h p (.tail _ hp)) U)
theorem f_sy {w:World}:FieldOk w 681 (ofString "symbol_idents") none:=⟨by k_is, by k_is, by k_is, by k_is⟩
theorem wm_next {w:World}:MethOk w 681 "next_ident" 469:=⟨by k_is, by k_is, by k_is⟩
theorem ident_symO {w mx} {c:Wc} {σ:Ws} {X rest:Led} {so:Obj} {kvs:List (Str × Value)} {x:Str} {tx:Tok} {v:Value} (hI:Inv w c σ X) (hd:so.IsDictOf (strKind PR w) kvs) (lo:(c.sy == sysModules) = false) (hv:valueAt kvs x = some v) :
    Does w mx 476 4 [.ref c.wa, .str x tx] (Wk c σ ++ ((c.sy, so) :: rest)) (fun r n' tl=>r = v ∧ n' = Wk c σ ++ ((c.sy, so) :: rest) ∧ tl = []):=by
  refine does_enter (bm:=[(ofString "value", .str x tx), (ofString "self", .ref c.wa)]) (by k_is) (by k_is) (by first | exact fun s X=>BindsTo.of_eq rfl | exact fun s X=>binds_K X rfl (by k_is) rfl rfl rfl) (by exact rfl) (by exact rfl) (by exact rfl) (by exact rfl) (by exact rfl) (by first | decide | lia) (by exact rfl) fun b m0 hm hcp hcs hcl hr0=>?_
  refine Ts.assign hm (Tv.gcall ((show ∀ p, Ev b m0 _ (.Name (ofString "sort_of") p) (.ref 237) from fun p=>by exact Ev.glob (by k_is) Kx rfl) _) (by k_is) (Evs.cons (v:=.str x tx) (by exact Ev.loc hm rfl Kx rfl) Evs.nil rfl) (Tv.does0 (sort_ok (Kind.str x tx)) hr0 (fun r n' tl ⟨_, _, q⟩=>q) (fun r ⟨t, e, _⟩ m1 hm1=>?_) (by decide)) rfl rfl) Kx rfl
  subst e
  have ev:∀ {A p}, Ev b m1 A (.Name (ofString "value") p) (.str x tx):=by exact Ev.loc hm1 rfl Kx rfl
  have eo:∀ {A p}, Ev b m1 A (.Name (ofString "sort") p) (.str (ofString "sym") t):=by exact Ev.loc hm1 rfl Kx rfl
  have es:∀ {A p}, Ev b m1 A (.Name (ofString "self") p) (.ref c.wa):=by exact Ev.loc hm1 rfl Kx rfl
  have ey:∀ {p p2}, Ev b m1 (Wk c σ ++ ((c.sy, so) :: rest)) (.Attribute (.Name (ofString "self") p) (ofString "symbol_idents") p2) (.ref c.sy):=Ev.wf es f_sy hI.ok.f_sy rfl rfl
  have msy:(c.sy, so) ∈ Wk c σ ++ ((c.sy, so) :: rest):=iR (.head _)
  refine Ts.skip (Te.eqs eo rfl) (Ts.skip (Te.eqs eo rfl) (Ts.skip (Te.eqs eo rfl) (Ts.ift (Te.eqs eo rfl) (Ts.skip (fun P h=>Tv.cmp1 (ev _ (ey _ fun Q E h₁ tk F N ret=>kdg_notin (knd:=PySem.strKind _ _) N msy hd lo (strKind_is _ _ _ _) true (by rw [hv]; rfl) (ret _ _ _ _ F N (Tv.tbool h)))) rfl) (Ts.ret (Tv.sub (ey _ (ev _ fun Q E h₁ tk F N ret=>dict_tail N msy hd hv (ret _ _ _ _ F N (Owes.same ⟨rfl, rfl, rfl⟩)) rfl))))))))
theorem ident_symN {w mx} {c:Wc} {σ:Ws} {X rest:Led} {so:Obj} {kvs:List (Str × Value)} {x:Str} {tx:Tok} (hI:Inv w c σ X) (hd:so.IsDictOf (strKind PR w) kvs) (lo:(c.sy == sysModules) = false) (hv:valueAt kvs x = none) (hz:kvs.length ≤ 100) (hg:Gt (Wk c σ) ((c.sy, so) :: rest)) (hr:∀ p ∈ rest, p.1 ≠ c.sy) :
    Does w mx 476 4 [.ref c.wa, .str x tx] (Wk c σ ++ ((c.sy, so) :: rest)) (fun r n' tl=>∃ σ' so' t, r = .int (σ.idn + 8) t ∧ n' = Wk c σ' ++ ((c.sy, so') :: rest) ∧ tl = [] ∧ Inv w c σ' X ∧ σ'.idn = σ.idn + 8 ∧ σ'.num = σ.num ∧ σ'.rd = σ.rd ∧ σ'.kvs = σ.kvs ∧ so'.IsDictOf (strKind PR w) (stored kvs x (.int (σ.idn + 8) t))):=by
  refine does_enter (bm:=[(ofString "value", .str x tx), (ofString "self", .ref c.wa)]) (by k_is) (by k_is) (by first | exact fun s X=>BindsTo.of_eq rfl | exact fun s X=>binds_K X rfl (by k_is) rfl rfl rfl) (by exact rfl) (by exact rfl) (by exact rfl) (by exact rfl) (by exact rfl) (by first | decide | lia) (by exact rfl) fun b m0 hm hcp hcs hcl hr0=>?_
  refine Ts.assign hm (Tv.gcall ((show ∀ p, Ev b m0 _ (.Name (ofString "sort_of") p) (.ref 237) from fun p=>by exact Ev.glob (by k_is) Kx rfl) _) (by k_is) (Evs.cons (v:=.str x tx) (by exact Ev.loc hm rfl Kx rfl) Evs.nil rfl) (Tv.does0 (sort_ok (Kind.str x tx)) hr0 (fun r n' tl ⟨_, _, q⟩=>q) (fun r ⟨t, e, _⟩ m1 hm1=>?_) (by decide)) rfl rfl) Kx rfl
  subst e
  have ev:∀ {A p}, Ev b m1 A (.Name (ofString "value") p) (.str x tx):=by exact Ev.loc hm1 rfl Kx rfl
  have eo:∀ {A p}, Ev b m1 A (.Name (ofString "sort") p) (.str (ofString "sym") t):=by exact Ev.loc hm1 rfl Kx rfl
  have es:∀ {A p}, Ev b m1 A (.Name (ofString "self") p) (.ref c.wa):=by exact Ev.loc hm1 rfl Kx rfl
  have ey:∀ {so' σ' p p2}, WOk c σ' → Ev b m1 (Wk c σ' ++ ((c.sy, so') :: rest)) (.Attribute (.Name (ofString "self") p) (ofString "symbol_idents") p2) (.ref c.sy):=fun k=>Ev.wf es f_sy k.f_sy rfl rfl
  have msy:∀ {so' σ'}, (c.sy, so') ∈ Wk c σ' ++ ((c.sy, so') :: rest):=iR (.head _)
  refine Ts.skip (Te.eqs eo rfl) (Ts.skip (Te.eqs eo rfl) (Ts.skip (Te.eqs eo rfl) (Ts.ift (Te.eqs eo rfl) (Ts.ift (fun P h=>Tv.cmp1 (ev _ (ey hI.ok _ fun Q E h₁ tk F N ret=>kdg_notin (knd:=PySem.strKind _ _) N msy hd lo (strKind_is _ _ _ _) false (by rw [hv]; rfl) (ret _ _ _ _ F N (Tv.tbool h)))) rfl) (Ts.setitem (Tv.wm0 (heads:=[]) es wm_next hI.ok.n_next (by k_is) (Tv.does (next_ident_ok hI hg) hr0 (fun r n' tl _ q=>?_) (by decide)) rfl) rfl)))))
  refine byP fun _ q9=>?_
  obtain ⟨σ2, e7, hI2, ⟨t8, e6⟩, e5, e4, e3, e2, e1⟩:=q
  refine q9 ?_
  subst e7
  subst e6
  subst e1
  rw [List.append_nil] at hI2 ⊢
  have nsy:∀ p ∈ Wk c σ2, p.1 ≠ c.sy:=fun p hp=>(Gt.wk (σ':=σ2) hg) p hp (c.sy, so) (.head _)
  refine ey hI2.ok _ (ev _ fun Q E h₁ tk F N ret=>kda_set (knd:=PySem.strKind _ _) F N (UpdF.app nsy (.head hr)) hd (strKind_is _ _ _ _) (Nat.le_trans hz (by rw [sizeLine_eq]; decide)) fun h3 o3 F3 N3 hd3=>ret _ _ _ _ F3 N3 (Ts.nil (Ts.ret (Tv.sub (ey hI2.ok _ (ev _ fun Q E h₁ tk F N ret=>dict_tail N msy hd3 (by rw [valueAt_stored]; exact if_pos rfl) (ret _ _ _ _ F N (Owes.fit ⟨σ2, o3, t8, rfl, rfl, rfl, hI2, e5, e4, e3, e2, hd3⟩ fun _ h=>h)) rfl))))))
structure IdF (w:World) (C:Addr):Prop where
  get:FieldOk w C (ofString "ident") none
  cls:Cls w C
  set:takerIn (K9 w.params) C (ofString "ident") = some none
  mem:C ∈ ([40, 62, 82, 120, 140, 228]:List Nat)
theorem id_fld {w:World} {C:Addr} (h:C ∈ ([40, 82, 120, 228]:List Nat)):IdF w C:=by
  rcases h with _ | ⟨_, _ | ⟨_, _ | ⟨_, _ | ⟨_, h⟩⟩⟩⟩
  · exact ⟨⟨by k_is, by k_is, by k_is, by k_is⟩, ⟨by k_is, by k_is, by k_is⟩, by k_is, by decide⟩
  · exact ⟨⟨by k_is, by k_is, by k_is, by k_is⟩, ⟨by k_is, by k_is, by k_is⟩, by k_is, by decide⟩
  · exact ⟨⟨by k_is, by k_is, by k_is, by k_is⟩, ⟨by k_is, by k_is, by k_is⟩, by k_is, by decide⟩
  · exact ⟨⟨by k_is, by k_is, by k_is, by k_is⟩, ⟨by k_is, by k_is, by k_is⟩, by k_is, by decide⟩
  · cases h
theorem is_nn {w:World} {A:Around} {Q:Value → Shared → Prop} {E:Value → Shared → Prop} {s:Shared} (h:Q (.bool true) s):wpAny (model PR w) A (compareOp .Is .none .none) Q E s:=by
  walk1
  exact h
theorem is_in {w:World} {A:Around} {Q:Value → Shared → Prop} {E:Value → Shared → Prop} {s:Shared} {i:Int} {t:Tok} (h:Q (.bool false) s):wpAny (model PR w) A (compareOp .Is (.int i t) .none) Q E s:=by
  walk1
  exact h
theorem ident_thingO {w mx} {c:Wc} {σ:Ws} {rest:Led} {a C d:Addr} {es:List DictEntry} {n:Nat} {i:Int} {t:Tok} (hC:C ∈ ([40, 82, 120, 228]:List Nat)) (h1:(a, instObj C d) ∈ rest) (hi:has "ident" es (.int i t)) :
    Does w mx 476 4 [.ref c.wa, .ref a] (Wk c σ ++ ((d, dictOf es n) :: rest)) (fun r n' tl=>r = .int i t ∧ n' = Wk c σ ++ ((d, dictOf es n) :: rest) ∧ tl = []):=by
  have m1:∀ {σ' es' k'}, (a, instObj C d) ∈ Wk c σ' ++ ((d, dictOf es' k') :: rest):=iR (.tail _ h1)
  have m2:∀ {σ' es' k'}, (d, dictOf es' k') ∈ Wk c σ' ++ ((d, dictOf es' k') :: rest):=iR (.head _)
  have hf:=id_fld (w:=w) hC
  refine does_enter (bm:=[(ofString "value", .ref a), (ofString "self", .ref c.wa)]) (by k_is) (by k_is) (by first | exact fun s X=>BindsTo.of_eq rfl | exact fun s X=>binds_K X rfl (by k_is) rfl rfl rfl) (by exact rfl) (by exact rfl) (by exact rfl) (by exact rfl) (by exact rfl) (by first | decide | lia) (by exact rfl) fun b m0 hm hcp hcs hcl hr0=>?_
  refine Ts.assign hm (Tv.gcall ((show ∀ p, Ev b m0 _ (.Name (ofString "sort_of") p) (.ref 237) from fun p=>by exact Ev.glob (by k_is) Kx rfl) _) (by k_is) (Evs.cons (v:=.ref a) (by exact Ev.loc hm rfl Kx rfl) Evs.nil rfl) (Tv.does0 (sort_ok (Kind.inst hf.mem m1 m2)) hr0 (fun r n' tl ⟨_, _, q⟩=>q) (fun r ⟨t', e, _⟩ m1' hm1=>?_) (by decide)) rfl rfl) Kx rfl
  subst e
  have ev:∀ {A p}, Ev b m1' A (.Name (ofString "value") p) (.ref a):=by exact Ev.loc hm1 rfl Kx rfl
  have eo:∀ {A p}, Ev b m1' A (.Name (ofString "sort") p) (.str (ofString "thing") t'):=by exact Ev.loc hm1 rfl Kx rfl
  have ei:∀ {p p2}, Ev b m1' (Wk c σ ++ ((d, dictOf es n) :: rest)) (.Attribute (.Name (ofString "value") p) (ofString "ident") p2) (.int i t):=Ev.attr ev m1 m2 hf.get hi rfl rfl
  exact Ts.skip (Te.eqs eo rfl) (Ts.skip (Te.eqs eo rfl) (Ts.skip (Te.eqs eo rfl) (Ts.skip (Te.eqs eo rfl) (Ts.skip (fun P h=>Tv.cmp1 (ei _ (Tv.cnone fun Q E h₁ tk F N ret=>is_in (ret _ _ _ _ F N (Tv.tbool h)))) rfl) (Ts.ret (ei _ (Owes.same ⟨rfl, rfl, rfl⟩)))))))
theorem ident_thingN {w mx} {c:Wc} {σ:Ws} {X rest:Led} {a C d:Addr} {es:List DictEntry} {n:Nat} (hI:Inv w c σ X) (hC:C ∈ ([40, 82, 120, 228]:List Nat)) (h1:(a, instObj C d) ∈ rest) (hi:has "ident" es .none) (hz:es.length ≤ 100) (hg:Gt (Wk c σ) ((d, dictOf es n) :: rest)) (hr:∀ p ∈ rest, p.1 ≠ d) :
    Does w mx 476 4 [.ref c.wa, .ref a] (Wk c σ ++ ((d, dictOf es n) :: rest)) (fun r n' tl=>∃ σ' es' k t, r = .int (σ.idn + 8) t ∧ n' = Wk c σ' ++ ((d, dictOf es' k) :: rest) ∧ tl = [] ∧ Inv w c σ' X ∧ σ'.idn = σ.idn + 8 ∧ σ'.num = σ.num ∧ σ'.rd = σ.rd ∧ σ'.kvs = σ.kvs ∧ Put es es' (ofString "ident") (.int (σ.idn + 8) t)):=by
  have m1:∀ {σ' es' k'}, (a, instObj C d) ∈ Wk c σ' ++ ((d, dictOf es' k') :: rest):=iR (.tail _ h1)
  have m2:∀ {σ' es' k'}, (d, dictOf es' k') ∈ Wk c σ' ++ ((d, dictOf es' k') :: rest):=iR (.head _)
  have hf:=id_fld (w:=w) hC
  refine does_enter (bm:=[(ofString "value", .ref a), (ofString "self", .ref c.wa)]) (by k_is) (by k_is) (by first | exact fun s X=>BindsTo.of_eq rfl | exact fun s X=>binds_K X rfl (by k_is) rfl rfl rfl) (by exact rfl) (by exact rfl) (by exact rfl) (by exact rfl) (by exact rfl) (by first | decide | lia) (by exact rfl) fun b m0 hm hcp hcs hcl hr0=>?_
  refine Ts.assign hm (Tv.gcall ((show ∀ p, Ev b m0 _ (.Name (ofString "sort_of") p) (.ref 237) from fun p=>by exact Ev.glob (by k_is) Kx rfl) _) (by k_is) (Evs.cons (v:=.ref a) (by exact Ev.loc hm rfl Kx rfl) Evs.nil rfl) (Tv.does0 (sort_ok (Kind.inst hf.mem m1 m2)) hr0 (fun r n' tl ⟨_, _, q⟩=>q) (fun r ⟨t', e, _⟩ m1' hm1=>?_) (by decide)) rfl rfl) Kx rfl
  subst e
  have ev:∀ {A p}, Ev b m1' A (.Name (ofString "value") p) (.ref a):=by exact Ev.loc hm1 rfl Kx rfl
  have eo:∀ {A p}, Ev b m1' A (.Name (ofString "sort") p) (.str (ofString "thing") t'):=by exact Ev.loc hm1 rfl Kx rfl
  have ew:∀ {A p}, Ev b m1' A (.Name (ofString "self") p) (.ref c.wa):=by exact Ev.loc hm1 rfl Kx rfl
  have ei:∀ {σ' es' k' v p p2}, has "ident" es' v → handedIn v = true → Ev b m1' (Wk c σ' ++ ((d, dictOf es' k') :: rest)) (.Attribute (.Name (ofString "value") p) (ofString "ident") p2) v:=fun h hh=>Ev.attr ev m1 m2 hf.get h hh rfl
  refine Ts.skip (Te.eqs eo rfl) (Ts.skip (Te.eqs eo rfl) (Ts.skip (Te.eqs eo rfl) (Ts.skip (Te.eqs eo rfl) (Ts.ift (fun P h=>Tv.cmp1 (ei hi rfl _ (Tv.cnone fun Q E h₁ tk F N ret=>is_nn (ret _ _ _ _ F N (Tv.tbool h)))) rfl) (Ts.setattr (Tv.wm0 (heads:=[]) ew wm_next hI.ok.n_next (by k_is) (Tv.does (next_ident_ok hI hg) hr0 (fun r n' tl _ q=>?_) (by decide)) rfl) rfl)))))
  refine byP fun _ q9=>?_
  obtain ⟨σ2, e7, hI2, ⟨t8, e6⟩, e5, e4, e3, e2, e1⟩:=q
  refine q9 ?_
  subst e7
  subst e6
  subst e1
  rw [List.append_nil] at hI2 ⊢
  have nsy:∀ p ∈ Wk c σ2, p.1 ≠ d:=fun p hp=>(Gt.wk (σ':=σ2) hg) p hp (d, dictOf es n) (.head _)
  refine ev _ fun Q E h₁ tk F N ret=>set_fld F b.X N (InstAt.of_news N m1 m2) hf.cls.a hf.cls.p hf.set hf.cls.d (isSome_get hi) (UpdF.app nsy (.head hr)) (Nat.le_trans hz (by decide)) fun h3 es3 n3 F3 N3 P3=>ret _ _ _ _ F3 N3 (Ts.nil (Ts.ret (ei P3.same rfl _ (Owes.fit ⟨σ2, es3, n3, t8, rfl, rfl, rfl, hI2, e5, e4, e3, e2, P3⟩ fun _ h=>h))))
set_option genInjectivity false in
structure Hs where
  so:Obj
  syk:List (Str × Value)
  ds:List (Addr × List DictEntry × Nat)
noncomputable def Dk (ds:List (Addr × List DictEntry × Nat)):Led:=ds.map fun x=>(x.1, dictOf x.2.1 x.2.2)
noncomputable def Hk (c:Wc) (η:Hs):Led:=(c.sy, η.so) :: Dk η.ds
noncomputable def Hw (c:Wc) (σ:Ws) (η:Hs):Led:=Wk c σ ++ Hk c η
noncomputable def syms:List Str:=[ofString "a", ofString "b", ofString "1", ofString "x"]
noncomputable def missS (kvs:List (Str × Value)):Nat:=(syms.filter fun n=>(valueAt kvs n).isNone).length
structure HI (w:World) (c:Wc) (da:List Addr) (σ:Ws) (η:Hs) (X:Led):Prop where
  inv:Inv w c σ (Dk η.ds ++ X)
  gw:Gt (Wk c σ) (Hk c η)
  dict:η.so.IsDictOf (strKind PR w) η.syk
  lo:(c.sy == sysModules) = false
  sint:∀ x v, valueAt η.syk x = some v → ∃ i t, v = .int i t
  cnt:η.syk.length + missS η.syk ≤ 4
  ids:∀ q ∈ η.ds, (has "ident" q.2.1 .none ∧ q.2.1.length ≤ 30) ∨ ∃ i t, has "ident" q.2.1 (.int i t)
  nod:((Hk c η).map (·.1)).Nodup
  ad:η.ds.map (·.1) = da
  gt:Gt (Hk c η) X
noncomputable def fsy (η:Hs) (x:Str):Option Int:=match valueAt η.syk x with
  | some (.int i _)=>some i
  | _=>none
noncomputable def idOf (es:List DictEntry):Option Int:=match getL (ofString "ident") es with
  | some (some (.int i _))=>some i
  | _=>none
noncomputable def gid (η:Hs) (d:Addr):Option Int:=match η.ds.find? (fun q=>q.1 == d) with
  | some q=>idOf q.2.1
  | none=>none
structure HExt (η η':Hs):Prop where
  sy:∀ x i, fsy η x = some i → fsy η' x = some i
  id:∀ d i, gid η d = some i → gid η' d = some i
  ds:∀ d es n, (d, es, n) ∈ η.ds → ∃ es' n', (d, es', n') ∈ η'.ds ∧ ∀ y, ofString "ident" ≠ y → getL y es' = getL y es
  ad:η'.ds.map (·.1) = η.ds.map (·.1)
theorem HExt.refl (η:Hs):HExt η η:=⟨fun _ _ h=>h, fun _ _ h=>h, fun d es n h=>⟨es, n, h, fun _ _=>rfl⟩, rfl⟩
theorem HExt.trans {a b c:Hs} (h:HExt a b) (k:HExt b c):HExt a c :=
  ⟨fun x i e=>k.sy x i (h.sy x i e), fun x i e=>k.id x i (h.id x i e), fun d es n e=>by
    refine byP fun _ q9=>?_
    obtain ⟨es', n', h1, h2⟩:=h.ds d es n e
    obtain ⟨es'', n'', h3, h4⟩:=k.ds d es' n' h1
    refine q9 ?_
    exact ⟨es'', n'', h3, fun y hy=>(h4 y hy).trans (h2 y hy)⟩, k.ad.trans h.ad⟩
noncomputable def HC (w:World) (mx:Mx) (c:Wc) (da:List Addr) (X:Led) (f:Addr) (dn:Nat) (args:List Value) (S:Hs → Option Int):Prop :=
  ∀ (σ:Ws) (η:Hs) (rest:Led), HI w c da σ η X → (∀ p ∈ X, p ∈ rest) → Gt (Hw c σ η) rest →
    Does w mx f dn args (Hw c σ η ++ rest) (fun r n' tl=>∃ σ' η', n' = Hw c σ' η' ++ rest ∧ HI w c da σ' η' X ∧ HExt η η' ∧ σ'.num = σ.num ∧ σ'.kvs = σ.kvs ∧ σ'.rd = σ.rd ∧ ∃ h t, r = .int h t ∧ S η' = some h)
theorem HC.le {w mx} {c:Wc} {da:List Addr} {X:Led} {f:Addr} {n k:Nat} {args:List Value} {S:Hs → Option Int} (h:HC w mx c da X f n args S) (hk:n ≤ k):HC w mx c da X f k args S:=by
  intro σ η rest hH hs hg dp un gd cn cs a ccd cl outer A₀ base h₀ L m s Q E B F X₀ N T hk' hd' hu hret
  exact h _ _ _ hH hs hg dp un gd cn cs a ccd cl outer A₀ base h₀ L m s Q E B F X₀ N T hk' (by lia) (by lia) hret
theorem hw_mem {c:Wc} {σ:Ws} {η:Hs} {p:Addr × Obj}:p ∈ Hw c σ η ↔ p ∈ Wk c σ ∨ p ∈ Hk c η:=List.mem_append
theorem hw_adr {c:Wc} {σ σ':Ws} {η η':Hs} (e:HExt η η') {p:Addr × Obj} (hp:p ∈ Hw c σ' η'):∃ o, (p.1, o) ∈ Hw c σ η:=by
  rcases hw_mem.mp hp with hp | hp
  · obtain ⟨o, ho⟩:=Wk.subA (σ':=σ') (Y:=Wk c σ) (fun q hq=>hq) p hp
    exact ⟨o, hw_mem.mpr (.inl ho)⟩
  · rcases List.mem_cons.mp hp with rfl | hp
    · exact ⟨η.so, hw_mem.mpr (.inr (.head _))⟩
    · have:p.1 ∈ η'.ds.map (·.1):=by
        obtain ⟨q, hq, rfl⟩:=List.mem_map.mp hp
        exact List.mem_map.mpr ⟨q, hq, rfl⟩
      rw [e.ad] at this
      obtain ⟨q, hq, e⟩:=List.mem_map.mp this
      exact ⟨dictOf q.2.1 q.2.2, hw_mem.mpr (.inr (.tail _ (List.mem_map.mpr ⟨q, hq, by rw [← e]⟩)))⟩
theorem Gt.hw {c:Wc} {σ σ':Ws} {η η':Hs} {l:Led} (e:HExt η η') (g:Gt (Hw c σ η) l):Gt (Hw c σ' η') l:=fun q hq p hp=>by
  obtain ⟨o, ho⟩:=hw_adr (σ:=σ) e hq
  exact g (q.1, o) ho p hp
theorem does_perm {w mx} {f:Addr} {dn:Nat} {args:List Value} {l k:Led} {R R':Value → Led → Led → Prop} (C:Does w mx f dn args k R) (e:∀ p, p ∈ k ↔ p ∈ l)
    (h:∀ r n tl, R r n tl → ∃ n', (∀ p, p ∈ n' ↔ p ∈ n) ∧ R' r n' tl):Does w mx f dn args l R':=by
  intro dp un gd cn cs a ccd cl outer A₀ base h₀ L m s Q E B F X₀ N T hk' hd' hu hret
  refine C dp un gd cn cs a ccd cl outer A₀ base h₀ L m s Q E B F X₀ (fun p hp=>N p ((e p).mp hp)) T hk' hd' hu fun r n tl h' tk' F' N' g' hR=>?_
  obtain ⟨n', e', hR'⟩:=h r n tl hR
  refine hret r n' tl h' tk' F' (fun p hp=>N' p ?_) (fun q hq p hp=>g' q ((e q).mpr hq) p hp) hR'
  rcases List.mem_append.mp hp with hp | hp
  · exact iL ((e' p).mp hp)
  · exact iR hp
theorem hc_const {w mx} {c:Wc} {da:List Addr} {X:Led} {f:Addr} {dn:Nat} {args:List Value} {i:Int} (D:∀ l, (∀ p ∈ X, p ∈ l) → Does w mx f dn args l (fun r n' tl=>(∃ t, r = .int i t) ∧ n' = l ∧ tl = [])):HC w mx c da X f dn args (fun _=>some i):=by
  intro σ η rest hH hs hg
  refine does_perm (D _ (fun p hp=>iR (hs p hp))) (fun p=>Iff.rfl) fun r n tl hR=>?_
  refine byP fun _ q9=>?_
  obtain ⟨⟨t, e1⟩, e2, e3⟩:=hR
  refine q9 ?_
  exact ⟨n, fun p=>Iff.rfl, σ, η, e2, hH, HExt.refl _, rfl, rfl, rfl, i, t, e1, rfl⟩
theorem miss_syms {kvs:List (Str × Value)} {x:Str} (hx:x ∈ syms) (h:valueAt kvs x = none) (v:Value):missS (stored kvs x v) + 1 ≤ missS kvs:=by
  refine filter_lt (fun y _ hy=>?_) ⟨x, hx, by rw [h]; rfl, by rw [valueAt_stored]; simp⟩
  rw [valueAt_stored] at hy
  split at hy
  · simp at hy
  · exact hy
theorem ident_sym {w mx} {c:Wc} {da:List Addr} {X:Led} {x:Str} {tx:Tok} (hx:x ∈ syms):HC w mx c da X 476 4 [.ref c.wa, .str x tx] (fun η=>fsy η x):=by
  intro σ η rest hH hs hg
  have en:Hw c σ η ++ rest = Wk c σ ++ ((c.sy, η.so) :: (Dk η.ds ++ rest)):=by simp [Hw, Hk]
  cases hv:valueAt η.syk x with
  | some v =>
    obtain ⟨i, t, rfl⟩:=hH.sint _ _ hv
    rw [en]
    refine does_perm (ident_symO hH.inv hH.dict hH.lo hv) (fun p=>Iff.rfl) fun r n tl hR=>?_
    obtain ⟨e1, e2, e3⟩:=hR
    exact ⟨n, fun p=>Iff.rfl, σ, η, e2.trans en.symm, hH, HExt.refl _, rfl, rfl, rfl, i, t, e1, by simp only [fsy, hv]⟩
  | none =>
    have hm:=miss_syms hx hv
    have hc:=hH.cnt
    have hn:=hH.nod
    simp only [Hk, List.map_cons, List.nodup_cons] at hn
    have hg':Gt (Wk c σ) ((c.sy, η.so) :: (Dk η.ds ++ rest)):=fun q hq p hp=>by
      have:p ∈ Hk c η ∨ p ∈ rest:=by
        rcases List.mem_cons.mp hp with rfl | hp
        · exact .inl (.head _)
        · rcases List.mem_append.mp hp with hp | hp
          · exact .inl (.tail _ hp)
          · exact .inr hp
      rcases this with hp | hp
      · exact hH.gw q hq p hp
      · exact hg q (hw_mem.mpr (.inl hq)) p hp
    have hr:∀ p ∈ Dk η.ds ++ rest, p.1 ≠ c.sy:=fun p hp=>by
      rcases List.mem_append.mp hp with hp | hp
      · intro e
        exact hn.1 (List.mem_map.mpr ⟨p, hp, e⟩)
      · exact Ne.symm (hg (c.sy, η.so) (hw_mem.mpr (.inr (.head _))) p hp)
    rw [en]
    refine does_perm (ident_symN hH.inv hH.dict hH.lo hv (by lia) hg' hr) (fun p=>Iff.rfl) fun r n tl hR=>?_
    refine byP fun _ q9=>?_
    obtain ⟨σ', so', t, e1, e2, e3, hI', i1, i2, i3, i4, hd'⟩:=hR
    refine q9 ?_
    have hsv:∀ y, valueAt (stored η.syk x (.int (σ.idn + 8) t)) y = if y = x then some (.int (σ.idn + 8) t) else valueAt η.syk y:=fun y=>valueAt_stored _ _ _ _
    refine ⟨n, fun p=>Iff.rfl, σ', { η with so:=so', syk:=stored η.syk x (.int (σ.idn + 8) t) }, by rw [e2]; simp [Hw, Hk], ?_, ⟨?_, fun _ _ h=>h, fun d es n h=>⟨es, n, h, fun _ _=>rfl⟩, rfl⟩, i2, i4, i3, _, t, e1, ?_⟩
    · have sub:∀ p ∈ Hk c { η with so:=so', syk:=stored η.syk x (.int (σ.idn + 8) t) }, ∃ o, (p.1, o) ∈ Hk c η:=fun p hp=>by
        rcases List.mem_cons.mp hp with rfl | hp
        · exact ⟨_, .head _⟩
        · exact ⟨p.2, .tail _ hp⟩
      refine ⟨hI', fun q hq p hp=>?_, hd', hH.lo, ?_, ?_, hH.ids, hH.nod, hH.ad, fun q hq p hp=>by obtain ⟨o, ho⟩:=sub q hq; exact hH.gt (q.1, o) ho p hp⟩
      · obtain ⟨o, ho⟩:=sub p hp
        exact Gt.wk (σ:=σ) hH.gw q hq (p.1, o) ho
      · intro y v hy
        dsimp only at hy
        rw [hsv] at hy
        split at hy
        · exact ⟨_, _, (Option.some.inj hy).symm⟩
        · exact hH.sint _ _ hy
      · have:=hm (.int (σ.idn + 8) t)
        have e:(stored η.syk x (.int (σ.idn + 8) t)).length = η.syk.length + 1:=by rw [stored_new hv]; simp
        show (stored η.syk x (.int (σ.idn + 8) t)).length + missS (stored η.syk x (.int (σ.idn + 8) t)) ≤ 4
        lia
    · intro y i h
      simp only [fsy] at h ⊢
      rw [hsv]
      by_cases hy:y = x
      · subst hy; rw [hv] at h; cases h
      · rw [if_neg hy]; exact h
    · simp only [fsy]
      rw [hsv, if_pos rfl]
theorem dk_split {ds:List (Addr × List DictEntry × Nat)} {d:Addr} {es:List DictEntry} {n:Nat} (h:(d, es, n) ∈ ds):∃ A B, ds = A ++ (d, es, n) :: B:=List.append_of_mem h
theorem dk_app (A B:List (Addr × List DictEntry × Nat)):Dk (A ++ B) = Dk A ++ Dk B:=by simp [Dk]
theorem gid_mem {η:Hs} {d:Addr} {es:List DictEntry} {n:Nat} {c:Wc} (hn:((Hk c η).map (·.1)).Nodup) (h:(d, es, n) ∈ η.ds):gid η d = idOf es:=by
  have key:∀ ds:List (Addr × List DictEntry × Nat), (ds.map (·.1)).Nodup → (d, es, n) ∈ ds → ds.find? (fun q=>q.1 == d) = some (d, es, n):=by
    intro ds
    induction ds with
    | nil=>intro _ h; cases h
    | cons q ds ih =>
      intro hn h
      rw [List.map_cons, List.nodup_cons] at hn
      rcases List.mem_cons.mp h with rfl | h
      · simp
      · have:q.1 ≠ d:=fun e=>hn.1 (List.mem_map.mpr ⟨_, h, e.symm⟩)
        rw [List.find?_cons]
        have e:(q.1 == d) = false:=by simpa using this
        rw [e]
        exact ih hn.2 h
  have hn':(η.ds.map (·.1)).Nodup:=by
    simp only [Hk, List.map_cons, List.nodup_cons] at hn
    have:(Dk η.ds).map (·.1) = η.ds.map (·.1):=by simp [Dk]
    rw [← this]; exact hn.2
  unfold gid
  rw [key _ hn' h]
theorem ident_thing {w mx} {c:Wc} {da:List Addr} {X:Led} {a C d:Addr} (hC:C ∈ ([40, 82, 120, 228]:List Nat)) (h1:(a, instObj C d) ∈ X) (hd:d ∈ da):HC w mx c da X 476 4 [.ref c.wa, .ref a] (fun η=>gid η d):=by
  intro σ η rest hH hs hg
  have hd':∃ es n, (d, es, n) ∈ η.ds:=by
    rw [← hH.ad] at hd
    refine byP fun _ q9=>?_
    obtain ⟨⟨d', es, n⟩, hq, e⟩:=List.mem_map.mp hd
    refine q9 ?_
    have e:d' = d:=e
    subst e
    exact ⟨es, n, hq⟩
  refine byP fun _ q9=>?_
  obtain ⟨es, n, hq⟩:=hd'
  obtain ⟨A, B, hAB⟩:=dk_split hq
  refine q9 ?_
  have hgid:=gid_mem hH.nod hq
  have hn:=hH.nod
  simp only [Hk, List.map_cons, List.nodup_cons, hAB, dk_app, List.map_append] at hn
  have perm:∀ p, p ∈ Wk c σ ++ ((d, dictOf es n) :: ((c.sy, η.so) :: (Dk A ++ (Dk B ++ rest)))) ↔ p ∈ Hw c σ η ++ rest:=fun p=>by
    simp only [Hw, Hk, hAB, dk_app]
    have:Dk ((d, es, n) :: B) = (d, dictOf es n) :: Dk B:=rfl
    rw [this]
    simp only [List.mem_append, List.mem_cons]
    constructor
    · rintro (h | h | h | h | h | h)
      · exact .inl (.inl h)
      · exact .inl (.inr (.inr (.inr (.inl h))))
      · exact .inl (.inr (.inl h))
      · exact .inl (.inr (.inr (.inl h)))
      · exact .inl (.inr (.inr (.inr (.inr h))))
      · exact .inr h
    · rintro ((h | h | h | h | h) | h)
      · exact .inl h
      · exact .inr (.inr (.inl h))
      · exact .inr (.inr (.inr (.inl h)))
      · exact .inr (.inl h)
      · exact .inr (.inr (.inr (.inr (.inl h))))
      · exact .inr (.inr (.inr (.inr (.inr h))))
  have m1:(a, instObj C d) ∈ (c.sy, η.so) :: (Dk A ++ (Dk B ++ rest)):=.tail _ (iR (iR (hs _ h1)))
  rcases hH.ids _ hq with ⟨hi, hz⟩ | ⟨i, t, hi⟩
  · -- not yet known
    have hg':Gt (Wk c σ) ((d, dictOf es n) :: ((c.sy, η.so) :: (Dk A ++ (Dk B ++ rest)))):=fun q hq p hp=>by
      have:=(perm p).mp (iR hp)
      rcases List.mem_append.mp this with h | h
      · rcases hw_mem.mp h with h | h
        · -- an entry of the world's own: cannot be
          rcases List.mem_cons.mp hp with rfl | hp
          · exact hH.gw q hq _ (.tail _ (List.mem_map.mpr ⟨_, by assumption, rfl⟩))
          · rcases List.mem_cons.mp hp with rfl | hp
            · exact hH.gw q hq _ (.head _)
            · rcases List.mem_append.mp hp with hp | hp
              · exact hH.gw q hq _ (.tail _ (by rw [hAB, dk_app]; exact iL hp))
              · rcases List.mem_append.mp hp with hp | hp
                · exact hH.gw q hq _ (.tail _ (by rw [hAB, dk_app]; exact iR (.tail _ hp)))
                · exact hg q (hw_mem.mpr (.inl hq)) p hp
        · exact hH.gw q hq p h
      · exact hg q (hw_mem.mpr (.inl hq)) p h
    have hr:∀ p ∈ (c.sy, η.so) :: (Dk A ++ (Dk B ++ rest)), p.1 ≠ d:=fun p hp=>by
      have hd1:(d:Addr) ∈ (Dk ((d, es, n) :: B)).map (·.1):=iH
      rcases List.mem_cons.mp hp with rfl | hp
      · intro e
        have e:c.sy = d:=e
        exact hn.1 (by rw [e]; exact iR hd1)
      · rcases List.mem_append.mp hp with hp | hp
        · intro e
          exact (List.nodup_append.mp hn.2).2.2 p.1 (List.mem_map.mpr ⟨p, hp, rfl⟩) d hd1 e
        · rcases List.mem_append.mp hp with hp | hp
          · intro e
            have h2:=(List.nodup_append.mp hn.2).2.1
            have:(Dk ((d, es, n) :: B)).map (·.1) = d :: (Dk B).map (·.1):=rfl
            rw [this, List.nodup_cons] at h2
            exact h2.1 (List.mem_map.mpr ⟨p, hp, e⟩)
          · exact Ne.symm (hg (d, dictOf es n) (hw_mem.mpr (.inr (.tail _ (List.mem_map.mpr ⟨_, hq, rfl⟩)))) p hp)
    refine does_perm (ident_thingN hH.inv hC m1 hi (by lia) hg' hr) perm fun r n' tl hR=>?_
    refine byP fun _ q9=>?_
    obtain ⟨σ', es', k, t, e1, e2, e3, hI', i1, i2, i3, i4, P⟩:=hR
    refine q9 ?_
    have hn':((Hk c { η with ds:=A ++ (d, es', k) :: B }).map (·.1)).Nodup:=by
      have e:(Hk c { η with ds:=A ++ (d, es', k) :: B }).map (·.1) = (Hk c η).map (·.1):=by simp [Hk, hAB, Dk]
      rw [e]; exact hH.nod
    have adr:∀ p ∈ Hk c { η with ds:=A ++ (d, es', k) :: B }, ∃ o, (p.1, o) ∈ Hk c η:=fun p hp=>by
      have e:(Hk c { η with ds:=A ++ (d, es', k) :: B }).map (·.1) = (Hk c η).map (·.1):=by simp [Hk, hAB, Dk]
      have h1:p.1 ∈ (Hk c η).map (·.1):=by rw [← e]; exact List.mem_map.mpr ⟨p, hp, rfl⟩
      obtain ⟨q, hq, e⟩:=List.mem_map.mp h1
      exact ⟨q.2, by rw [← e]; exact hq⟩
    have mem':∀ q, q ∈ η.ds → q = (d, es, n) ∨ q ∈ A ++ (d, es', k) :: B:=fun q hq=>by
      rw [hAB] at hq
      rcases List.mem_append.mp hq with h | h
      · exact .inr (iL h)
      · rcases List.mem_cons.mp h with h | h
        · exact .inl h
        · exact .inr (iR (.tail _ h))
    have new':(d, es', k) ∈ A ++ (d, es', k) :: B:=iR (.head _)
    refine ⟨Hw c σ' { η with ds:=A ++ (d, es', k) :: B } ++ rest, fun p=>?_, σ', { η with ds:=A ++ (d, es', k) :: B }, rfl, ?_, ?_, i2, i4, i3, _, t, e1, ?_⟩
    · rw [e2]
      simp only [Hw, Hk, dk_app]
      have:Dk ((d, es', k) :: B) = (d, dictOf es' k) :: Dk B:=rfl
      rw [this]
      simp only [List.mem_append, List.mem_cons]
      constructor
      · rintro ((h | h | h | h | h) | h)
        · exact .inl h
        · exact .inr (.inr (.inl h))
        · exact .inr (.inr (.inr (.inl h)))
        · exact .inr (.inl h)
        · exact .inr (.inr (.inr (.inr (.inl h))))
        · exact .inr (.inr (.inr (.inr (.inr h))))
      · rintro (h | h | h | h | h | h)
        · exact .inl (.inl h)
        · exact .inl (.inr (.inr (.inr (.inl h))))
        · exact .inl (.inr (.inl h))
        · exact .inl (.inr (.inr (.inl h)))
        · exact .inl (.inr (.inr (.inr (.inr h))))
        · exact .inr h
    · have sub:∀ p ∈ Dk (A ++ (d, es', k) :: B) ++ X, ∃ o, (p.1, o) ∈ Dk η.ds ++ X:=fun p hp=>by
        rcases List.mem_append.mp hp with hp | hp
        · have e:(Dk (A ++ (d, es', k) :: B)).map (·.1) = (Dk η.ds).map (·.1):=by simp [hAB, Dk]
          have h1:p.1 ∈ (Dk η.ds).map (·.1):=by rw [← e]; exact List.mem_map.mpr ⟨p, hp, rfl⟩
          obtain ⟨q, hq, e⟩:=List.mem_map.mp h1
          exact ⟨q.2, iL (by rw [← e]; exact hq)⟩
        · exact ⟨p.2, iR hp⟩
      refine ⟨hI'.upd (d:=d) (es:=es) (es':=es') (n:=n) (n':=k) (Y:=Dk A ++ (Dk B ++ X)) ?_ ?_ ?_ ?_ (P.other _ (by decide +kernel)) (P.other _ (by decide +kernel)) (P.other _ (by decide +kernel)) (P.other _ (by decide +kernel)) (fun y t _ h=>h.same (P.other _ (by decide +kernel))) (fun h=>⟨by rw [P.old _ hi]; exact h.1, .inr ⟨_, t, P.same⟩⟩),
        fun q hq p hp=>?_, hH.dict, hH.lo, hH.sint, hH.cnt, fun q hq=>?_, hn', ?_, fun q hq p hp=>?_⟩
      · intro p hp
        rw [hAB, dk_app] at hp
        have:Dk ((d, es, n) :: B) = (d, dictOf es n) :: Dk B:=rfl
        rw [this] at hp
        simp only [List.mem_append, List.mem_cons] at hp ⊢
        rcases hp with (h | h | h) | h
        · exact .inr (.inl h)
        · exact .inl h
        · exact .inr (.inr (.inl h))
        · exact .inr (.inr (.inr h))
      · intro p hp
        rw [dk_app]
        have:Dk ((d, es', k) :: B) = (d, dictOf es' k) :: Dk B:=rfl
        rw [this]
        simp only [List.mem_append, List.mem_cons] at hp ⊢
        rcases hp with h | h | h
        · exact .inl (.inl h)
        · exact .inl (.inr (.inr h))
        · exact .inr h
      · exact iL (List.mem_map.mpr ⟨_, new', rfl⟩)
      · intro q hq p hp
        obtain ⟨o, ho⟩:=sub p hp
        exact hI'.gt q hq (p.1, o) ho
      · obtain ⟨o, ho⟩:=adr p hp
        exact Gt.wk (σ:=σ) hH.gw q hq (p.1, o) ho
      · rcases List.mem_append.mp hq with h | h
        · exact hH.ids q (by rw [hAB]; exact iL h)
        · rcases List.mem_cons.mp h with rfl | h
          · exact .inr ⟨_, t, P.same⟩
          · exact hH.ids q (by rw [hAB]; exact iR (.tail _ h))
      · rw [← hH.ad, hAB]; simp
      · obtain ⟨o, ho⟩:=adr q hq
        exact hH.gt (q.1, o) ho p hp
    · refine ⟨fun _ _ h=>h, fun d2 i h=>?_, fun d2 es2 n2 h=>?_, by rw [hAB]; simp⟩
      · unfold gid at h
        cases hf:η.ds.find? (fun q=>q.1 == d2) with
        | none=>rw [hf] at h; cases h
        | some q =>
          rw [hf] at h
          have hq2:=List.mem_of_find?_eq_some hf
          have e2:q.1 = d2:=by simpa using List.find?_some hf
          rcases mem' q hq2 with rfl | hq3
          · simp only [idOf, hi] at h; cases h
          · obtain ⟨q1, q2, q3⟩:=q
            have e2:q1 = d2:=e2
            subst e2
            rw [gid_mem (η:={ η with ds:=A ++ (d, es', k) :: B }) hn' hq3]
            exact h
      · rcases mem' _ h with e | h2
        · simp only [Prod.mk.injEq] at e
          obtain ⟨r1, r2, r3⟩:=e
          subst r1; subst r2; subst r3
          exact ⟨es', k, new', fun y hy=>P.other y hy⟩
        · exact ⟨es2, n2, h2, fun _ _=>rfl⟩
    · show gid { η with ds:=A ++ (d, es', k) :: B } d = _
      rw [gid_mem (η:={ η with ds:=A ++ (d, es', k) :: B }) hn' new']
      simp only [idOf, P.same]
  · refine does_perm (ident_thingO hC m1 hi) perm fun r n' tl hR=>?_
    obtain ⟨e1, e2, e3⟩:=hR
    exact ⟨Hw c σ η ++ rest, fun p=>by rw [e2]; exact (perm p).symm, σ, η, rfl, hH, HExt.refl _, rfl, rfl, rfl, i, t, e1, by show gid η d = _; rw [hgid]; simp only [idOf, hi]⟩
theorem isi_none_Text {w mx} {l:Led}:Isi w mx l Value.none (ofString "Text") false:=by refine ⟨_, .inl (by k_is), rfl, fun c m n P hs h=>?_⟩; refine' Tv.leaf ?_; intro _ _ _ _ F N _ _ r; walk1; exact r _ _ _ _ F N h
theorem isi_none_ListThing {w mx} {l:Led}:Isi w mx l Value.none (ofString "ListThing") false:=by refine ⟨_, .inl (by k_is), rfl, fun c m n P hs h=>?_⟩; refine' Tv.leaf ?_; intro _ _ _ _ F N _ _ r; walk1; exact r _ _ _ _ F N h
theorem isi_none_RangeThing {w mx} {l:Led}:Isi w mx l Value.none (ofString "RangeThing") false:=by refine ⟨_, .inl (by k_is), rfl, fun c m n P hs h=>?_⟩; refine' Tv.leaf ?_; intro _ _ _ _ F N _ _ r; walk1; exact r _ _ _ _ F N h
theorem isi_bool_Text {w mx} {l:Led} {b:Bool}:Isi w mx l (.bool b) (ofString "Text") false:=by refine ⟨_, .inl (by k_is), rfl, fun c m n P hs h=>?_⟩; refine' Tv.leaf ?_; intro _ _ _ _ F N _ _ r; walk1; exact r _ _ _ _ F N h
theorem isi_bool_ListThing {w mx} {l:Led} {b:Bool}:Isi w mx l (.bool b) (ofString "ListThing") false:=by refine ⟨_, .inl (by k_is), rfl, fun c m n P hs h=>?_⟩; refine' Tv.leaf ?_; intro _ _ _ _ F N _ _ r; walk1; exact r _ _ _ _ F N h
theorem isi_bool_RangeThing {w mx} {l:Led} {b:Bool}:Isi w mx l (.bool b) (ofString "RangeThing") false:=by refine ⟨_, .inl (by k_is), rfl, fun c m n P hs h=>?_⟩; refine' Tv.leaf ?_; intro _ _ _ _ F N _ _ r; walk1; exact r _ _ _ _ F N h
theorem isi_int_Text {w mx} {l:Led} {i:Int} {t:Tok}:Isi w mx l (.int i t) (ofString "Text") false:=by refine ⟨_, .inl (by k_is), rfl, fun c m n P hs h=>?_⟩; refine' Tv.leaf ?_; intro _ _ _ _ F N _ _ r; walk1; exact r _ _ _ _ F N h
theorem isi_int_ListThing {w mx} {l:Led} {i:Int} {t:Tok}:Isi w mx l (.int i t) (ofString "ListThing") false:=by refine ⟨_, .inl (by k_is), rfl, fun c m n P hs h=>?_⟩; refine' Tv.leaf ?_; intro _ _ _ _ F N _ _ r; walk1; exact r _ _ _ _ F N h
theorem isi_int_RangeThing {w mx} {l:Led} {i:Int} {t:Tok}:Isi w mx l (.int i t) (ofString "RangeThing") false:=by refine ⟨_, .inl (by k_is), rfl, fun c m n P hs h=>?_⟩; refine' Tv.leaf ?_; intro _ _ _ _ F N _ _ r; walk1; exact r _ _ _ _ F N h
theorem isi_str_Text {w mx} {l:Led} {i:Str} {t:Tok}:Isi w mx l (.str i t) (ofString "Text") false:=by refine ⟨_, .inl (by k_is), rfl, fun c m n P hs h=>?_⟩; refine' Tv.leaf ?_; intro _ _ _ _ F N _ _ r; walk1; exact r _ _ _ _ F N h
theorem isi_str_ListThing {w mx} {l:Led} {i:Str} {t:Tok}:Isi w mx l (.str i t) (ofString "ListThing") false:=by refine ⟨_, .inl (by k_is), rfl, fun c m n P hs h=>?_⟩; refine' Tv.leaf ?_; intro _ _ _ _ F N _ _ r; walk1; exact r _ _ _ _ F N h
theorem isi_str_RangeThing {w mx} {l:Led} {i:Str} {t:Tok}:Isi w mx l (.str i t) (ofString "RangeThing") false:=by refine ⟨_, .inl (by k_is), rfl, fun c m n P hs h=>?_⟩; refine' Tv.leaf ?_; intro _ _ _ _ F N _ _ r; walk1; exact r _ _ _ _ F N h
theorem hw_m0 {c:Wc} {σ:Ws} {η:Hs}:(c.wa, instObj 681 c.wd) ∈ Hw c σ η:=hw_mem.mpr (.inl Wk.m0)
theorem hw_m1 {c:Wc} {σ:Ws} {η:Hs}:(c.wd, dictOf σ.es σ.ne) ∈ Hw c σ η:=hw_mem.mpr (.inl Wk.m1)
structure Hz (w:World) (c:Wc) (da:List Addr) (X:Led) (σ0:Ws) (η0:Hs) (rest:Led) (σ:Ws) (η:Hs) (R:Led):Prop where
  hi:HI w c da σ η X
  xs:∀ p ∈ X, p ∈ rest
  sub:∀ p ∈ rest, p ∈ R
  g:Gt (Hw c σ η) R
  ext:HExt η0 η
  num:σ.num = σ0.num
  kvs:σ.kvs = σ0.kvs
  rd:σ.rd = σ0.rd
noncomputable def Ho (w:World) (c:Wc) (da:List Addr) (X:Led) (σ0:Ws) (η0:Hs) (rest:Led) (S:Hs → Option Int):Value → Led → Prop :=
  Owes (Hw c σ0 η0 ++ rest) (fun r n' tl=>∃ σ' η', n' = Hw c σ' η' ++ rest ∧ HI w c da σ' η' X ∧ HExt η0 η' ∧ σ'.num = σ0.num ∧ σ'.kvs = σ0.kvs ∧ σ'.rd = σ0.rd ∧ ∃ h t, r = .int h t ∧ S η' = some h)
theorem Hz.owes {w:World} {c:Wc} {da:List Addr} {X:Led} {σ0:Ws} {η0:Hs} {rest:Led} {S:Hs → Option Int} {σ:Ws} {η:Hs} {R n:Led} {h:Int} {t:Tok} (Z:Hz w c da X σ0 η0 rest σ η R) (s:∀ p ∈ Hw c σ η ++ R, p ∈ n) (hS:S η = some h):Ho w c da X σ0 η0 rest S (.int h t) n :=
  ⟨Hw c σ η ++ rest, [], fun p hp=>s p (by
    rw [List.append_nil] at hp
    exact (List.mem_append.mp hp).elim (iL) fun q=>iR (Z.sub p q)), Gt.nil, σ, η, rfl, Z.hi, Z.ext, Z.num, Z.kvs, Z.rd, h, t, rfl, hS⟩
section
variable {w mx} {b:Amb w mx} {m:Fm} {n:Led} {c:Wc} {da:List Addr} {X:Led} {σ0 σ:Ws} {η0 η:Hs} {rest R:Led}
theorem hz_enter {name qual:Str} {params:Arguments} {body:List Stmt} {scope:Scope} {dV kV doc pm cdv ct oc:Value} {an od:Option Addr} {osl:Array (Option Value)} {f:Addr} {args:List Value} {binds:List (Str × Value)} {dn:Nat} {bm:Fm} {S:Hs → Option Int}
    (ho:(K9 w.params).lookup f = some ⟨oc, od, .func (fnOf name qual params body scope dV kV doc pm an cdv ct), osl⟩) (hcd:codeIn (K9 w.params) cdv qual = true)
    (hb:∀ s:Shared, (K9 w.params).In s.heap → BindsTo s (fnOf name qual params body scope dV kV doc pm an cdv ct) ⟨args, []⟩ binds)
    (hl:(binds.all fun x=>decide (scope.names.lookup x.1 = some .local)) = true) (hco:scope.isCoroutine = false) (hg:scope.isGenerator = false) (hk:scope.kind = .function) (hc:(scope.names.all fun x=>decide (x.2 ≠ .cell)) = true) (hd:0 < dn) (hbm:binds.reverse = bm)
    (h:∀ (b:Amb w mx) (m:Fm) (σ:Ws) (η:Hs) (rest:Led), m = bm → b.cp = none → b.cs = scope → b.cl = [] → b.Room dn → Hz w c da X σ η rest σ η rest → Ts b m (Hw c σ η ++ rest) body (Ho w c da X σ η rest S) fun _ n=>Ho w c da X σ η rest S .none n):HC w mx c da X f dn args S:=fun σ η rest hH hs hg' =>
  does_enter ho hcd hb hl hco hg hk hc hd hbm fun b m hm h0 h1 h2 h3=>h b m σ η rest hm h0 h1 h2 h3 ⟨hH, hs, fun _ h=>h, hg', HExt.refl _, rfl, rfl, rfl⟩
theorem Tv.hzh {heads:Led} {f:Addr} {d dn:Nat} {args:List Value} {S:Hs → Option Int} {P:Value → Led → Prop} (C:HC w mx c da X f d args S) (Z:Hz w c da X σ0 η0 rest σ η R) (hh:Gt heads (Hw c σ η ++ R)) (hr:b.Room dn)
    (h:∀ i t σ' η' tl, Hz w c da X σ0 η0 rest σ' η' (R ++ tl) → HExt η η' → Gt heads (Hw c σ' η' ++ (R ++ tl)) → S η' = some i → P (.int i t) (heads ++ (Hw c σ' η' ++ (R ++ tl)))) (hd:d < dn):Tv b m (heads ++ (Hw c σ η ++ R)) (call (.ref f) args) P:=fun Q E h₁ tk F N ret=>by
  have perm:∀ {a b c:Led}, ∀ p ∈ a ++ (b ++ c), p ∈ b ++ (a ++ c):=fun p hp=>(List.mem_append.mp hp).elim (fun h=>iR (iL h)) fun h=>(List.mem_append.mp h).elim (iL) fun h=>iR (iR h)
  refine does_use (C σ η (heads ++ R) Z.hi (fun p hp=>iR (Z.sub p (Z.xs p hp))) (Gt.app (fun q hq p hp=>Ne.symm (hh p hp q (iL hq))) Z.g)) b.B F b.X (News.of N perm) b.T b.k (hr d hd).1 (hr d hd).2 fun r n' tl h' tk' F' N' g z9=>?_
  refine byP fun _ q9=>?_
  obtain ⟨σ', η', e, hI, hE, en, ek, er, i, t, ei, hS⟩:=z9
  refine q9 ?_
  subst e
  subst ei
  have gh:Gt heads tl:=Gt.subl (fun p hp=>iR (iL hp)) g
  have gR:Gt R tl:=Gt.subl (fun p hp=>iR (iR hp)) g
  refine ret _ _ _ _ F' (News.of N' fun p hp=>?_) (h i t σ' η' tl ⟨hI, Z.xs, fun p hp=>iL (Z.sub p hp), Gt.app (Gt.hw hE Z.g) (Gt.hw hE g.l), Z.ext.trans hE, en.trans Z.num, ek.trans Z.kvs, er.trans Z.rd⟩ hE (Gt.app ((Gt.hw hE (Gt.symm fun q hq p hp=>hh q hq p (iL hp))).symm) (Gt.app (fun q hq p hp=>hh q hq p (iR hp)) gh)) hS)
  rw [List.append_assoc, List.append_assoc]
  exact perm p hp
theorem Tv.hm1 {heads A:Led} {e0 e:Expr} {es:List Expr} {vs:List Value} {f:Str} {g:Addr} {p2 p3:Pos} {P:Value → Led → Prop} {pl:Sem Bool} (h0:Ev b m (heads ++ (Hw c σ η ++ A)) e0 (.ref c.wa)) (hm:MethOk w 681 f g) (hn:getL f σ.es = some none) (hk:keepIn (K9 w.params) (.ref g) = true) (hv:Evs b m (heads ++ (Hw c σ η ++ A)) (e :: es) vs)
    (h:Tv b m (heads ++ (Hw c σ η ++ A)) (call (.ref g) (.ref c.wa :: vs)) P)
    (he:eval (Expr.Call (.Attribute e0 f p2) (e :: es) [] p3) b.env = (do let ov ← eval e0 b.env; standAt (Pos.atName p2); let x ← holding [ov] (getMethod ov f pl); match x with | (g, first)=>callWith p3 g first (backTo p3 (starEach (e :: es) b.env)) []))
    (hs:starEach (e :: es) b.env = (false, eval e b.env) :: starEach es b.env) (ha:((backTo p3 (starEach es b.env)).any fun x=>x.1) = false):Tv b m (heads ++ (Hw c σ η ++ A)) (eval (.Call (.Attribute e0 f p2) (e :: es) [] p3) b.env) P :=
  Tv.meth (h0 _ (Tv.getm (iR (iL hw_m0)) (iR (iL hw_m1)) hm hn (Tv.with1 hk (hv _ _ h) hs ha))) he
theorem wm_ident:MethOk w 681 "ident" 476:=⟨by k_is, by k_is, by k_is⟩
theorem Hz.subX (Z:Hz w c da X σ0 η0 rest σ η R):∀ p ∈ Hw c σ η ++ X, p ∈ Hw c σ η ++ R:=fun p hp=>(List.mem_append.mp hp).elim (iL) fun h=>iR (Z.sub p (Z.xs p h))
theorem Tv.ident {e0 e:Expr} {p2 p3:Pos} {v:Value} {dn:Nat} {P:Value → Led → Prop} {pl:Sem Bool} {S:Hs → Option Int} (C:HC w mx c da X 476 4 [.ref c.wa, v] S) (Z:Hz w c da X σ0 η0 rest σ η R) (hr:b.Room dn) (h0:Ev b m (Hw c σ η ++ R) e0 (.ref c.wa)) (h1:Ev b m (Hw c σ η ++ R) e v)
    (h:∀ i t σ' η' tl, Hz w c da X σ0 η0 rest σ' η' (R ++ tl) → S η' = some i → P (.int i t) (Hw c σ' η' ++ (R ++ tl))) (hd:4 < dn)
    (he:eval (Expr.Call (.Attribute e0 (ofString "ident") p2) [e] [] p3) b.env = (do let ov ← eval e0 b.env; standAt (Pos.atName p2); let x ← holding [ov] (getMethod ov (ofString "ident") pl); match x with | (g, first)=>callWith p3 g first (backTo p3 (starEach [e] b.env)) []))
    (hs:starEach [e] b.env = (false, eval e b.env) :: starEach [] b.env):Tv b m (Hw c σ η ++ R) (eval (.Call (.Attribute e0 (ofString "ident") p2) [e] [] p3) b.env) P :=
  Tv.hm1 (heads:=[]) h0 wm_ident Z.hi.inv.ok.n_ident (by k_is) (Evs.cons h1 Evs.nil hs) (Tv.hzh (heads:=[]) C Z (fun _ h=>nomatch h) hr (fun i t σ' η' tl Z' _ _ hS=>h i t σ' η' tl Z' hS) hd) he hs rfl
theorem Tv.hash {heads:Led} {y z d1:Str} {e:Expr} {v:Value} {deep:Int} {td:Tok} {k d dn:Nat} {p1 p2 p3 p4 p5 p6:Pos} {P:Value → Led → Prop} {S:Hs → Option Int} (C:∀ t, HC w mx c da X 352 d [.ref c.wa, v, .int (deep - 1) t] S) (Z:Hz w c da X σ0 η0 rest σ η R) (hh:Gt heads (Hw c σ η ++ R)) (hr:b.Room dn)
    (hf:∀ A, Ev b m A (.Name y p1) (.ref 352)) (h0:∀ A, Ev b m A (.Name z p2) (.ref c.wa)) (h1:∀ A, Ev b m A e v) (h2:∀ A, Ev b m A (.Name d1 p3) (.int deep td))
    (h:∀ i t σ' η' tl, Hz w c da X σ0 η0 rest σ' η' (R ++ tl) → HExt η η' → Gt heads (Hw c σ' η' ++ (R ++ tl)) → S η' = some i → P (.int i t) (heads ++ (Hw c σ' η' ++ (R ++ tl)))) (hd:d < dn)
    (hs:starEach [e, .BinOp (.Name d1 p3) .Sub (.Constant (.int 1) k p4) p5] b.env = (false, eval e b.env) :: starEach [.BinOp (.Name d1 p3) .Sub (.Constant (.int 1) k p4) p5] b.env) :
    Tv b m (heads ++ (Hw c σ η ++ R)) (eval (.Call (.Name y p1) [.Name z p2, e, .BinOp (.Name d1 p3) .Sub (.Constant (.int 1) k p4) p5] [] p6) b.env) P :=
  Tv.callee (hf _ _ (Tv.with1 (by k_is) (Tv.args1 (h0 _ _ (Tv.args1 (h1 _ _ (Tv.args1 (Tv.binop (h2 _ _ (Tv.cint fun t=>Tv.subi fun t=>Tv.args0 (Tv.hzh (C t) Z hh hr h hd)))) rfl)) hs)) rfl) rfl (by rw [hs]; rfl))) rfl
end
theorem Tv.intb {w mx} {b:Amb w mx} {m:Fm} {n:Led} {o:Bool} {P:Value → Led → Prop} (h:∀ t, P (.int (if o then 1 else 0) t) n):Tv b m n (call (.type "int") [.bool o]) P:=by
  intro Q E h₁ tk F N ret
  walk1
  exact ret _ _ _ _ F N (h _)
noncomputable def accH (k:Int) (Ss:Nat → Hs → Option Int):Nat → Hs → Option Int
  | 0=>fun _=>some 7
  | i + 1=>fun η=>(accH k Ss i η).bind fun f=>(Ss i η).map fun h=>31 * f + h + k
theorem accH_mono {k:Int} {Ss:Nat → Hs → Option Int} {η η':Hs}:∀ {n:Nat}, (∀ i, i < n → ∀ h, Ss i η = some h → Ss i η' = some h) → ∀ f, accH k Ss n η = some f → accH k Ss n η' = some f
  | 0, _, _, h=>h
  | n + 1, M, f, h=>by
    simp only [accH, Option.bind_eq_some_iff, Option.map_eq_some_iff] at h ⊢
    refine byP fun _ q9=>?_
    obtain ⟨f1, h1, h2, h3, h4⟩:=h
    refine q9 ?_
    exact ⟨f1, accH_mono (fun i hi=>M i (Nat.lt_succ_of_lt hi)) _ h1, h2, M n (Nat.lt_succ_self n) _ h3, h4⟩
section
variable {w mx} {c:Wc} {da:List Addr} {X:Led} {v:Value} {deep:Int} {td:Tok} {S:Hs → Option Int}
theorem hash_leaf {bL bR:Bool} (iT:∀ {σ η}, HI w c da σ η X → Isi w mx (Hw c σ η ++ X) v (ofString "Text") false) (jL:∀ {σ η}, HI w c da σ η X → Isi w mx (Hw c σ η ++ X) v (ofString "ListThing") bL) (jR:∀ {σ η}, HI w c da σ η X → Isi w mx (Hw c σ η ++ X) v (ofString "RangeThing") bR)
    (hL:bL = true → ¬ 0 < deep) (hR:bR = true → ¬ 0 < deep) (C:HC w mx c da X 476 4 [.ref c.wa, v] S):HC w mx c da X 352 6 [.ref c.wa, v, .int deep td] S:=by
  refine hz_enter (bm:=[(ofString "deep", .int deep td), (ofString "value", v), (ofString "world", .ref c.wa)]) (by k_is) (by k_is) (by first | exact fun s X=>BindsTo.of_eq rfl | exact fun s X=>binds_K X rfl (by k_is) rfl rfl rfl) (by exact rfl) (by exact rfl) (by exact rfl) (by exact rfl) (by exact rfl) (by first | decide | lia) (by exact rfl) fun b m σ η rest hm hcp hcs hcl hr Z=>?_
  have ki:Kd b (ofString "isinstance") .globalImplicit:=Kx
  refine Ts.skip (Te.isi (by exact Ev.loc hm rfl Kx rfl) (iT Z.hi) Z.subX ki Kx) (Ts.assign hm (Tv.cint fun t m1 hm1=>?_) Kx rfl)
  have ev:∀ {A p}, Ev b m1 A (.Name (ofString "value") p) v:=by exact Ev.loc hm1 rfl Kx rfl
  have ed:∀ {A p}, Ev b m1 A (.Name (ofString "deep") p) (.int deep td):=by exact Ev.loc hm1 rfl Kx rfl
  exact Ts.skip (Te.andX (Te.isi ev (jL Z.hi) Z.subX ki Kx) fun e=>Te.cmpi ed (fun t A Q E s h=>gt0 (decide_eq_false (hL e)) h) rfl) (Ts.skip (Te.andX (Te.isi ev (jR Z.hi) Z.subX ki Kx) fun e=>Te.cmpi ed (fun t A Q E s h=>gt0 (decide_eq_false (hR e)) h) rfl)
    (Ts.ret (Tv.ident C Z hr (by exact Ev.loc hm1 rfl Kx rfl) ev (fun i t σ' η' tl Z' hS=>Z'.owes (fun _ h=>h) hS) (by decide) rfl rfl)))
theorem hash_text {a:Addr} {es:List DictEntry} {x:Str} {t:Tok} (hx:x ∈ syms) (hT:Ins X a 62 es) (hxt:has "text" es (.str x t)):HC w mx c da X 352 6 [.ref c.wa, .ref a, .int deep td] (fun η=>(fsy η x).map (· + 1)):=by
  refine hz_enter (bm:=[(ofString "deep", .int deep td), (ofString "value", .ref a), (ofString "world", .ref c.wa)]) (by k_is) (by k_is) (by first | exact fun s X=>BindsTo.of_eq rfl | exact fun s X=>binds_K X rfl (by k_is) rfl rfl rfl) (by exact rfl) (by exact rfl) (by exact rfl) (by exact rfl) (by exact rfl) (by first | decide | lia) (by exact rfl) fun b m σ η rest hm hcp hcs hcl hr Z=>?_
  have ev:∀ {A p}, Ev b m A (.Name (ofString "value") p) (.ref a):=by exact Ev.loc hm rfl Kx rfl
  exact Ts.hand (Te.isi' ev hT isi_62_Text (fun p hp=>iR (Z.sub p (Z.xs p hp))) Kx Kx) (Tv.binop (Tv.ident (ident_sym hx) Z hr (by exact Ev.loc hm rfl Kx rfl) (Ev.field ev (hT.mono fun p hp=>iR (Z.sub p (Z.xs p hp))) f_text hxt rfl) (fun i t σ' η' tl Z' hS=>Tv.cint fun t=>Tv.addi fun t=>Z'.owes (fun _ h=>h) (by rw [hS]; rfl)) (by decide) rfl rfl))
noncomputable def HJ (w:World) (c:Wc) (da:List Addr) (X:Led) (σ0:Ws) (η0:Hs) (rest:Led) (a:Addr) (deep:Int) (td:Tok) (F:Nat → Hs → Option Int) (keep:Led) (i:Nat) (m:Fm) (n:Led):Prop :=
  ∃ σ η R, (∀ p ∈ Hw c σ η ++ R, p ∈ n) ∧ Hz w c da X σ0 η0 rest σ η R ∧ (∃ f t, m.lookup (ofString "found") = some (.int f t) ∧ F i η = some f) ∧ m.lookup (ofString "world") = some (.ref c.wa) ∧ m.lookup (ofString "deep") = some (.int deep td) ∧ m.lookup (ofString "value") = some (.ref a) ∧ ∀ p ∈ keep, p ∈ R
theorem hash_turn {b:Amb w mx} {m:Fm} {R:Value → Led → Prop} {x:Str} {a:Addr} {σ0:Ws} {η0:Hs} {rest n heads keep:Led} {k:Int} {Ss:Nat → Hs → Option Int} {i len dn dm:Nat} {p1 p2 p3 p4 p5 p6 p7 p8 p9 q1 q2 q3 q4 q5 q6:Pos} {k1 k2 k3:Nat} (hr:b.Room dm) (hd:dn < dm) (hi:i < len)
    (hj:HJ w c da X σ0 η0 rest a deep td (accH k Ss) keep i m n) (off:∀ q ∈ heads, ∀ p ∈ n, (p.1:Nat) ≠ q.1) (IH:∀ t, HC w mx c da X 352 dn [.ref c.wa, v, .int (deep - 1) t] (Ss i)) (M:∀ {η η':Hs}, HExt η η' → ∀ j, j < len → ∀ h, Ss j η = some h → Ss j η' = some h)
    (kf:Kd b (ofString "found") .local) (kw:Kd b (ofString "world") .local) (kx:Kd b x .local) (kd:Kd b (ofString "deep") .local) (kh:Kd b (ofString "hash_of") .globalImplicit) (hx:(x == ("__debug__":Str)) = false) (hne:(ofString "found" == x) = false ∧ (ofString "world" == x) = false ∧ (ofString "deep" == x) = false ∧ (ofString "value" == x) = false) (hs:swapsWith (.BinOp (.BinOp (.BinOp (.Constant (.int 31) k1 p1) .Mult (.Name (ofString "found") p2) p3) .Add (.Call (.Name (ofString "hash_of") p4) [.Name (ofString "world") p5, .Name x p6, .BinOp (.Name (ofString "deep") p7) .Sub (.Constant (.int 1) k2 p8) p9] [] q1) q2) .Add (.Constant (.int k) k3 q3) q4) (some (.Name (ofString "found") q5)) q6.line b.env = pure false) :
    Ts b ((x, v) :: m) (heads ++ n) [.Assign [.Name (ofString "found") q5] (.BinOp (.BinOp (.BinOp (.Constant (.int 31) k1 p1) .Mult (.Name (ofString "found") p2) p3) .Add (.Call (.Name (ofString "hash_of") p4) [.Name (ofString "world") p5, .Name x p6, .BinOp (.Name (ofString "deep") p7) .Sub (.Constant (.int 1) k2 p8) p9] [] q1) q2) .Add (.Constant (.int k) k3 q3) q4) q6] R (Tn heads (HJ w c da X σ0 η0 rest a deep td (accH k Ss) keep (i + 1))):=by
  refine byP fun _ q9=>?_
  obtain ⟨σ, η, R', sn, Z, ⟨f, t, l1, hF⟩, l2, l3, l4, hk⟩:=hj
  refine q9 ?_
  refine Ts.re (k:=heads ++ (Hw c σ η ++ R')) (fun p hp=>(List.mem_append.mp hp).elim (iL) fun h=>iR (sn p h)) ?_
  have g1:((x, v) :: m).lookup (ofString "found") = some (.int f t):=by rw [List.lookup_cons, hne.1]; exact l1
  have g2:((x, v) :: m).lookup (ofString "world") = some (.ref c.wa):=by rw [List.lookup_cons, hne.2.1]; exact l2
  have g3:((x, v) :: m).lookup (ofString "deep") = some (.int deep td):=by rw [List.lookup_cons, hne.2.2.1]; exact l3
  have g4:((x, v) :: m).lookup (ofString "value") = some (.ref a):=by rw [List.lookup_cons, hne.2.2.2]; exact l4
  have g5:((x, v) :: m).lookup x = some v:=by simp
  refine Ts.assign rfl (Tv.binop (Tv.binop (Tv.binop (Tv.cint fun t1=>Ev.name g1 kf rfl _ (Tv.muli (PySem.IntMulOk.of_left (PySem.intBits_le_64 (by decide) (by decide))) fun t2=>Tv.hash IH Z (fun q hq p hp=>Ne.symm (off q hq p (sn p hp))) hr (fun A=>Ev.glob (by k_is) kh rfl) (fun A=>Ev.name g2 kw rfl) (fun A=>Ev.name g5 kx hx) (fun A=>Ev.name g3 kd rfl) (fun h t3 σ' η' tl Z' E' g hS=>Tv.addi fun t4=>Tv.cint fun t5=>Tv.addi fun t6 m' hm'=>Ts.nil ?_) hd rfl))))) kf hs
  subst hm'
  exact ⟨_, fun _ h=>h, fun q hq p hp=>Ne.symm (g q hq p hp), σ', η', _, fun _ h=>h, Z', ⟨_, t6, rfl, by simp only [accH, accH_mono (fun j hj=>M E' j (Nat.lt_trans hj hi)) f hF, hS]; rfl⟩, g2, g3, g4, fun p hp=>iL (hk p hp)⟩
theorem hash_list {a bb:Addr} {es:List DictEntry} {nb dn:Nat} {vs:List Value} {Ss:Nat → Hs → Option Int} (IH:∀ i v, vs[i]? = some v → ∀ t, HC w mx c da X 352 dn [.ref c.wa, v, .int (deep - 1) t] (Ss i)) (M:∀ {η η':Hs}, HExt η η' → ∀ j, j < vs.length → ∀ h, Ss j η = some h → Ss j η' = some h)
    (hT:Ins X a 82 es) (hi:has "items" es (.ref bb)) (hb:(bb, listOf vs.toArray nb) ∈ X) (hpos:0 < deep):HC w mx c da X 352 (dn + 6) [.ref c.wa, .ref a, .int deep td] (accH 1 Ss vs.length):=by
  refine hz_enter (bm:=[(ofString "deep", .int deep td), (ofString "value", .ref a), (ofString "world", .ref c.wa)]) (by k_is) (by k_is) (by first | exact fun s X=>BindsTo.of_eq rfl | exact fun s X=>binds_K X rfl (by k_is) rfl rfl rfl) (by exact rfl) (by exact rfl) (by exact rfl) (by exact rfl) (by exact rfl) (by first | decide | lia) (by exact rfl) fun b m σ η rest hm hcp hcs hcl hr Z=>?_
  have ki:Kd b (ofString "isinstance") .globalImplicit:=Kx
  have sx:∀ {R:Led}, (∀ p ∈ rest, p ∈ R) → ∀ p ∈ X, p ∈ Hw c σ η ++ R:=fun h p hp=>iR (h p (Z.xs p hp))
  refine Ts.skip (Te.isi' (by exact Ev.loc hm rfl Kx rfl) hT isi_82_Text (sx Z.sub) ki Kx) (Ts.assign hm (Tv.cint fun t m1 hm1=>?_) Kx rfl)
  have ev:∀ {A p}, Ev b m1 A (.Name (ofString "value") p) (.ref a):=by exact Ev.loc hm1 rfl Kx rfl
  refine Ts.ift (Te.and2 (Te.isi' ev hT isi_82_ListThing (sx Z.sub) ki Kx) (Te.cmpi (by exact Ev.loc hm1 rfl Kx rfl) (fun t A Q E s h=>gt0 (decide_eq_true hpos) h) rfl)) ?_
  refine Ts.forL (ax:=bb) (lo:=listOf vs.toArray nb) (xs:=vs) (HJ w c da X σ η rest a deep td (accH 1 Ss) []) hcp (Ev.field ev (hT.mono (sx Z.sub)) f_items hi rfl _ ⟨rfl, σ, η, rest, fun _ h=>h, Z, ⟨7, t, by rw [hm1]; rfl, rfl⟩, by rw [hm1]; rfl, by rw [hm1]; rfl, by rw [hm1]; rfl, fun _ h=>nomatch h⟩) rfl rfl ?hJ ?step ?fin (fun v=>rfl)
  case hJ =>
    intro i m n z9
    refine byP fun _ q9=>?_
    obtain ⟨σ', η', R', sn, Z', _⟩:=z9
    refine q9 ?_
    exact sn _ (iR (Z'.sub _ (Z'.xs _ hb)))
  case step =>
    intro i v m n heads hv hj off
    exact Ta.name Kx (hash_turn hr (by lia) (List.getElem?_eq_some_iff.mp hv).1 hj off (IH i v hv) M Kx Kx Kx Kx Kx rfl ⟨rfl, rfl, rfl, rfl⟩ rfl)
  case fin =>
    intro m n z9
    refine byP fun _ q9=>?_
    obtain ⟨σ', η', R', sn, Z', ⟨f, t, l1, hF⟩, _⟩:=z9
    refine q9 ?_
    exact Ts.ret (Ev.name l1 Kx rfl _ (Z'.owes sn hF))
theorem hash_range {a:Addr} {es:List DictEntry} {v1 v2:Value} {S1 S2:Hs → Option Int} {o:Bool} {dn:Nat} (I1:∀ t, HC w mx c da X 352 dn [.ref c.wa, v1, .int (deep - 1) t] S1) (I2:∀ t, HC w mx c da X 352 dn [.ref c.wa, v2, .int (deep - 1) t] S2) (M1:∀ {η η':Hs}, HExt η η' → ∀ h, S1 η = some h → S1 η' = some h) (M2:∀ {η η':Hs}, HExt η η' → ∀ h, S2 η = some h → S2 η' = some h)
    (hT:Ins X a 140 es) (hf:has "first" es v1) (hl:has "last" es v2) (ho:has "open" es (.bool o)) (k1:handedIn v1 = true) (k2:handedIn v2 = true) (hpos:0 < deep):HC w mx c da X 352 (dn + 6) [.ref c.wa, .ref a, .int deep td] (fun η=>(accH 2 (fun i=>if i = 0 then S1 else S2) 2 η).map fun h=>h + if o then 1 else 0):=by
  refine hz_enter (bm:=[(ofString "deep", .int deep td), (ofString "value", .ref a), (ofString "world", .ref c.wa)]) (by k_is) (by k_is) (by first | exact fun s X=>BindsTo.of_eq rfl | exact fun s X=>binds_K X rfl (by k_is) rfl rfl rfl) (by exact rfl) (by exact rfl) (by exact rfl) (by exact rfl) (by exact rfl) (by first | decide | lia) (by exact rfl) fun b m σ η rest hm hcp hcs hcl hr Z=>?_
  have ki:Kd b (ofString "isinstance") .globalImplicit:=Kx
  have sx:∀ {σ:Ws} {η:Hs} {R:Led}, (∀ p ∈ rest, p ∈ R) → ∀ p ∈ X, p ∈ Hw c σ η ++ R:=fun h p hp=>iR (h p (Z.xs p hp))
  refine Ts.skip (Te.isi' (by exact Ev.loc hm rfl Kx rfl) hT isi_140_Text (sx Z.sub) ki Kx) (Ts.assign hm (Tv.cint fun t m1 hm1=>?_) Kx rfl)
  have ev:∀ {A p}, Ev b m1 A (.Name (ofString "value") p) (.ref a):=by exact Ev.loc hm1 rfl Kx rfl
  refine Ts.skip (Te.andF (Te.isi' ev hT isi_140_ListThing (sx Z.sub) ki Kx)) (Ts.ift (Te.and2 (Te.isi' ev hT isi_140_RangeThing (sx Z.sub) ki Kx) (Te.cmpi (by exact Ev.loc hm1 rfl Kx rfl) (fun t A Q E s h=>gt0 (decide_eq_true hpos) h) rfl)) ?_)
  refine Ts.forT hcp (Tv.tup2 (Ev.field ev (hT.mono (sx Z.sub)) f_first hf k1) (Ev.field ev (hT.mono (sx Z.sub)) f_last hl k2) rfl rfl fun D hD=>?_) (fun v=>rfl)
  have M:∀ {η η':Hs}, HExt η η' → ∀ j, j < 2 → ∀ h, (fun i=>if i = 0 then S1 else S2) j η = some h → (fun i=>if i = 0 then S1 else S2) j η' = some h:=fun {η η'} e j _ h k=>by
    by_cases h0:j = 0
    · subst h0; exact M1 e h k
    · simp only [if_neg h0] at k ⊢; exact M2 e h k
  have Z2:Hz w c da X σ η rest σ η ((D, { cls:=.type "tuple", data:=.seq [v1, v2].toArray }) :: rest):={ Z with sub:=fun p hp=>iC hp, g:=Gt.cons (fun q hq=>Nat.ne_of_lt (hD q (iL hq))) Z.g }
  refine ⟨D, [v1, v2], HJ w c da X σ η rest a deep td (accH 2 (fun i=>if i = 0 then S1 else S2)) [(D, { cls:=.type "tuple", data:=.seq [v1, v2].toArray })], rfl, ⟨σ, η, _, own_turn (h:=[]), Z2, ⟨7, t, by rw [hm1]; rfl, rfl⟩, by rw [hm1]; rfl, by rw [hm1]; rfl, by rw [hm1]; rfl, fun p hp=>by rw [List.mem_singleton.mp hp]; exact iH⟩, ?_, ?_, ?_⟩
  · intro i m n z9
    refine byP fun _ q9=>?_
    obtain ⟨σ', η', R', sn, Z', _, _, _, _, hk⟩:=z9
    refine q9 ?_
    exact sn _ (iR (hk _ iH))
  · intro i v m n heads hv hj off
    have hi:i < 2:=(List.getElem?_eq_some_iff.mp hv).1
    refine Ta.name Kx (hash_turn (dn:=dn) hr (by lia) hi hj off ?_ M Kx Kx Kx Kx Kx rfl ⟨rfl, rfl, rfl, rfl⟩ rfl)
    rcases i with _ | _ | i
    · cases hv; exact I1
    · cases hv; exact I2
    · lia
  · intro m n z9
    refine byP fun _ q9=>?_
    obtain ⟨σ', η', R', sn, Z', ⟨f, t, l1, hF⟩, l2, l3, l4, _⟩:=z9
    refine q9 ?_
    have es':=fun p hp=>sn p (List.mem_append_right (Hw c σ' η') (Z'.sub p (Z'.xs p hp)))
    refine Ts.ret (Tv.binop (Ev.name l1 Kx rfl _ (Tv.callee (Tv.blt (show nsIn (K9 w.params) mainGlobals (ofString "int") = some none by k_is) (by k_dflt boot_fast) (by decide) (Tv.witht (Tv.args1 (Ev.field (Ev.name l4 Kx rfl) (hT.mono es') f_open ho rfl _ (Tv.args0 ?_)) rfl) rfl rfl) Kx rfl) rfl)))
    exact Tv.intb fun t2=>Tv.addi fun t3=>Z'.owes sn (by have e:accH 2 _ 2 η' = some f:=hF; rw [e]; rfl)
end
theorem HC.imp {w mx} {c:Wc} {da:List Addr} {X:Led} {f:Addr} {n k:Nat} {args:List Value} {S S':Hs → Option Int} (h:HC w mx c da X f n args S) (hk:n ≤ k) (hS:∀ η, S η = S' η):HC w mx c da X f k args S':=by
  have e:S = S':=funext hS
  exact e ▸ h.le hk
section
variable {w mx} {c:Wc} {da:List Addr} {X:Led} {deep:Int} {td:Tok}
theorem hash_int {i:Int} {t:Tok}:HC w mx c da X 352 6 [.ref c.wa, .int i t, .int deep td] (fun _=>some (2 * i + 1)):=hash_leaf (fun _=>isi_int_Text) (fun _=>isi_int_ListThing) (fun _=>isi_int_RangeThing) nofun nofun (hc_const fun l _=>ident_int)
theorem hash_none:HC w mx c da X 352 6 [.ref c.wa, .none, .int deep td] (fun _=>some 8):=hash_leaf (fun _=>isi_none_Text) (fun _=>isi_none_ListThing) (fun _=>isi_none_RangeThing) nofun nofun (hc_const fun l _=>ident_none)
theorem hash_true:HC w mx c da X 352 6 [.ref c.wa, .bool true, .int deep td] (fun _=>some 20):=hash_leaf (fun _=>isi_bool_Text) (fun _=>isi_bool_ListThing) (fun _=>isi_bool_RangeThing) nofun nofun (hc_const fun l _=>ident_true)
theorem hash_false:HC w mx c da X 352 6 [.ref c.wa, .bool false, .int deep td] (fun _=>some 0):=hash_leaf (fun _=>isi_bool_Text) (fun _=>isi_bool_ListThing) (fun _=>isi_bool_RangeThing) nofun nofun (hc_const fun l _=>ident_false)
theorem hash_sym {x:Str} {t:Tok} (hx:x ∈ syms):HC w mx c da X 352 6 [.ref c.wa, .str x t, .int deep td] (fun η=>fsy η x):=hash_leaf (fun _=>isi_str_Text) (fun _=>isi_str_ListThing) (fun _=>isi_str_RangeThing) nofun nofun (ident_sym hx)
theorem HI.at {σ:Ws} {η:Hs} {a d C:Addr} (hH:HI w c da σ η X) (m1:(a, instObj C d) ∈ X) (hd:d ∈ da):∃ es n, (a, instObj C d) ∈ Hw c σ η ++ X ∧ (d, dictOf es n) ∈ Hw c σ η ++ X:=by
  rw [← hH.ad] at hd
  refine byP fun _ q9=>?_
  obtain ⟨⟨d', es, n⟩, hq, e⟩:=List.mem_map.mp hd
  refine q9 ?_
  have e:d' = d:=e
  subst e
  exact ⟨es, n, iR m1, iL (hw_mem.mpr (.inr (.tail _ (List.mem_map.mpr ⟨_, hq, rfl⟩))))⟩
theorem HI.isi {σ:Ws} {η:Hs} {a d C:Addr} {x:Str} {r:Bool} (m1:(a, instObj C d) ∈ X) (hd:d ∈ da) (h:∀ {l:Led} {es:List DictEntry} {n:Nat}, (a, instObj C d) ∈ l → (d, dictOf es n) ∈ l → Isi w mx l (.ref a) x r) (hH:HI w c da σ η X):Isi w mx (Hw c σ η ++ X) (.ref a) x r:=by
  refine byP fun _ q9=>?_
  obtain ⟨es, n, h1, h2⟩:=hH.at m1 hd
  refine q9 ?_
  exact h h1 h2
theorem hash_thing40 {a d:Addr} (m1:(a, instObj 40 d) ∈ X) (hd:d ∈ da):HC w mx c da X 352 6 [.ref c.wa, .ref a, .int deep td] (fun η=>gid η d) :=
  hash_leaf (HI.isi m1 hd isi_40_Text) (HI.isi m1 hd isi_40_ListThing) (HI.isi m1 hd isi_40_RangeThing) nofun nofun (ident_thing (by decide) m1 hd)
theorem hash_thing120 {a d:Addr} (m1:(a, instObj 120 d) ∈ X) (hd:d ∈ da):HC w mx c da X 352 6 [.ref c.wa, .ref a, .int deep td] (fun η=>gid η d) :=
  hash_leaf (HI.isi m1 hd isi_120_Text) (HI.isi m1 hd isi_120_ListThing) (HI.isi m1 hd isi_120_RangeThing) nofun nofun (ident_thing (by decide) m1 hd)
theorem hash_thing228 {a d:Addr} (m1:(a, instObj 228 d) ∈ X) (hd:d ∈ da):HC w mx c da X 352 6 [.ref c.wa, .ref a, .int deep td] (fun η=>gid η d) :=
  hash_leaf (HI.isi m1 hd isi_228_Text) (HI.isi m1 hd isi_228_ListThing) (HI.isi m1 hd isi_228_RangeThing) nofun nofun (ident_thing (by decide) m1 hd)
theorem hash_deep0 {a d:Addr} (m1:(a, instObj 82 d) ∈ X) (hd:d ∈ da):HC w mx c da X 352 6 [.ref c.wa, .ref a, .int 0 td] (fun η=>gid η d) :=
  hash_leaf (HI.isi m1 hd isi_82_Text) (HI.isi m1 hd isi_82_ListThing) (HI.isi m1 hd isi_82_RangeThing) (fun _=>Int.lt_irrefl 0) nofun (ident_thing (by decide) m1 hd)
theorem hash_l0 {a b:Addr} {es:List DictEntry} {nb dn:Nat} (hT:Ins X a 82 es) (hi:has "items" es (.ref b)) (hb:(b, listOf [].toArray nb) ∈ X) (hpos:0 < deep):HC w mx c da X 352 (dn + 6) [.ref c.wa, .ref a, .int deep td] (fun _=>some 7) :=
  hash_list (vs:=[]) (Ss:=fun _ _=>none) (fun i v h=>by simp at h) (fun _ j h=>absurd h (Nat.not_lt_zero j)) hT hi hb hpos
theorem hash_l1 {a b:Addr} {es:List DictEntry} {nb dn:Nat} {v0:Value} {S0:Hs → Option Int} (IH0:∀ t, HC w mx c da X 352 dn [.ref c.wa, v0, .int (deep - 1) t] S0) (M0:∀ {η η':Hs}, HExt η η' → ∀ h, S0 η = some h → S0 η' = some h) (hT:Ins X a 82 es) (hi:has "items" es (.ref b)) (hb:(b, listOf [v0].toArray nb) ∈ X) (hpos:0 < deep):HC w mx c da X 352 (dn + 6) [.ref c.wa, .ref a, .int deep td] (fun η=>(S0 η).map fun h=>31 * 7 + h + 1) :=
  (hash_list (vs:=[v0]) (Ss:=fun _=>S0) (fun i v h t=>by
    cases i with
    | zero=>cases h; exact IH0 t
    | succ i=>simp at h) (fun e j _=>M0 e) hT hi hb hpos).imp (Nat.le_refl _) fun η=>rfl
theorem hash_l2 {a b:Addr} {es:List DictEntry} {nb dn:Nat} {v0 v1:Value} {S0 S1:Hs → Option Int} (IH0:∀ t, HC w mx c da X 352 dn [.ref c.wa, v0, .int (deep - 1) t] S0) (IH1:∀ t, HC w mx c da X 352 dn [.ref c.wa, v1, .int (deep - 1) t] S1) (M0:∀ {η η':Hs}, HExt η η' → ∀ h, S0 η = some h → S0 η' = some h) (M1:∀ {η η':Hs}, HExt η η' → ∀ h, S1 η = some h → S1 η' = some h) (hT:Ins X a 82 es) (hi:has "items" es (.ref b)) (hb:(b, listOf [v0, v1].toArray nb) ∈ X) (hpos:0 < deep):HC w mx c da X 352 (dn + 6) [.ref c.wa, .ref a, .int deep td] (fun η=>(S0 η).bind fun h=>(S1 η).map fun k=>31 * (31 * 7 + h + 1) + k + 1) :=
  (hash_list (vs:=[v0, v1]) (Ss:=fun i=>if i = 0 then S0 else S1) (fun i v h t=>by
    rcases i with _ | _ | i
    · cases h; exact IH0 t
    · cases h; exact IH1 t
    · simp at h) (fun {η η'} e j _ h k=>by
    by_cases h0:j = 0
    · subst h0; exact M0 e h k
    · simp only [if_neg h0] at k ⊢; exact M1 e h k) hT hi hb hpos).imp (Nat.le_refl _) fun η=>by
    show ((some 7).bind fun f=>(S0 η).map fun h=>31 * f + h + 1).bind _ = _
    cases S0 η <;> rfl
theorem hash_rangeN {a:Addr} {es:List DictEntry} {x:Int} {tx:Tok} {o:Bool} (hT:Ins X a 140 es) (hf:has "first" es (.int x tx)) (hl:has "last" es (.none)) (ho:has "open" es (.bool o)) (hpos:0 < deep):HC w mx c da X 352 12 [.ref c.wa, .ref a, .int deep td] (fun _=>some (31 * (31 * 7 + (2 * x + 1) + 2) + 8 + 2 + (if o then 1 else 0))) :=
  (hash_range (fun _=>hash_int) (fun _=>hash_none) (fun _ _ h=>h) (fun _ _ h=>h) hT hf hl ho rfl rfl hpos).imp (Nat.le_refl _) fun η=>rfl
theorem hash_rangeS {a:Addr} {es:List DictEntry} {x:Int} {tx:Tok} {y:Int} {ty:Tok} {o:Bool} (hT:Ins X a 140 es) (hf:has "first" es (.int x tx)) (hl:has "last" es (.int y ty)) (ho:has "open" es (.bool o)) (hpos:0 < deep):HC w mx c da X 352 12 [.ref c.wa, .ref a, .int deep td] (fun _=>some (31 * (31 * 7 + (2 * x + 1) + 2) + (2 * y + 1) + 2 + (if o then 1 else 0))) :=
  (hash_range (fun _=>hash_int) (fun _=>hash_int) (fun _ _ h=>h) (fun _ _ h=>h) hT hf hl ho rfl rfl hpos).imp (Nat.le_refl _) fun η=>rfl
theorem object_hash {v:Value} {la:Addr} {dn:Nat} {S:Hs → Option Int} (C:HC w mx c da X 352 dn [.ref c.wa, v, .int 12 258] S):HC w mx c da X 359 (dn + 2) [.ref c.wa, v, .ref la] S:=by
  refine hz_enter (bm:=[(ofString "args", .ref la), (ofString "self", v), (ofString "world", .ref c.wa)]) (by k_is) (by k_is) (by first | exact fun s X=>BindsTo.of_eq rfl | exact fun s X=>binds_K X rfl (by k_is) rfl rfl rfl) (by exact rfl) (by exact rfl) (by exact rfl) (by exact rfl) (by exact rfl) (by first | decide | lia) (by exact rfl) fun b m σ η rest hm hcp hcs hcl hr Z=>?_
  refine Ts.ret (Tv.callee ((show ∀ p, Ev b m _ (.Name (ofString "hash_of") p) (.ref 352) from fun p=>by exact Ev.glob (by k_is) Kx rfl) _ _ (Tv.with1 (by k_is) (Evs.cons (by exact Ev.loc hm rfl Kx rfl) (Evs.cons (by exact Ev.loc hm rfl Kx rfl) (Evs.cons (by exact Ev.glob (by k_is) Kx rfl) Evs.nil rfl) rfl) rfl _ _ (Tv.hzh (heads:=[]) C Z (fun _ h=>nomatch h) hr (fun i t σ' η' tl Z' _ _ hS=>Z'.owes (fun _ h=>h) hS) (by lia))) rfl rfl)) rfl)
end
noncomputable def PV.HOk:PV → Prop
  | .sym s=>s ∈ syms
  | _=>True
noncomputable def Pl.HOk:Pl → Prop
  | .plain v=>v.HOk
  | .text s=>s ∈ syms
  | .thing i=>0 ≤ i ∧ i < 3
  | .l1 p=>p.HOk
  | .l2 p q=>p.HOk ∧ q.HOk
  | _=>True
theorem le12 {x:Nat}:6 ≤ 6 * x + 12:=Nat.le_trans (by decide) (Nat.le_add_left 12 _)
theorem Pl.Ok.h:∀ {p:Pl}, p.Ok → p.HOk
  | .plain v, h=>by
    cases v with
    | sym s=>rcases h with rfl | rfl <;> (show _ ∈ syms; decide +kernel)
    | _=>trivial
  | .text s, h=>by rcases h with rfl | rfl | rfl <;> (show _ ∈ syms; decide +kernel)
  | .thing i, h=>h
  | .l0, _=>trivial
  | .l1 p, h=>Pl.Ok.h (p:=p) h
  | .l2 p q, h=>⟨Pl.Ok.h (p:=p) h.1, Pl.Ok.h (p:=q) h.2⟩
  | .range _ _ _, _=>trivial
noncomputable def hS (δ:Int → Addr):Pl → Hs → Option Int
  | .plain (.int i)=>fun _=>some (2 * i + 1)
  | .plain .none=>fun _=>some 8
  | .plain (.bool b)=>fun _=>some (if b then 20 else 0)
  | .plain (.sym x)=>fun η=>fsy η x
  | .text x=>fun η=>(fsy η x).map (· + 1)
  | .thing i=>fun η=>gid η (δ i)
  | .l0=>fun _=>some 7
  | .l1 p=>fun η=>(hS δ p η).map fun h=>31 * 7 + h + 1
  | .l2 p q=>fun η=>(hS δ p η).bind fun h=>(hS δ q η).map fun k=>31 * (31 * 7 + h + 1) + k + 1
  | .range x none o=>fun _=>some (31 * (31 * 7 + (2 * x + 1) + 2) + 8 + 2 + (if o then 1 else 0))
  | .range x (some y) o=>fun _=>some (31 * (31 * 7 + (2 * x + 1) + 2) + (2 * y + 1) + 2 + (if o then 1 else 0))
theorem hS_mono {δ:Int → Addr} {η η':Hs} (e:HExt η η'):∀ (p:Pl) (h:Int), hS δ p η = some h → hS δ p η' = some h:=by
  intro p
  induction p with
  | plain v=>cases v with
    | sym x=>exact fun h=>e.sy x h
    | _=>exact fun h k=>k
  | text x =>
    intro h k
    simp only [hS, Option.map_eq_some_iff] at k ⊢
    obtain ⟨i, h1, h2⟩:=k
    exact ⟨i, e.sy x i h1, h2⟩
  | thing i=>exact fun h=>e.id _ h
  | l0=>exact fun h k=>k
  | l1 p ih =>
    intro h k
    simp only [hS, Option.map_eq_some_iff] at k ⊢
    obtain ⟨i, h1, h2⟩:=k
    exact ⟨i, ih i h1, h2⟩
  | l2 p q ih ih' =>
    intro h k
    simp only [hS, Option.bind_eq_some_iff, Option.map_eq_some_iff] at k ⊢
    refine byP fun _ q9=>?_
    obtain ⟨i, h1, j, h2, h3⟩:=k
    refine q9 ?_
    exact ⟨i, ih i h1, j, ih' j h2, h3⟩
  | range x y o=>cases y <;> exact fun h k=>k
structure ThX (th:Th) (δ:Int → Addr) (da:List Addr) (X:Led):Prop where
  m0:(th.a0, instObj 40 (δ 0)) ∈ X
  m1:(th.a1, instObj 120 (δ 1)) ∈ X
  m2:(th.a2, instObj 228 (δ 2)) ∈ X
  d0:δ 0 ∈ da
  d1:δ 1 ∈ da
  d2:δ 2 ∈ da
theorem hash_ok {w mx} {c:Wc} {da:List Addr} {X:Led} {th:Th} {δ:Int → Addr} (hX:ThX th δ da X):∀ (p:Pl) {v:Value} {deep:Int} {td:Tok}, VIn th X v p → p.HOk → (p.dep:Int) ≤ deep → HC w mx c da X 352 (6 * p.dep + 12) [.ref c.wa, v, .int deep td] (hS δ p):=by
  intro p
  induction p with
  | plain pv =>
    intro v deep td hv ok hd
    cases hv with
    | plain h =>
      cases pv with
      | int i=>cases h; exact HC.le (n:=6) (show HC w mx c da X 352 (6) _ _ from hash_int) le12
      | none=>cases h; exact HC.le (n:=6) (show HC w mx c da X 352 (6) _ _ from hash_none) le12
      | bool b =>
        cases h
        cases b
        · exact HC.le (n:=6) (show HC w mx c da X 352 (6) _ _ from hash_false) le12
        · exact HC.le (n:=6) (show HC w mx c da X 352 (6) _ _ from hash_true) le12
      | sym x=>cases h; exact HC.le (n:=6) (show HC w mx c da X 352 (6) _ _ from hash_sym ok) le12
  | text x =>
    intro v deep td hv ok hd
    cases hv with
    | text h1 h2=>exact HC.le (n:=6) (show HC w mx c da X 352 (6) _ _ from hash_text ok h1 h2) le12
  | thing i =>
    intro v deep td hv ok hd
    cases hv with
    | thing h1 h2 =>
      have hi:i = 0 ∨ i = 1 ∨ i = 2:=by lia
      rcases hi with rfl | rfl | rfl
      · exact HC.le (n:=6) (show HC w mx c da X 352 (6) _ _ from hash_thing40 hX.m0 hX.d0) le12
      · exact HC.le (n:=6) (show HC w mx c da X 352 (6) _ _ from hash_thing120 hX.m1 hX.d1) le12
      · exact HC.le (n:=6) (show HC w mx c da X 352 (6) _ _ from hash_thing228 hX.m2 hX.d2) le12
  | l0 =>
    intro v deep td hv ok hd
    have hd:((1:Nat):Int) ≤ deep:=hd
    cases hv with
    | l0 h1 h2 h3=>exact HC.le (n:=6 + 6) (show HC w mx c da X 352 (6 + 6) _ _ from hash_l0 (dn:=6) h1 h2 h3 (by lia)) (by lia)
  | l1 p ih =>
    intro v deep td hv ok hd
    have hd:((p.dep + 1:Nat):Int) ≤ deep:=hd
    cases hv with
    | l1 h1 h2 h3 h4=>exact HC.le (n:=6 * p.dep + 12 + 6) (show HC w mx c da X 352 (6 * p.dep + 12 + 6) _ _ from hash_l1 (dn:=6 * p.dep + 12) (fun t=>ih h4 ok (by lia)) (fun e h k=>hS_mono e p h k) h1 h2 h3 (by lia)) (by show 6 * p.dep + 12 + 6 ≤ 6 * (p.dep + 1) + 12; lia)
  | l2 p q ih ih' =>
    intro v deep td hv ok hd
    have hd:((max p.dep q.dep + 1:Nat):Int) ≤ deep:=hd
    cases hv with
    | l2 h1 h2 h3 h4 h5=>exact HC.le (n:=6 * max p.dep q.dep + 12 + 6) (show HC w mx c da X 352 (6 * max p.dep q.dep + 12 + 6) _ _ from hash_l2 (dn:=6 * max p.dep q.dep + 12) (fun t=>HC.le (ih h4 ok.1 (by lia)) (by lia)) (fun t=>HC.le (ih' h5 ok.2 (by lia)) (by lia)) (fun e h k=>hS_mono e p h k) (fun e h k=>hS_mono e q h k) h1 h2 h3 (by lia)) (by show 6 * max p.dep q.dep + 12 + 6 ≤ 6 * (max p.dep q.dep + 1) + 12; lia)
  | range x y o =>
    intro v deep td hv ok hd
    have hd:((1:Nat):Int) ≤ deep:=hd
    cases hv with
    | range h1 h2 h3 h4 h5 =>
      cases y with
      | none=>cases h4; exact HC.le (n:=12) (show HC w mx c da X 352 (12) _ _ from hash_rangeN h1 h2 h3 h5 (by lia)) (by lia)
      | some y=>cases h4; exact HC.le (n:=12) (show HC w mx c da X 352 (12) _ _ from hash_rangeS h1 h2 h3 h5 (by lia)) (by lia)
theorem object_same {w mx} {l:Led} {v u x:Value} {la:Addr} {n:Nat} {b:Bool} (hl:(la, listOf [u].toArray n) ∈ l) (C:Does w mx 244 3 [v, u] l (fun r n' tl=>r = .bool b ∧ n' = l ∧ tl = [])):Does w mx 338 5 [x, v, .ref la] l (fun r n' tl=>r = .bool b ∧ n' = l ∧ tl = []):=by
  refine does_enter (bm:=[(ofString "args", .ref la), (ofString "self", v), (ofString "world", x)]) (by k_is) (by k_is) (by first | exact fun s X=>BindsTo.of_eq rfl | exact fun s X=>binds_K X rfl (by k_is) rfl rfl rfl) (by exact rfl) (by exact rfl) (by exact rfl) (by exact rfl) (by exact rfl) (by first | decide | lia) (by exact rfl) fun c m hm hcp hcs hcl hr=>?_
  exact Ts.ret (Tv.callee ((show ∀ p, Ev c m _ (.Name (ofString "same") p) (.ref 244) from fun p=>by exact Ev.glob (by k_is) Kx rfl) _ _ (Tv.with1 (by k_is) (Evs.cons (by exact Ev.loc hm rfl Kx rfl) (Evs.cons (Ev.item (by exact Ev.loc hm rfl Kx rfl) hl rfl (by decide) fun _=>rfl) Evs.nil rfl) rfl _ _ (Tv.does0 C hr (fun r n' tl q=>q.2) (fun r q=>Owes.same ⟨q.1, rfl, rfl⟩) (by decide))) rfl rfl)) rfl)
inductive Chain (l:Led) (a0:Addr):Nat → Value → Prop
  | zero:Chain l a0 0 (.ref a0)
  | succ {k:Nat} {a b:Addr} {es:List DictEntry} {n:Nat} {v:Value}:Ins l a 82 es → has "items" es (.ref b) → (b, listOf [v].toArray n) ∈ l → Chain l a0 k v → Chain l a0 (k + 1) (.ref a)
theorem Chain.mono {l k:Led} {a0:Addr} {n:Nat} {v:Value} (s:∀ p ∈ l, p ∈ k) (h:Chain l a0 n v):Chain k a0 n v:=by
  induction h with
  | zero=>exact .zero
  | succ h1 h2 h3 _ ih=>exact .succ (h1.mono s) h2 (s _ h3) ih
noncomputable def cN:Nat → Cd → Cd
  | 0, c=>c
  | n + 1, c=>.l1 (cN n c)
noncomputable def gN (d:Addr):Nat → Hs → Option Int
  | 0=>fun η=>gid η d
  | n + 1=>fun η=>(gN d n η).map fun h=>31 * 7 + h + 1
theorem gN_mono {d:Addr} {η η':Hs} (e:HExt η η'):∀ (n:Nat) (h:Int), gN d n η = some h → gN d n η' = some h
  | 0, h, k=>e.id d h k
  | n + 1, h, k=>by
    simp only [gN, Option.map_eq_some_iff] at k ⊢
    obtain ⟨i, h1, h2⟩:=k
    exact ⟨i, gN_mono e n i h1, h2⟩
theorem chain_code {w mx} {a0:Addr} {e0:List DictEntry} {i:Int} {t0:Tok} {l₀:Led} (h0:Ins l₀ a0 82 e0) (hn:has "number" e0 (.int i t0)):∀ (k:Nat) {l:Led} {v:Value} {deep:Int} {t:Tok}, (∀ p ∈ l₀, p ∈ l) → Chain l a0 k v → deep = k →
    Does w mx 250 (3 * k + 6) [v, .int deep t] l (fun r n' tl=>n' = l ∧ DatIn tl r (cN k (.thing i)).dat)
  | 0, l, v, deep, t, hs, hc, hd=>by
    subst hd
    cases hc
    exact code_deep0 (h0.mono hs) hn
  | k + 1, l, v, deep, t, hs, hc, hd=>by
    subst hd
    cases hc with
    | succ h1 h2 h3 h4 =>
      exact code_l1g (c₁:=cN k (.thing i)) (dn:=3 * k + 6) (fun {l'} {t'} hs'=>chain_code h0 hn k (fun p hp=>hs' p (hs p hp)) (h4.mono hs') (by lia)) h1 h2 h3 (by lia) (.inl rfl)
theorem chain_hash {w mx} {c:Wc} {da:List Addr} {X:Led} {a0 d:Addr} (m1:(a0, instObj 82 d) ∈ X) (hd:d ∈ da):∀ (k:Nat) {v:Value} {deep:Int} {t:Tok}, Chain X a0 k v → deep = k → HC w mx c da X 352 (6 * k + 6) [.ref c.wa, v, .int deep t] (gN d k)
  | 0, v, deep, t, hc, hk=>by
    subst hk
    cases hc
    exact hash_deep0 m1 hd
  | k + 1, v, deep, t, hc, hk=>by
    subst hk
    cases hc with
    | succ h1 h2 h3 h4 =>
      exact hash_l1 (dn:=6 * k + 6) (fun t'=>chain_hash m1 hd k h4 (by lia)) (fun e h q=>gN_mono e k h q) h1 h2 h3 (by lia)
open PyProof.Rows in
theorem dat_ref {l:Led} {r:Value} {c:Cd} (h:DatIn l r c.dat):∃ a, r = .ref a:=by
  have key:∀ ds, DatIn l r (.tuple ds) → ∃ a, r = .ref a:=fun ds h=>by cases h; exact ⟨_, rfl⟩
  cases c with
  | plain v=>cases v <;> exact key _ h
  | _=>exact key _ h
noncomputable def CV (w:World) (mx:Mx) (l₀:Led) (v:Value) (dn:Nat) (c:Cd):Prop:=∀ l, (∀ p ∈ l₀, p ∈ l) → Does w mx 250 dn [v] l (fun r n' tl=>n' = l ∧ DatIn tl r c.dat)
theorem CV.mono {w mx} {l k:Led} {v:Value} {dn:Nat} {c:Cd} (h:CV w mx l v dn c) (s:∀ p ∈ l, p ∈ k):CV w mx k v dn c:=fun l' hs=>h l' fun p hp=>hs p (s p hp)
section
variable {w mx} {b:Amb w mx} {m:Fm} {n:Led}
theorem Tv.notv {e:Expr} {pos:Pos} {P:Value → Led → Prop} (h:Tv b m n (eval e b.env) fun v n'=>∃ x, v = .bool x ∧ P (.bool (!x)) n'):Tv b m n (eval (.UnaryOp .Not e pos) b.env) P:=fun Q E h₁ tk F N ret=>wpAny_UnaryOp (h _ E h₁ tk F N fun v h' tk' n' F' N' ⟨x, e1, hP⟩=>by
  subst e1
  have ret':=ret (.bool (!x)) h' tk' n' F' N' hP
  walk1
  exact wpAny_truthy_bool ret')
theorem Tv.or2v {e1 e2:Expr} {pos:Pos} {P:Value → Led → Prop} {x:Bool} (h1:Ev b m n e1 (.bool x)) (ht:x = true → P (.bool true) n) (h2:x = false → Tv b m n (eval e2 b.env) P):Tv b m n (eval (.BoolOp .Or [e1, e2] pos) b.env) P:=fun Q E h₁ tk F N ret =>
  BoolOp_or (h1 (fun v n'=>v = .bool x ∧ n' = n) ⟨rfl, rfl⟩ _ E h₁ tk F N fun v h' tk' n' F' N' ⟨e, e2'⟩=>by
    subst e
    subst e2'
    cases x with
    | true=>exact wpAny_truthy_bool (ret _ _ _ _ F' N' (ht rfl))
    | false=>exact wpAny_truthy_bool (BoolOp_one (h2 rfl Q E h' _ F' N' ret)))
theorem Tv.notis {e1 e2:Expr} {pos:Pos} {x:Bool} {P:Bool → Led → Prop} (h:Tv b m n (eval e1 b.env) fun v n'=>v = .bool x ∧ Ev b m n' e2 (.bool x) ∧ P false n') (hm:behindInMarks .IsNot e2 = false):Tv b m n (PySem.isTrue (.Compare e1 [.IsNot] [e2] pos) b.env (eval (.Compare e1 [.IsNot] [e2] pos) b.env)) P :=
  Tv.cmp1 (h.mono fun v n' ⟨e, h2, hP⟩=>by
    subst e
    exact h2 _ fun Q E h₁ tk F N ret=>wpAny_isNot_self (by cases x <;> rfl) (ret _ _ _ _ F N (Tv.tbool hP))) hm
theorem Owes.sub {news n:Led} {R:Value → Led → Led → Prop} {r:Value} (s:∀ p ∈ news, p ∈ n) (h:R r news []):Owes news R r n:=⟨news, [], fun p hp=>s p (by rwa [List.append_nil] at hp), Gt.nil, h⟩
theorem Cp.neB {x:Bool}:Cp b m n .NotEq (.bool x) (.bool x) (.bool false):=fun P h Q E h₁ tk F N ret=>by
  walk1
  cases x with
  | false=>exact ret _ _ _ _ F N (h tk)
  | true=>exact ret _ _ _ _ F N (h tk)
theorem Ev.notB {e:Expr} {pos:Pos} {x:Bool} (h:Ev b m n e (.bool x)):Ev b m n (.UnaryOp .Not e pos) (.bool (!x)):=fun P k=>Tv.notv (h _ ⟨x, rfl, k⟩)
theorem Tv.cmpC {x y:Str} {e1 e2:Expr} {v1 v2:Value} {c d:Cd} {dn d0:Nat} {p1 p2 p3 p4 p5:Pos} {P:Value → Led → Prop} {r:Bool} (k1:Ev b m n (.Name x p1) (.ref 250)) (k2:∀ t, Ev b m (n ++ t) (.Name y p3) (.ref 250)) (h1:Ev b m n e1 v1) (h2:∀ t, Ev b m (n ++ t) e2 v2) (C1:CV w mx n v1 d0 c) (C2:CV w mx n v2 d0 d) (fc:c.Fits) (fd:d.Fits) (dc:c.dep ≤ 20) (dd:d.dep ≤ 20) (hr:b.Room dn) (hd:d0 < dn) (h8:8 < dn) (hb:r = true ↔ c = d) (h:∀ t, P (.bool r) (n ++ t))
    (s1:starEach [e1] b.env = (false, eval e1 b.env) :: starEach [] b.env) (s2:starEach [e2] b.env = (false, eval e2 b.env) :: starEach [] b.env):Tv b m n (eval (.Compare (.Call (.Name x p1) [e1] [] p2) [.Eq] [.Call (.Name y p3) [e2] [] p4] p5) b.env) P :=
  Tv.cmpv (Tv.callee (k1 _ (Tv.with1 (by k_is) (Tv.args1 (h1 _ (Tv.args0 (Tv.does (C1 n fun _ h=>h) hr (fun r1 n1 t1 g1 q1=>by
    rw [q1.1]
    exact Tv.callee (k2 t1 _ (Tv.with1 (by k_is) (Tv.args1 (h2 t1 _ (Tv.args0 (Tv.does (C2 (n ++ t1) fun p hp=>iL hp) hr (fun r2 n2 t2 g2 q2 Q E h₁ tk F N ret=>by
      rw [q2.1] at N
      exact code_eq N (q1.2.mono fun p hp=>iL (iR hp)) (q2.2.mono fun p hp=>iR hp) fc fd dc dd (hr 8 h8).2 r hb (ret _ _ _ _ F (News.of N fun p hp=>iL hp) (h t1))) hd))) s2) s2 rfl)) rfl) hd))) s1) s1 rfl)) rfl) rfl
end
theorem alike_ok {w mx} {l:Led} {v u x:Value} {la:Addr} {n dn:Nat} {c d:Cd} (C1:CV w mx l v dn c) (C2:CV w mx l u dn d) (hl:(la, listOf [u].toArray n) ∈ l) (fc:c.Fits) (fd:d.Fits) (dc:c.dep ≤ 20) (dd:d.dep ≤ 20) (b:Bool) (hb:b = true ↔ c = d) (h64:8 ≤ dn) :
    Does w mx 345 (dn + 3) [x, v, .ref la] l (fun r n' tl=>r = .bool b ∧ n' = l ∧ tl = []):=by
  refine does_enter (bm:=[(ofString "args", .ref la), (ofString "self", v), (ofString "world", x)]) (by k_is) (by k_is) (by first | exact fun s X=>BindsTo.of_eq rfl | exact fun s X=>binds_K X rfl (by k_is) rfl rfl rfl) (by exact rfl) (by exact rfl) (by exact rfl) (by exact rfl) (by exact rfl) (by first | decide | lia) (by exact rfl) fun ab m hm hcp hcs hcl hr=>?_
  have ec:∀ {A p}, Ev ab m A (.Name (ofString "code_of") p) (.ref 250):=by exact Ev.glob (by k_is) Kx rfl
  have es:∀ {A p}, Ev ab m A (.Name (ofString "self") p) v:=by exact Ev.loc hm rfl Kx rfl
  have ea:∀ {A p}, Ev ab m A (.Name (ofString "args") p) (.ref la):=by exact Ev.loc hm rfl Kx rfl
  exact Ts.ret (Tv.cmpC ec (fun _=>ec) es (fun t=>Ev.item ea (iL hl) rfl ⟨by decide, by decide⟩ fun _=>rfl) C1 C2 fc fd dc dd hr (Nat.lt_add_of_pos_right (by decide)) (Nat.lt_of_le_of_lt h64 (Nat.lt_add_of_pos_right (by decide))) hb (fun t=>Owes.sub (fun p hp=>iL hp) ⟨rfl, rfl, rfl⟩) rfl rfl)
theorem pair_false {w mx} {l:Led} {wa:Value} {one two:Value} {dn:Nat} {c₁ c₂:Cd} (C1:CV w mx l one dn c₁) (C2:CV w mx l two dn c₂) (f1:c₁.Fits) (f2:c₂.Fits) (d1:c₁.dep ≤ 20) (d2:c₂.dep ≤ 20) (hne:c₁ ≠ c₂) (h64:8 ≤ dn) :
    Does w mx 723 (dn + 6) [wa, one, two, .bool false] l (fun r n' tl=>r = .bool true ∧ n' = l):=by
  refine does_enter (bm:=[(ofString "due", .bool false), (ofString "second", two), (ofString "one", one), (ofString "world", wa)]) (by k_is) (by k_is) (by first | exact fun s X=>BindsTo.of_eq rfl | exact fun s X=>binds_K X rfl (by k_is) rfl rfl rfl) (by exact rfl) (by exact rfl) (by exact rfl) (by exact rfl) (by exact rfl) (by first | decide | lia) (by exact rfl) fun b m hm hcp hcs hcl hr=>?_
  have ec:∀ {A p}, Ev b m A (.Name (ofString "code_of") p) (.ref 250):=by exact Ev.glob (by k_is) Kx rfl
  have el:∀ {A p}, Ev b m A (.Name (ofString "object_alike") p) (.ref 345):=by exact Ev.glob (by k_is) Kx rfl
  have e1:∀ {A p}, Ev b m A (.Name (ofString "one") p) one:=by exact Ev.loc hm rfl Kx rfl
  have e2:∀ {A p}, Ev b m A (.Name (ofString "second") p) two:=by exact Ev.loc hm rfl Kx rfl
  have ew:∀ {A p}, Ev b m A (.Name (ofString "world") p) wa:=by exact Ev.loc hm rfl Kx rfl
  have ed:∀ {A p}, Ev b m A (.Name (ofString "due") p) (.bool false):=by exact Ev.loc hm rfl Kx rfl
  have hb:false = true ↔ c₁ = c₂:=⟨fun h=>(nomatch h), fun h=>absurd h hne⟩
  have h6:dn < dn + 6:=Nat.lt_add_of_pos_right (by decide)
  refine Ts.ite (Tv.or1 (Tv.cmp1 (Tv.cmpC ec (fun _=>ec) e1 (fun _=>e2) C1 C2 f1 f2 d1 d2 hr h6 (Nat.lt_of_le_of_lt h64 h6) hb (fun t=>ed _ (Cp.neB _ fun _=>Tv.tbool (both_f rfl (Tv.or1 (Tv.notis (Tv.callee (el _ (Tv.with1 (by k_is) (Tv.args1 (ew _ (Tv.args1 (e1 _ (Tv.args1 (Tv.listx (Tv.args1 (e2 _ (Tv.args0 (Tv.list (fun la hla=>Tv.args0 (Tv.does0 (alike_ok (C1.mono fun p hp=>.tail _ (iL hp)) (C2.mono fun p hp=>.tail _ (iL hp)) (.head _) f1 f2 d1 d2 false hb h64) hr (fun r n' tl q=>q.2) (fun r q=>⟨q.1, ed, both_f rfl (Tv.or0 (both_f rfl (Ts.nil (Ts.ret (Tv.or2v (Ev.notB ed) (fun _=>Owes.sub (fun p hp=>.tail _ (iL hp)) ⟨rfl, rfl⟩) fun h=>(nomatch h))))))⟩) (Nat.add_lt_add_left (by decide) dn))) (Nat.le_of_ble_eq_true rfl)))) rfl)) rfl)) rfl)) rfl) rfl rfl)) rfl) rfl))))) rfl rfl) rfl))
noncomputable def HP (w:World) (mx:Mx) (c:Wc) (da:List Addr) (X:Led) (σ:Ws) (η:Hs) (rest:Led) (f:Addr) (dn:Nat) (args:List Value) (P:Value → Prop):Prop :=
  Does w mx f dn args (Hw c σ η ++ rest) (fun r n' tl=>∃ σ' η', n' = Hw c σ' η' ++ rest ∧ HI w c da σ' η' X ∧ HExt η η' ∧ σ'.num = σ.num ∧ σ'.kvs = σ.kvs ∧ σ'.rd = σ.rd ∧ P r)
theorem pair_true {w mx} {c:Wc} {da:List Addr} {X rest:Led} {σ:Ws} {η:Hs} {one two:Value} {dn:Nat} {c₁ c₂:Cd} {S₁ S₂:Hs → Option Int} (hH:HI w c da σ η X) (hs:∀ p ∈ X, p ∈ rest) (hg:Gt (Hw c σ η) rest)
    (C1:CV w mx (Hk c η ++ X) one dn c₁) (C2:CV w mx (Hk c η ++ X) two dn c₂) (f1:c₁.Fits) (f2:c₂.Fits) (d1:c₁.dep ≤ 20) (d2:c₂.dep ≤ 20) (hc:c₁ = c₂) (h64:8 ≤ dn)
    (H1:HC w mx c da X 352 dn [.ref c.wa, one, .int 12 258] S₁) (H2:HC w mx c da X 352 dn [.ref c.wa, two, .int 12 258] S₂) (M1:∀ {η η':Hs}, HExt η η' → ∀ h, S₁ η = some h → S₁ η' = some h) (hS:∀ η h k, S₁ η = some h → S₂ η = some k → h = k) :
    HP w mx c da X σ η rest 723 (dn + 6) [.ref c.wa, one, two, .bool true] (fun r=>r = .bool true):=by
  refine does_enter (bm:=[(ofString "due", .bool true), (ofString "second", two), (ofString "one", one), (ofString "world", .ref c.wa)]) (by k_is) (by k_is) (by first | exact fun s X=>BindsTo.of_eq rfl | exact fun s X=>binds_K X rfl (by k_is) rfl rfl rfl) (by exact rfl) (by exact rfl) (by exact rfl) (by exact rfl) (by exact rfl) (by first | decide | lia) (by exact rfl) fun b m hm hcp hcs hcl hr=>?_
  have ec:∀ {A p}, Ev b m A (.Name (ofString "code_of") p) (.ref 250):=by exact Ev.glob (by k_is) Kx rfl
  have el:∀ {A p}, Ev b m A (.Name (ofString "object_alike") p) (.ref 345):=by exact Ev.glob (by k_is) Kx rfl
  have eh:∀ {A p}, Ev b m A (.Name (ofString "object_hash") p) (.ref 359):=by exact Ev.glob (by k_is) Kx rfl
  have e1:∀ {A p}, Ev b m A (.Name (ofString "one") p) one:=by exact Ev.loc hm rfl Kx rfl
  have e2:∀ {A p}, Ev b m A (.Name (ofString "second") p) two:=by exact Ev.loc hm rfl Kx rfl
  have ew:∀ {A p}, Ev b m A (.Name (ofString "world") p) (.ref c.wa):=by exact Ev.loc hm rfl Kx rfl
  have ed:∀ {A p}, Ev b m A (.Name (ofString "due") p) (.bool true):=by exact Ev.loc hm rfl Kx rfl
  have hb:true = true ↔ c₁ = c₂:=⟨fun _=>hc, fun _=>rfl⟩
  have h6:dn < dn + 6:=Nat.lt_add_of_pos_right (by decide)
  have s0:∀ p ∈ Hk c η ++ X, p ∈ Hw c σ η ++ rest:=fun p hp=>(List.mem_append.mp hp).elim (fun h=>iL (hw_mem.mpr (.inr h))) (fun h=>iR (hs p h))
  refine Ts.ite (Tv.or1 (Tv.cmp1 (Tv.cmpC ec (fun _=>ec) e1 (fun _=>e2) (C1.mono s0) (C2.mono s0) f1 f2 d1 d2 hr h6 (Nat.lt_of_le_of_lt h64 h6) hb (fun t=>ed _ (Cp.neB _ fun _=>Tv.tbool (both_f rfl (Tv.or1 (Tv.notis (Tv.callee (el _ (Tv.with1 (by k_is) (Tv.args1 (ew _ (Tv.args1 (e1 _ (Tv.args1 (Tv.listx (Tv.args1 (e2 _ (Tv.args0 (Tv.list (fun la hla=>Tv.args0 (Tv.does0 (alike_ok (C1.mono fun p hp=>.tail _ (iL (s0 p hp))) (C2.mono fun p hp=>.tail _ (iL (s0 p hp))) (.head _) f1 f2 d1 d2 true hb h64) hr (fun r n' tl q=>q.2) (fun r q=>⟨q.1, ed, both_f rfl (Tv.or0 (both_f rfl (Ts.nil (Ts.rek (Hw c σ η ++ rest) (fun p hp=>.tail _ (iL hp)) ?_))))⟩) (Nat.add_lt_add_left (by decide) dn))) (Nat.le_of_ble_eq_true rfl)))) rfl)) rfl)) rfl)) rfl) rfl rfl)) rfl) rfl))))) rfl rfl) rfl))
  clear s0 hb
  have la_off:∀ {σ η} {o:Obj} {la:Addr}, Gt (Hw c σ η) rest → (∀ p ∈ Hw c σ η ++ rest, p.1 < la) → Gt (Hw c σ η) ((la, o) :: rest):=fun g h=>Gt.cons (fun q hq=>Nat.ne_of_lt (h q (iL hq))) g
  have turn:∀ {a:Addr × Obj} {l:Led}, ∀ p ∈ l ++ (a :: rest), p ∈ a :: (l ++ rest):=fun p hp=>(List.mem_append.mp hp).elim (fun h=>.tail _ (iL h)) fun h=>(List.mem_cons.mp h).elim (fun e=>e ▸ .head _) fun h=>.tail _ (iR h)
  refine Ts.ret (Tv.or2v (Ev.notB ed) (fun h=>(nomatch h)) fun _=>Tv.cmpv (Tv.callee (eh _ (Tv.with1 (by k_is) (Tv.args1 (ew _ (Tv.args1 (e1 _ (Tv.args1 (Tv.listx (Tv.args0 (Tv.list (fun la hla=>Tv.args0 (Tv.rek (Hw c σ η ++ ((la, _) :: rest)) turn (Tv.does (object_hash H1 σ η _ hH (fun p hp=>.tail _ (hs p hp)) (la_off hg hla)) hr (fun r n' tl g q=>?_) (Nat.add_lt_add_left (by decide) dn)))) (Nat.le_of_ble_eq_true rfl)))) rfl)) rfl)) rfl) rfl rfl)) rfl) rfl)
  refine byP fun _ q9=>?_
  obtain ⟨σ8, η8, e, H8, E8, i1, i2, i3, v8, w8, er, S8⟩:=q
  refine q9 ?_
  subst e
  subst er
  have hg8:Gt (Hw c σ8 η8) rest:=Gt.hw E8 hg
  refine Tv.rek (Hw c σ8 η8 ++ rest) (fun p hp=>iL ((List.mem_append.mp hp).elim (iL) fun h=>iR (.tail _ h))) (Tv.callee (eh _ (Tv.with1 (by k_is) (Tv.args1 (ew _ (Tv.args1 (e2 _ (Tv.args1 (Tv.listx (Tv.args0 (Tv.list (fun la hla=>Tv.args0 (Tv.rek (Hw c σ8 η8 ++ ((la, _) :: rest)) turn (Tv.does (object_hash H2 σ8 η8 _ H8 (fun p hp=>.tail _ (hs p hp)) (la_off hg8 hla)) hr (fun r n' tl g q=>?_) (Nat.add_lt_add_left (by decide) dn)))) (Nat.le_of_ble_eq_true rfl)))) rfl)) rfl)) rfl) rfl rfl)) rfl)
  refine byP fun _ q9=>?_
  obtain ⟨σ9, η9, e, H9, E9, j1, j2, j3, v9, w9, er, S9⟩:=q
  refine q9 ?_
  subst e
  subst er
  have ev:=hS η9 v8 v9 (M1 E9 _ S8) S9
  exact fun Q E h₁ tk F N ret=>eq_int (by
    rw [ev, beq_self_eq_true]
    exact ret _ _ _ _ F N ⟨Hw c σ9 η9 ++ rest, [], fun p hp=>iL ((List.mem_append.mp (by rwa [List.append_nil] at hp)).elim (iL) fun h=>iR (.tail _ h)), Gt.nil, σ9, η9, rfl, H9, E8.trans E9, j1.trans i1, j2.trans i2, j3.trans i3, rfl⟩)
noncomputable def unmade:List Str:=[ofString "NilClass", ofString "TrueClass", ofString "FalseClass", ofString "Integer", ofString "Numeric", ofString "Symbol"]
theorem tup_ex {K:Frag} {a:Addr} {items:Array Value} {n:Nat} {ys:List Str} (hl:K.lookup a = some ⟨.type "tuple", none, .seq items n, #[]⟩) (h:StrsAre items.toList ys):∃ items n, K.lookup a = some ⟨.type "tuple", none, .seq items n, #[]⟩ ∧ StrsAre items.toList ys:=⟨items, n, hl, h⟩
theorem unmade_at (w:World):∃ items n, (K9 w.params).lookup 426 = some ⟨.type "tuple", none, .seq items n, #[]⟩ ∧ StrsAre items.toList unmade:=by
  refine' tup_ex ?l ?s
  case l=>k_dflt k_is
  case s=>repeat (first | exact StrsAre.nil | refine StrsAre.cons _ _ ?_)
theorem unmade_in {w:World} {A:Around} {E:Value → Shared → Prop} {s:Shared} {h₀:Heap} {L:Addr} {m:Str → Option Value} {x:Str} {u:Tok} {b:Bool} {Q:Value → Shared → Prop} (F:Fr h₀ L s.heap m) (X:(K9 w.params).In h₀) (hb:unmade.any (· == x) = b) (h:Q (.bool b) s) :
    wpAny (model PR w) A (compareOp .In (.str x u) (.ref 426)) Q E s:=by
  refine byP fun _ q9=>?_
  obtain ⟨items, n, hl, hs⟩:=unmade_at w
  refine q9 ?_
  have ht:IsTup s.heap 426 items:=by
    have:=X.keeps F.keep _ _ hl
    exact ⟨_, this, rfl, _, rfl⟩
  exact in_tuple_strs (ys:=unmade) ht hs (by rw [hb]; exact h)
structure MdA (l:Led) (b d:Addr) (es:List DictEntry) (x:Str):Prop where
  m1:(b, instObj 228 d) ∈ l
  m2:∃ n, (d, dictOf es n) ∈ l
  nat:∃ t, has "native" es (.str x t)
  att:has "attached" es .none
  own:hasn "is_own" es
theorem n_att {w:World}:FieldOk w 228 (ofString "attached") none:=⟨by k_is, by k_is, by k_is, by k_is⟩
theorem n_nat {w:World}:FieldOk w 228 (ofString "native") none:=⟨by k_is, by k_is, by k_is, by k_is⟩
theorem n_par {w:World}:FieldOk w 228 (ofString "parent") none:=⟨by k_is, by k_is, by k_is, by k_is⟩
theorem m_isown {w:World}:MethOk w 228 "is_own" 225:=⟨by k_is, by k_is, by k_is⟩
section
variable {w mx} {b:Amb w mx} {m:Fm} {n:Led}
theorem cp_isnot_none:Cp b m n .IsNot .none .none (.bool false):=cp_isnot_n
theorem cp_is_s {x:Str} {t:Tok}:Cp b m n .Is (.str x t) .none (.bool false):=fun P hP Q E h₁ tk F N ret=>by
  walk1
  exact ret _ _ _ _ F N (hP 0)
theorem isown_ok {l:Led} {a d:Addr} {es:List DictEntry} {x:Str} (h:MdA l a d es x):Does w mx 225 2 [.ref a] l (fun r n' tl=>r = .bool false ∧ n' = l ∧ tl = []):=by
  refine byP fun _ q9=>?_
  obtain ⟨m1, ⟨k, m2⟩, _, h3, _⟩:=h
  refine q9 ?_
  refine does_enter (bm:=[(ofString "self", .ref a)]) (by k_is) (by k_is) (by first | exact fun s X=>BindsTo.of_eq rfl | exact fun s X=>binds_K X rfl (by k_is) rfl rfl rfl) (by exact rfl) (by exact rfl) (by exact rfl) (by exact rfl) (by exact rfl) (by first | decide | lia) (by exact rfl) fun c m hm hcp hcs hcl hr=>?_
  exact Ts.ret (Ev.cmp (Ev.attr (by exact Ev.loc hm rfl Kx rfl) m1 m2 n_att h3 rfl rfl) Ev.none cp_isnot_none rfl _ (Owes.same ⟨rfl, rfl, rfl⟩))
theorem Te.isown {l:Led} {e0:PySem.Expr} {a d:Addr} {es:List DictEntry} {x:Str} {p2 p3:Pos} {dn:Nat} {pl:Sem Bool} (h0:Ev b m l e0 (.ref a)) (h:MdA l a d es x) (hr:b.Room dn) (hd:2 < dn)
    (he:eval (Expr.Call (.Attribute e0 (ofString "is_own") p2) [] [] p3) b.env = (do let ov ← eval e0 b.env; standAt (Pos.atName p2); let x ← holding [ov] (getMethod ov (ofString "is_own") pl); match x with | (g, first)=>callWith p3 g first (backTo p3 (starEach [] b.env)) [])) :
    Te b m l (.Call (.Attribute e0 (ofString "is_own") p2) [] [] p3) false:=fun P hP=>by
  obtain ⟨k, m2⟩:=h.m2
  exact Tv.plain (Tv.meth (h0 _ (Tv.getm h.m1 m2 m_isown h.own (Tv.with0 (by k_is) (Tv.does0 (isown_ok h) hr (fun r n' tl q=>q.2) (fun r q=>by rw [q.1]; exact Tv.tbool hP) hd)))) he) rfl
theorem root_ok {l:Led} {wv:Value} {a d:Addr} {es:List DictEntry} {x:Str} {t:Tok} (h:MdA l a d es x) (ht:has "native" es (.str x t)):Does w mx 531 4 [wv, .ref a] l (fun r n' tl=>r = .str x t ∧ n' = l ∧ tl = []):=by
  obtain ⟨k, m2⟩:=h.m2
  refine does_enter (bm:=[(ofString "module", .ref a), (ofString "self", wv)]) (by k_is) (by k_is) (by first | exact fun s X=>BindsTo.of_eq rfl | exact fun s X=>binds_K X rfl (by k_is) rfl rfl rfl) (by exact rfl) (by exact rfl) (by exact rfl) (by exact rfl) (by exact rfl) (by first | decide | lia) (by exact rfl) fun c m hm hcp hcs hcl hr=>?_
  have em:∀ {A p}, Ev c m A (.Name (ofString "module") p) (.ref a):=by exact Ev.loc hm rfl Kx rfl
  refine Ts.while (fun k m' n'=>k = 0 ∧ m' = m ∧ n' = l) (k0:=0) hcp ⟨rfl, rfl, rfl⟩ fun k m' n' ⟨_, e1, e2⟩=>?_
  subst e1
  subst e2
  exact Te.orF (Te.cmp (Ev.attr em h.m1 m2 n_nat ht rfl rfl) Ev.none cp_is_s rfl) (Te.isown em h hr (by decide) rfl) _ (both_f rfl (Ts.ret (Ev.attr em h.m1 m2 n_nat ht rfl rfl _ (Owes.same ⟨rfl, rfl, rfl⟩))))
noncomputable def ParC (l:Led):Nat → Value → Prop
  | 0, v=>v = .none
  | k + 1, v=>∃ a d es x n t u, v = .ref a ∧ (a, instObj 228 d) ∈ l ∧ (d, dictOf es n) ∈ l ∧ has "native" es (.str x t) ∧ (x == ofString "Exception") = false ∧ has "parent" es u ∧ handedIn u = true ∧ ParC l k u
theorem cp_isnot_r {a:Addr}:Cp b m n .IsNot (.ref a) .none (.bool true):=fun P hP Q E h₁ tk F N ret=>by
  walk1
  exact ret _ _ _ _ F N (hP 0)
theorem err_ok {l:Led} {wv v:Value} {k:Nat} (h:ParC l k v):Does w mx 594 2 [wv, v] l (fun r n' tl=>r = .bool false ∧ n' = l ∧ tl = []):=by
  refine does_enter (bm:=[(ofString "module", v), (ofString "self", wv)]) (by k_is) (by k_is) (by first | exact fun s X=>BindsTo.of_eq rfl | exact fun s X=>binds_K X rfl (by k_is) rfl rfl rfl) (by exact rfl) (by exact rfl) (by exact rfl) (by exact rfl) (by exact rfl) (by first | decide | lia) (by exact rfl) fun c m hm hcp hcs hcl hr=>?_
  refine Ts.while (fun k m' n'=>n' = l ∧ ∃ u, m'.lookup (ofString "module") = some u ∧ ParC l k u) (k0:=k) hcp ⟨rfl, v, look hm rfl, h⟩ fun k m' n' z9=>?_
  refine byP fun _ q9=>?_
  obtain ⟨e1, u, hu, hc⟩:=z9
  refine q9 ?_
  subst e1
  have em:∀ {A p}, Ev c m' A (.Name (ofString "module") p) u:=Ev.name hu Kx rfl
  cases k with
  | zero =>
    cases hc
    exact Te.cmp em Ev.none cp_isnot_n rfl _ (both_f rfl (Ts.ret (Ev.bool _ (Owes.same ⟨rfl, rfl, rfl⟩))))
  | succ k =>
    refine byP fun _ q9=>?_
    obtain ⟨a, d, es, x, j, t, u', rfl, m1, m2, hn, hx, hp, hh, hc⟩:=hc
    refine q9 ?_
    exact Te.cmp em Ev.none cp_isnot_r rfl _ (both_t rfl (Ts.skip (Te.eqc (Ev.attr em m1 m2 n_nat hn rfl rfl) hx) (Ts.assign rfl (Ev.attr em m1 m2 n_par hp hh rfl _ fun m2 hm2=>Ts.nil ⟨k, Nat.lt_succ_self k, rfl, u', by rw [hm2]; rfl, hc⟩) Kx rfl)))
theorem wm_root:MethOk w 681 "root_of" 531:=⟨by k_is, by k_is, by k_is⟩
theorem wm_err:MethOk w 681 "is_error_class" 594:=⟨by k_is, by k_is, by k_is⟩
theorem cp_unmade {x:Str} {t:Tok} {r:Bool} (h:unmade.any (· == x) = r):Cp b m n .In (.str x t) (.ref 426) (.bool r):=fun P hP Q E h₁ tk F N ret=>unmade_in F b.X h (ret _ _ _ _ F N (hP 0))
end
theorem thing_hash {w mx} {c:Wc} {σ:Ws} {X:Led} {b:Addr} (hI:Inv w c σ X) (hv:valueAt σ.kvs (ofString "Hash") = some (.ref b)) :
    WC w mx c σ X 587 20 [.ref c.wa, .ref b] (fun r σ' tl=>∃ a d z oz es, r = .ref a ∧ tl = [(z, oz), (a, instObj 120 d), (d, dictOf es 8)] ∧ NewF es (σ.num + 1) ∧ σ'.num = σ.num + 1 ∧ σ'.kvs = σ.kvs ∧ has "rows" es (.ref z) ∧ (z == sysModules) = false ∧ oz.IsDictOf (strKind PR w) [] ∧ hasn "put" es ∧ hasn "row" es ∧ hasn "pairs" es):=by
  refine byP fun _ q9=>?_
  obtain ⟨_, b', eb, d, es, n, k, t, t', mi, md, f1, f2, f3, f4, f5, f6⟩:=hI.mods _ _ hv
  refine q9 ?_
  cases eb
  refine WC.gen fun PG gP=>?_
  refine wi_enter (bm:=[(ofString "module", .ref b), (ofString "self", .ref c.wa)]) (by k_is) (by k_is) (by first | exact fun s X=>BindsTo.of_eq rfl | exact fun s X=>binds_K X rfl (by k_is) rfl rfl rfl) (by exact rfl) (by exact rfl) (by exact rfl) (by exact rfl) (by exact rfl) (by first | decide | lia) (by exact rfl) hI fun ab m rest hm hcp hcs hcl hr W=>?_
  have em:∀ {A p}, Ev ab m A (.Name (ofString "module") p) (.ref b):=by exact Ev.loc hm rfl Kx rfl
  have es':∀ {A p}, Ev ab m A (.Name (ofString "self") p) (.ref c.wa):=by exact Ev.loc hm rfl Kx rfl
  have hM:MdA (Wk c σ ++ ([] ++ rest)) b d es (ofString "Hash"):=⟨List.mem_append_right (Wk c σ) (W.xs _ mi), ⟨n, List.mem_append_right (Wk c σ) (W.xs _ md)⟩, ⟨t', f2⟩, f3, f5⟩
  refine Ts.skip (Te.isown em hM hr (by decide) rfl) (Ts.tupS (xs:=[ofString "root", ofString "number"]) hcp (Tv.tup (Tv.args1 (Tv.wm1 (heads:=[]) es' wm_root W.inv.ok.n_root (by k_is) (Evs.cons em Evs.nil rfl) (Tv.does0 (root_ok hM f2) hr (fun r n' tl q=>q.2) (fun r q=>Tv.args1 (Tv.num (heads:=[]) es' W (fun _ h=>nomatch h) hr (fun t2 σ2 W2 E2 _ en ek=>Tv.args0 (Tv.tuple (fun D hD=>⟨D, _, 0, rfl, iH, rfl, fun m2 hm2=>?_⟩) (Nat.le_of_ble_eq_true rfl))) (by decide) rfl) rfl) (by decide)) rfl rfl rfl) rfl)) (all_more Kx (all_one Kx)) rfl ?hw)
  case hw =>
    show swappedStores _ _ (envX ab.cn ab.cs ab.L ab.a ab.ccd ab.cl) = _
    rw [hcs]
    rfl
  obtain ⟨rfl, _⟩:=q
  replace hm2:m2 = [(ofString "root", .str (ofString "Hash") t'), (ofString "number", .int (σ.num + 1) t2), (ofString "module", .ref b), (ofString "self", .ref c.wa)]:=by rw [hm2, hm]; rfl
  refine Ts.re (k:=Wk c σ2 ++ ([] ++ rest)) (fun p hp=>iC hp) ?_
  have er:∀ {A p}, Ev ab m2 A (.Name (ofString "root") p) (.str (ofString "Hash") t'):=by exact Ev.loc hm2 rfl Kx rfl
  have args:∀ {A p1 p2}, Evs ab m2 A [.Name (ofString "number") p1, .Name (ofString "module") p2] [.int (σ.num + 1) t2, .ref b]:=Evs.cons (by exact Ev.loc hm2 rfl Kx rfl) (Evs.cons (by exact Ev.loc hm2 rfl Kx rfl) Evs.nil rfl) rfl
  refine Ts.skip (Te.cmp er (by exact Ev.glob (by k_is) Kx rfl) (cp_unmade (by decide +kernel)) rfl) (Ts.skip (Te.eqs er rfl) (Ts.skip (Te.eqs er rfl) (Ts.hand (Te.eqs er rfl) (Tv.callee ((show ∀ p, Ev ab m2 _ (.Name (ofString "TableThing") p) (.ref 120) from fun p=>by exact Ev.glob (by k_is) Kx rfl) _ _ (Tv.with1 (by k_is) (args _ _ (Tv.doesT table_new hr (fun r n' tl z9=>by refine byP fun _ q9=>?_; obtain ⟨_, _, _, _, _, _, e, _⟩:=z9; exact q9 (e)) (fun r tl g z9=>?_) (by decide))) rfl rfl)) rfl))))
  refine byP fun _ q9=>?_
  obtain ⟨a, d', z, oz, es2, e1, _, l2, e2, hF, hx⟩:=z9
  refine q9 ?_
  subst e1
  subst e2
  exact (W2.more g).owes app3 (gP _ _ _ ⟨a, d', z, oz, es2, rfl, rfl, hF, en, ek, hx⟩)
theorem thing_obj {w mx} {c:Wc} {σ:Ws} {X:Led} {b:Addr} (hI:Inv w c σ X) (hv:valueAt σ.kvs (ofString "Object") = some (.ref b)) :
    WC w mx c σ X 587 20 [.ref c.wa, .ref b] (fun r σ' tl=>∃ a d es, r = .ref a ∧ tl = [(a, instObj 40 d), (d, dictOf es 6)] ∧ NewF es (σ.num + 1) ∧ σ'.num = σ.num + 1 ∧ σ'.kvs = σ.kvs):=by
  refine byP fun _ q9=>?_
  obtain ⟨_, b', eb, d, es, n, k, t, t', mi, md, f1, f2, f3, f4, f5, f6⟩:=hI.mods _ _ hv
  refine q9 ?_
  cases eb
  refine WC.gen fun PG gP=>?_
  refine wi_enter (bm:=[(ofString "module", .ref b), (ofString "self", .ref c.wa)]) (by k_is) (by k_is) (by first | exact fun s X=>BindsTo.of_eq rfl | exact fun s X=>binds_K X rfl (by k_is) rfl rfl rfl) (by exact rfl) (by exact rfl) (by exact rfl) (by exact rfl) (by exact rfl) (by first | decide | lia) (by exact rfl) hI fun ab m rest hm hcp hcs hcl hr W=>?_
  have em:∀ {A p}, Ev ab m A (.Name (ofString "module") p) (.ref b):=by exact Ev.loc hm rfl Kx rfl
  have es':∀ {A p}, Ev ab m A (.Name (ofString "self") p) (.ref c.wa):=by exact Ev.loc hm rfl Kx rfl
  have hM:MdA (Wk c σ ++ ([] ++ rest)) b d es (ofString "Object"):=⟨List.mem_append_right (Wk c σ) (W.xs _ mi), ⟨n, List.mem_append_right (Wk c σ) (W.xs _ md)⟩, ⟨t', f2⟩, f3, f5⟩
  refine Ts.skip (Te.isown em hM hr (by decide) rfl) (Ts.tupS (xs:=[ofString "root", ofString "number"]) hcp (Tv.tup (Tv.args1 (Tv.wm1 (heads:=[]) es' wm_root W.inv.ok.n_root (by k_is) (Evs.cons em Evs.nil rfl) (Tv.does0 (root_ok hM f2) hr (fun r n' tl q=>q.2) (fun r q=>Tv.args1 (Tv.num (heads:=[]) es' W (fun _ h=>nomatch h) hr (fun t2 σ2 W2 E2 _ en ek=>Tv.args0 (Tv.tuple (fun D hD=>⟨D, _, 0, rfl, iH, rfl, fun m2 hm2=>?_⟩) (Nat.le_of_ble_eq_true rfl))) (by decide) rfl) rfl) (by decide)) rfl rfl rfl) rfl)) (all_more Kx (all_one Kx)) rfl ?hw)
  case hw =>
    show swappedStores _ _ (envX ab.cn ab.cs ab.L ab.a ab.ccd ab.cl) = _
    rw [hcs]
    rfl
  obtain ⟨rfl, _⟩:=q
  replace hm2:m2 = [(ofString "root", .str (ofString "Object") t'), (ofString "number", .int (σ.num + 1) t2), (ofString "module", .ref b), (ofString "self", .ref c.wa)]:=by rw [hm2, hm]; rfl
  refine Ts.re (k:=Wk c σ2 ++ ([] ++ rest)) (fun p hp=>iC hp) ?_
  have er:∀ {A p}, Ev ab m2 A (.Name (ofString "root") p) (.str (ofString "Object") t'):=by exact Ev.loc hm2 rfl Kx rfl
  have args:∀ {A p1 p2}, Evs ab m2 A [.Name (ofString "number") p1, .Name (ofString "module") p2] [.int (σ.num + 1) t2, .ref b]:=Evs.cons (by exact Ev.loc hm2 rfl Kx rfl) (Evs.cons (by exact Ev.loc hm2 rfl Kx rfl) Evs.nil rfl) rfl
  have hP:∃ j, ParC (Wk c σ2 ++ ([] ++ rest)) j (.ref b):=by
    have sx:∀ p ∈ X, p ∈ Wk c σ2 ++ ([] ++ rest):=fun p hp=>List.mem_append_right (Wk c σ2) (W.xs _ hp)
    rcases f4 with f4 | ⟨_, p, f6, f7⟩
    · exact ⟨1, b, d, es, _, n, t', .none, rfl, sx _ mi, sx _ md, f2, by decide +kernel, f4, rfl, rfl⟩
    · refine byP fun _ q9=>?_
      obtain ⟨_, b2, eb, d2, es2, n2, k2, t3, t4, q1, q2, q3, q4, q5, q6, q7, q8⟩:=hI.mods _ _ (f7 rfl)
      refine q9 ?_
      cases eb
      rcases q6 with q6 | ⟨q6, _⟩
      · exact ⟨2, b, d, es, _, n, t', .ref p, rfl, sx _ mi, sx _ md, f2, by decide +kernel, f6, rfl, p, d2, es2, _, n2, t4, .none, rfl, sx _ q1, sx _ q2, q4, by decide +kernel, q6, rfl, rfl⟩
      · exact absurd rfl q6
  obtain ⟨j, hP⟩:=hP
  have emm:∀ {A p}, Ev ab m2 A (.Name (ofString "module") p) (.ref b):=by exact Ev.loc hm2 rfl Kx rfl
  refine Ts.skip (Te.cmp er (by exact Ev.glob (by k_is) Kx rfl) (cp_unmade (by decide +kernel)) rfl) (Ts.skip (Te.eqs er rfl) (Ts.skip (Te.eqs er rfl) (Ts.skip (Te.eqs er rfl) (Ts.skip (Te.eqs er rfl) (Ts.skip (Te.eqs er rfl) (Ts.skip (Te.eqs er rfl) (Ts.skip (Te.eqs er rfl) (Ts.skip (Te.eqs er rfl) (Ts.skip ?err (Ts.ret (Tv.callee ((show ∀ p, Ev ab m2 _ (.Name (ofString "Thing") p) (.ref 40) from fun p=>by exact Ev.glob (by k_is) Kx rfl) _ _ (Tv.with1 (by k_is) (args _ _ (Tv.doesT thing_new hr (fun r n' tl z9=>by refine byP fun _ q9=>?_; obtain ⟨_, _, _, _, e, _⟩:=z9; exact q9 (e)) (fun r tl g ⟨a, d', es2, e1, _, l2, e2, hF⟩=>?_) (by decide))) rfl rfl)) rfl)))))))))))
  case err =>
    exact fun P hh=>Tv.plain (Tv.wm1 (heads:=[]) (by exact Ev.loc hm2 rfl Kx rfl) wm_err W2.inv.ok.n_err (by k_is) (Evs.cons emm Evs.nil rfl) (Tv.does0 (err_ok hP) hr (fun r n' tl q=>q.2) (fun r q=>by rw [q.1]; exact Tv.tbool hh) (by decide)) rfl rfl rfl) rfl
  subst e1
  subst e2
  exact (W2.more g).owes app3 (gP _ _ _ ⟨a, d', es2, rfl, rfl, hF, en, ek⟩)
theorem world_start {w:World} {x d q3 q4 q5 nat:Addr} {on o3 o5:Obj} {es:List DictEntry} {t1 t2:Tok} {L:Fm} (hF:Fl es 14 L) (p0:L.lookup (ofString "last_number") = some (.int 0 t1)) (p1:L.lookup (ofString "last_ident") = some (.int 8 t2)) (p2:L.lookup (ofString "symbol_idents") = some (.ref q4)) (p3:L.lookup (ofString "made") = some (.ref q5)) (p4:L.lookup (ofString "is_ready") = some (.bool false)) (p5:L.lookup (ofString "natives") = some (.ref nat)) (p6:L.lookup (ofString "prelude") = some (.ref q3)) (z0:L.lookup (ofString "number") = none) (z1:L.lookup (ofString "next_ident") = none) (z2:L.lookup (ofString "ident") = none) (z3:L.lookup (ofString "builtin") = none) (z4:L.lookup (ofString "make_builtin") = none) (z5:L.lookup (ofString "give_own") = none) (z6:L.lookup (ofString "class_of") = none) (z7:L.lookup (ofString "root_of") = none) (z8:L.lookup (ofString "text") = none) (z9:L.lookup (ofString "list_of") = none) (z10:L.lookup (ofString "range_of") = none) (z11:L.lookup (ofString "thing") = none) (z12:L.lookup (ofString "is_error_class") = none)
    (n1:(x:Nat) ≠ d) (n2:(x:Nat) ≠ q5) (n3:(d:Nat) ≠ q5) (n4:(nat:Nat) ≠ d) (n5:(nat:Nat) ≠ q5) (n6:(q3:Nat) ≠ d) (n7:(q3:Nat) ≠ q5) (hon:on.IsDictOf (strKind PR w) []) (lon:(nat == sysModules) = false) (h3:Dict0 w q3 o3) (h5:Dict0 w q5 o5):Inv w ⟨x, d, q5, nat, q3, q4, on, o3, 0⟩ ⟨es, 14, 0, 8, false, o5, []⟩ []:=by
  have g:∀ {y v}, L.lookup y = v → getL y es = some v:=fun h=>(hF.get _).trans (congrArg some h)
  exact { ok:=⟨⟨t1, g p0⟩, ⟨t2, g p1⟩, g p2, g p3, g p4, g p5, g p6, g z0, g z1, g z2, g z3, g z4, g z5, g z6, g z7, g z8, g z9, g z10, g z11, g z12, Nat.le_trans hF.len (Nat.le_of_ble_eq_true rfl), Nat.zero_le _⟩, gt:=Gt.nil, n1:=n1, n2:=n2, n3:=n3, dict:=h5.2, lo:=h5.1,
            n4:=n4, n5:=n5, n6:=n6, n7:=n7, nat:=hon, lon:=lon, pre:=h3.2, lop:=h3.1, mods:=fun y v hy=>(by cases hy), cnt:=(by show ([]:List (Str × Value)).length + miss [] ≤ 13; decide +kernel) }
theorem some_of_hasn {x:String} {es:List DictEntry} (h:hasn x es) (y:Str):(getL y es).isSome = true:=by
  unfold hasn getL at h
  unfold getL
  split at h
  · cases h
  · rename_i hf
    split at h
    · cases h
    · rename_i hr
      split
      · rfl
      · rw [if_neg hr]; rfl
theorem Inv.ready {w:World} {c:Wc} {σ:Ws} {X:Led} {es1 es2:List DictEntry} {ne:Nat} {v:Value} (h:Inv w c σ X) (hmn:c.mn = 0) (P1:Put σ.es es1 (ofString "main") v) (P2:Put es1 es2 (ofString "is_ready") (.bool true)):Inv w { c with mn:=2 } { σ with es:=es2, ne:=ne, rd:=true } X:=by
  have g:∀ y, ofString "main" ≠ y → ofString "is_ready" ≠ y → getL y es2 = getL y σ.es:=fun y h1 h2=>(P2.other y h2).trans (P1.other y h1)
  have l3:=h.ok.len
  rw [hmn] at l3
  refine { ok:=WOk.keep (c':={ c with mn:=2 }) h.ok (fun y hy=>g y (ne_fix rfl hy) (ne_fix rfl hy)) ⟨rfl, rfl, rfl, rfl⟩ (h.ok.f_num.imp fun _ z=>(g _ (by decide +kernel) (by decide +kernel)).trans z) (h.ok.f_idn.imp fun _ z=>(g _ (by decide +kernel) (by decide +kernel)).trans z) P2.same (Nat.le_trans P2.len (Nat.succ_le_succ (Nat.le_trans P1.len (Nat.succ_le_succ l3)))) (Nat.le_of_ble_eq_true rfl), gt:=h.gt.wk, n1:=h.n1, n2:=h.n2, n3:=h.n3, dict:=h.dict, lo:=h.lo, n4:=h.n4, n5:=h.n5, n6:=h.n6, n7:=h.n7, nat:=h.nat, lon:=h.lon, pre:=h.pre, lop:=h.lop, mods:=h.mods, cnt:=h.cnt }
theorem str_is {w:World} {k:Str} {v:Value} (h:(PySem.strKind PR w).is k v = true):∃ t, v = .str k t:=by
  cases v with
  | str x t =>
    simp [PySem.strKind, Value.isStrOf] at h
    exact ⟨t, by first | rw [h] | rw [← h]⟩
  | _=>simp [PySem.strKind, Value.isStrOf] at h
theorem list_keys {w:World} {A:Around} {E:Value → Shared → Prop} {s:Shared} {h₀:Heap} {L d:Addr} {m:Str → Option Value} {news:Led} {o:Obj} {kvs:List (Str × Value)} {Q:Value → Shared → Prop} (hh:A.handled = none) (F:Fr h₀ L s.heap m) (N:News h₀ L s.heap news) (hm:(d, o) ∈ news) (hd:o.IsDictOf (strKind PR w) kvs) (lo:(d == sysModules) = false) (hz:kvs.length ≤ 100)
    (h:∀ (D:Addr) c h' tk (vs:List Value), Fr h₀ L h' m → News h₀ L h' ((D, listOf vs.toArray c) :: news) → (∀ q ∈ news, q.1 < D) → (∀ v ∈ vs, ∃ k x t, (k, x) ∈ kvs ∧ v = Value.str k t) → Q (.ref D) { s with heap:=h', toks:=tk }) :
    wpAny (model PR w) A (call (.type "list") [.ref d]) Q E s:=by
  refine byP fun _ q9=>?_
  obtain ⟨es, ep, h1, h2, h3, h4, h5⟩:=hd
  refine q9 ?_
  refine kdl_N (kdl_dict (knd:=PySem.strKind PR w) (kvs:=kvs) (ep:=ep) lo) hh F N ⟨o, es, (N _ hm).1, h1, h2, h3, h4, h5⟩ (by rw [sizeLine_eq]; lia) fun D c h' tk vs F' N' l' hl hv=>h D c h' tk vs F' N' l' fun v hvm=>?_
  refine byP fun _ q9=>?_
  obtain ⟨j, hj⟩:=List.mem_iff_getElem?.mp hvm
  obtain ⟨k, x, e, hk⟩:=hv j v hj
  obtain ⟨t, rfl⟩:=str_is hk
  refine q9 ?_
  exact ⟨k, x, t, List.mem_of_getElem? e, rfl⟩
theorem at_some {kvs:List (Str × Value)} {k:Str} {x:Value} (h:(k, x) ∈ kvs):∃ v, valueAt kvs k = some v:=by
  unfold valueAt
  cases hf:kvs.find? (fun kv=>decide (kv.1 = k)) with
  | some q=>exact ⟨_, rfl⟩
  | none =>
    rw [List.find?_eq_none] at hf
    exact absurd (by simp) (hf _ h)
theorem name_len:∀ x ∈ names, x.length ≤ 40:=by decide +kernel
section
variable {w mx} {b:Amb w mx} {m:Fm} {n:Led} {R:Value → Led → Prop} {K:Fm → Led → Prop} {rest:List Stmt}
theorem Ts.initI {o:PySem.Expr} {x C d:Addr} {f:Str} {i:Int} {es:List DictEntry} {k q:Nat} {l:Fm} {pos pos' p2:Pos} (hF:Fl es k l) (ho:Ev b m ((d, dictOf es k) :: n) o (.ref x)) (h1:(x, instObj C d) ∈ n) (hC:Cls w C) (hf:takerIn (K9 w.params) C f = some none) (off:∀ p ∈ n, p.1 ≠ d)
    (h:∀ t es', Fl es' (k + 1) ((f, .int i t) :: l) → Ts b m ((d, dictOf es' (k + 1)) :: n) rest R K) (hl:l.lookup f = none) (hz:Nat.ble k 99 = true):Ts b m ((d, dictOf es k) :: n) (.Assign [.Attribute o f pos'] (.Constant (.int i) q p2) pos :: rest) R K :=
  Ts.setattr (Tv.cint fun t=>ho _ (Tv.init h1 hC hf hF hl hz off (h t))) rfl
theorem Tv.keys {d:Addr} {o:Obj} {kvs:List (Str × Value)} {P:Value → Led → Prop} (hm:(d, o) ∈ n) (hd:o.IsDictOf (strKind PR w) kvs) (lo:(d == sysModules) = false) (hz:kvs.length ≤ 100) (h:∀ (D:Addr) c (vs:List Value), (∀ q ∈ n, q.1 < D) → (∀ v ∈ vs, ∃ k x t, (k, x) ∈ kvs ∧ v = Value.str k t) → P (.ref D) ((D, PySem.W.listOf vs.toArray c) :: n)):Tv b m n (call (.type "list") [.ref d]) P:=fun Q E h₁ tk F N ret =>
  list_keys rfl F N hm hd lo hz fun D c h' tk vs F' N' l' hv=>ret _ _ _ _ F' N' (h D c vs l' hv)
theorem Tv.wdput {c:Wc} {σ:Ws} {A:Led} {f:Str} {v:Value} {P:Unit → Led → Prop} (n1:(c.wa:Nat) ≠ c.wd) (n3:(c.wd:Nat) ≠ c.md) (n4:(c.nat:Nat) ≠ c.wd) (n6:(c.pre:Nat) ≠ c.wd) (hes:(getL f σ.es).isSome = true) (hz:σ.es.length ≤ 900) (hf:takerIn (K9 w.params) 681 f = some none) (hC:Cls w 681) (hg:Gt (Wk c σ) A) (h:∀ es' k', Put σ.es es' f v → P () (Wk c { σ with es:=es', ne:=k' } ++ A)):Tv b m (Wk c σ ++ A) (setAttr (.ref c.wa) f v) P:=fun Q E h₁ tk F N ret =>
  set_fld F b.X N (InstAt.of_news N (iL Wk.m0) (iL Wk.m1)) hC.a hC.p hf hC.d hes (wd_upd n1 n3 n4 n6 hg) hz fun h' es' n' F' N' P'=>ret _ _ _ _ F' N' (h es' n' P')
end
structure WNew (w:World) (l n:Led) (c:Wc) (σ:Ws) (X:Led) (o4:Obj):Prop where
  sub:∀ p ∈ Wk c σ ++ ((c.sy, o4) :: (l ++ X)), p ∈ n
  inv:Inv w c σ X
  gg:Gt (Wk c σ) ((c.sy, o4) :: (l ++ X))
  dict:o4.IsDictOf (strKind PR w) []
  lo:(c.sy == sysModules) = false
  ns:∀ p ∈ l ++ X, p.1 ≠ c.sy
  gX:Gt l X
  ob:∃ b, valueAt σ.kvs Ob = some (.ref b)
theorem world_new {w mx} {l:Led} {nat:Addr} {on:Obj} (hon:on.IsDictOf (strKind PR w) []) (lon:(nat == sysModules) = false) (hl:∀ p ∈ l, p.1 ≠ nat) :
    Does w mx 681 150 [.ref nat] ((nat, on) :: l) (fun r n' tl=>∃ c σ X o4, r = .ref c.wa ∧ n' = (nat, on) :: l ∧ WNew w l (n' ++ tl) c σ X o4):=by
  have hC:Cls w 681:=⟨by k_is, by k_is, by k_is⟩
  have F0:=Fl.nil
  refine Does.gen fun RG gR=>?_
  refine cls_enter (binds:=fun x'=>[(ofString "self", Value.ref x'), (ofString "natives", .ref nat), (ofString "prelude", .none), (ofString "read", .none), (ofString "most", .int 20000 979)]) (by k_is) (by k_is) (by k_is) (by k_is) (by k_is) (by first | exact fun x s X=>BindsTo.of_eq rfl | exact fun x s X=>binds_K X rfl (by k_is) rfl rfl rfl) (by exact fun x=>rfl) (by exact rfl) (by exact rfl) (by exact rfl) (by exact rfl) (by decide) (by exact fun x=>rfl) fun b m x d hm hcp hcs hcl hr l1 l2=>?_
  refine Ts.re new_turn ?_
  have hx:(x, instObj 681 d) ∈ (x, instObj 681 d) :: (nat, on) :: l:=iH
  have off:∀ p ∈ (x, instObj 681 d) :: (nat, on) :: l, p.1 ≠ d:=new_off l1 l2
  refine Ts.init ‹_› (by exact Ev.loc hm rfl Kx rfl) (by exact Ev.loc hm rfl Kx rfl) ‹_› ‹_› (by first | assumption | k_is) ‹_› (fun es1 F1=>?_) (by exact rfl) (by exact rfl) (by exact rfl); clear F0
  refine Ts.initN (by first | exact Tv.newD | exact Tv.newL | exact fun n P h=>Tv.ext (isN (by exact Ev.loc hm rfl Kx rfl)) (Tv.newD n P h)) ‹_› (by intro n; exact Ev.loc hm rfl Kx rfl) ‹_› ‹_› (by first | assumption | k_is) ‹_› (fun es2 n2 q3 o3 I3 l3 F2 s2 h2 off2 m3=>?_) (by exact rfl) (by exact rfl) (by exact rfl); clear F1
  refine Ts.init ‹_› (by exact Ev.loc hm rfl Kx rfl) (by exact Ev.loc hm rfl Kx rfl) ‹_› ‹_› (by first | assumption | k_is) ‹_› (fun es3 F3=>?_) (by exact rfl) (by exact rfl) (by exact rfl); clear F2
  refine Ts.init ‹_› (by exact Ev.loc hm rfl Kx rfl) (by exact Ev.loc hm rfl Kx rfl) ‹_› ‹_› (by first | assumption | k_is) ‹_› (fun es4 F4=>?_) (by exact rfl) (by exact rfl) (by exact rfl); clear F3
  refine Ts.initI ‹_› (by exact Ev.loc hm rfl Kx rfl) ‹_› ‹_› (by first | assumption | k_is) ‹_› (fun t5 es5 F5=>?_) (by exact rfl) (by exact rfl); clear F4
  refine Ts.initI ‹_› (by exact Ev.loc hm rfl Kx rfl) ‹_› ‹_› (by first | assumption | k_is) ‹_› (fun t6 es6 F6=>?_) (by exact rfl) (by exact rfl); clear F5
  refine Ts.initI ‹_› (by exact Ev.loc hm rfl Kx rfl) ‹_› ‹_› (by first | assumption | k_is) ‹_› (fun t7 es7 F7=>?_) (by exact rfl) (by exact rfl); clear F6
  refine Ts.initN (by first | exact Tv.newD | exact Tv.newL) ‹_› (by intro n; exact Ev.loc hm rfl Kx rfl) ‹_› ‹_› (by first | assumption | k_is) ‹_› (fun es8 n8 q4 o4 I4 l4 F8 s8 h8 off8 m4=>?_) (by exact rfl) (by exact rfl) (by exact rfl); clear F7
  refine Ts.initN (by first | exact Tv.newD | exact Tv.newL) ‹_› (by intro n; exact Ev.loc hm rfl Kx rfl) ‹_› ‹_› (by first | assumption | k_is) ‹_› (fun es9 n9 q5 o5 I5 l5 F9 s9 h9 off9 m5=>?_) (by exact rfl) (by exact rfl) (by exact rfl); clear F8
  refine Ts.initI ‹_› (by exact Ev.loc hm rfl Kx rfl) ‹_› ‹_› (by first | assumption | k_is) ‹_› (fun t10 es10 F10=>?_) (by exact rfl) (by exact rfl); clear F9
  refine Ts.initI ‹_› (by exact Ev.loc hm rfl Kx rfl) ‹_› ‹_› (by first | assumption | k_is) ‹_› (fun t11 es11 F11=>?_) (by exact rfl) (by exact rfl); clear F10
  refine Ts.initN (by first | exact Tv.newD | exact Tv.newL) ‹_› (by intro n; exact Ev.loc hm rfl Kx rfl) ‹_› ‹_› (by first | assumption | k_is) ‹_› (fun es12 n12 q6 o6 _ _ F12 s12 h12 off12 _=>?_) (by exact rfl) (by exact rfl) (by exact rfl); clear F11
  refine Ts.initN (by first | exact Tv.newD | exact Tv.newL) ‹_› (by intro n; exact Ev.loc hm rfl Kx rfl) ‹_› ‹_› (by first | assumption | k_is) ‹_› (fun es13 n13 q7 o7 _ _ F13 s13 h13 off13 _=>?_) (by exact rfl) (by exact rfl) (by exact rfl); clear F12
  refine Ts.init ‹_› Ev.bool (by exact Ev.loc hm rfl Kx rfl) ‹_› ‹_› (by first | assumption | k_is) ‹_› (fun es14 F14=>?_) (by exact rfl) (by exact rfl) (by exact rfl); clear F13
  have up:∀ p ∈ n9, p ∈ (d, dictOf es14 14) :: n13:=fun p h=>iC (s13 p (s12 p h))
  have u8:∀ p ∈ n8, p ∈ n9:=s9
  have u2:∀ p ∈ n2, p ∈ n8:=s8
  refine byP fun _ q9=>?_
  obtain ⟨c, σ, ewa, enat, eon, emn, I, g, gn, hsy, I4', sub⟩:∃ (c:Wc) (σ:Ws), c.wa = x ∧ c.nat = nat ∧ c.on = on ∧ c.mn = 0 ∧ Inv w c σ [] ∧ Gt (Wk c σ) ((c.sy, o4) :: l) ∧ (∀ q ∈ [(c.nat:Nat)], (q ≠ c.wa ∧ q ≠ c.pre ∧ q ≠ c.sy)) ∧ (∀ p ∈ l, p.1 ≠ c.sy) ∧ Dict0 w c.sy o4 ∧ (∀ p ∈ Wk c σ ++ ([] ++ ((c.sy, o4) :: l)), p ∈ (d, dictOf es14 14) :: n13):=by
    have m0:=s2 _ (iC iH)
    have ml:∀ p ∈ l, p ∈ n2:=fun p hp=>s2 p (iC (iC hp))
    refine ⟨⟨x, d, q5, nat, q3, q4, on, o3, 0⟩, ⟨es14, 14, 0, 8, false, o5, []⟩, rfl, rfl, rfl, rfl, world_start F14 rfl rfl rfl rfl rfl rfl rfl rfl rfl rfl rfl rfl rfl rfl rfl rfl rfl rfl rfl rfl (Nat.ne_of_gt l2) (Nat.ne_of_lt (l5 _ h8)) (Ne.symm (off9 _ m5)) (Nat.ne_of_lt (l1 _ iH)) (Nat.ne_of_lt (l5 _ (u2 _ m0))) (off2 _ m3) (Nat.ne_of_lt (l5 _ (u2 _ m3))) hon lon I3 I5, ?g, ?gn, ?hsy, I4, ?sub⟩
    case gn=>exact fun q hq=>by rw [List.mem_singleton.mp hq]; exact ⟨Nat.ne_of_lt (Nat.lt_trans (l1 _ iH) l2), Nat.ne_of_lt (l3 _ (iC iH)), Nat.ne_of_lt (l4 _ m0)⟩
    case hsy=>exact fun p hp=>Nat.ne_of_lt (l4 p (ml p hp))
    case g =>
      refine Gt.cons ?_ ?_
      · intro q hq
        simp only [Wk, List.mem_cons, List.not_mem_nil, or_false] at hq
        rcases hq with rfl | rfl | rfl | rfl | rfl
        · exact Nat.ne_of_lt (l4 _ h2)
        · exact Ne.symm (off8 _ m4)
        · exact Nat.ne_of_gt (l5 _ m4)
        · exact Nat.ne_of_lt (l4 _ m0)
        · exact Nat.ne_of_lt (l4 _ m3)
      · intro q hq p hp
        have h1:=l1 p (iC hp)
        simp only [Wk, List.mem_cons, List.not_mem_nil, or_false] at hq
        rcases hq with rfl | rfl | rfl | rfl | rfl
        · exact Nat.ne_of_gt (Nat.lt_trans h1 l2)
        · exact Nat.ne_of_gt h1
        · exact Nat.ne_of_gt (l5 p (u2 p (ml p hp)))
        · exact Ne.symm (hl p hp)
        · exact Nat.ne_of_gt (l3 p (iC (iC hp)))
    case sub =>
      refine all_app ?_ (all_more (up _ (u8 _ m4)) fun p hp=>up p (u8 p (u2 p (ml p hp))))
      exact all_more (up _ (u8 _ h8)) (all_more iH (all_more (up _ m5) (all_more (up _ (u8 _ (u2 _ m0))) (all_one (up _ (u8 _ (u2 _ m3)))))))
  refine q9 ?_
  subst ewa
  subst enat
  subst eon
  refine Ts.re sub ?_
  clear sub up u8 u2 F14 h2 h8 h9 h12 h13 off2 off8 off9 off12 off13 s2 s8 s9 s12 s13 m3 m4 m5 I3 I4 I5 l3 l4 l5
  have W:=Wi.start (rest:=(c.sy, o4) :: l) I (fun _ h=>nomatch h) g
  have se:∀ {A p}, Ev b m A (.Name (ofString "self") p) (.ref c.wa):=by exact Ev.loc hm rfl Kx rfl
  refine Ts.setattr (Tv.callee ((show ∀ p, Ev b m _ (.Name (ofString "Thing") p) (.ref 40) from fun p=>by exact Ev.glob (by k_is) Kx rfl) _ _ (Tv.with1 (by k_is) (Tv.newargs W hr se (by decide +kernel) (fun t σ2 tl bo W2 hn hv=>Tv.args0 (Tv.doesT thing_new hr (fun r n' tl z9=>by refine byP fun _ q9=>?_; obtain ⟨_, _, _, _, e, _⟩:=z9; exact q9 (e)) (fun r t2 g2 z9=>?_) (by decide))) (by decide) rfl rfl) rfl rfl)) rfl) rfl
  refine byP fun _ q9=>?_
  obtain ⟨a, d', es, e1, _⟩:=z9
  refine q9 ?_
  subst e1
  have I2:=W2.inv
  have hz:=I2.ok.len
  have hmb:=I2.ok.mnb
  refine Tv.re (k:=Wk c σ2 ++ ([] ++ (((c.sy, o4) :: l) ++ tl))) (fun p hp=>iL hp) (se _ (Tv.wdput I2.n1 I2.n3 I2.n4 I2.n6 (some_of_hasn I2.ok.n_number _) (by lia) (by k_is) hC W2.gw fun es12 k12 P12=>?_))
  have hz12:=P12.len
  refine Ts.setattr (Ev.bool _ (se _ (Tv.wdput (σ:={ σ2 with es:=es12, ne:=k12 }) I2.n1 I2.n3 I2.n4 I2.n6 (isSome_get ((P12.other _ (by decide +kernel)).trans I2.ok.f_rd)) (by show es12.length ≤ 900; lia) (by k_is) hC W2.gw.wkl fun es13 k13 P13=>?_))) rfl
  have I13:Inv w { c with mn:=2 } { σ2 with es:=es13, ne:=k13, rd:=true } tl:=I2.ready emn P12 P13
  refine byP fun _ q9=>?_
  obtain ⟨σ', hσ, hk'⟩:∃ σ':Ws, Wk c { { σ2 with es:=es12, ne:=k12 } with es:=es13, ne:=k13 } = Wk { c with mn:=2 } σ' ∧ Inv w { c with mn:=2 } σ' tl ∧ valueAt σ'.kvs Ob = some (.ref bo):=⟨_, rfl, I13, hv⟩
  obtain ⟨I', hv'⟩:=hk'
  refine q9 ?_
  have g13:Gt (Wk { c with mn:=2 } σ') (((c.sy, o4) :: l) ++ tl):=hσ ▸ W2.gw.wkl
  have gtl:=W2.gt
  rw [hσ]
  clear I13 P12 P13 hσ hz12 hz hmb hv
  have W':=Wi.start I' (fun p hp=>List.mem_append_right ((c.sy, o4) :: l) hp) g13
  have hcnt:=I'.cnt
  refine Ts.forX hcp (Tv.callee (Tv.blt (show nsIn (K9 w.params) mainGlobals (ofString "list") = some none by k_is) (by k_dflt boot_fast) (by decide) (Tv.witht (Tv.args1 (Ev.wf (k:={ c with mn:=2 }) (attr:=none) se ⟨by k_is, by k_is, by k_is, by k_is⟩ I'.ok.f_md rfl rfl _ (Tv.args0 (Tv.keys (iL Wk.m2) I'.dict I'.lo (by lia) fun D q vs hD hvs=>⟨D, vs, q, fun i m' n'=>(∀ p ∈ (D, listOf vs.toArray q) :: (Wk { c with mn:=2 } σ' ++ ([] ++ (((c.sy, o4) :: l) ++ tl))), p ∈ n') ∧ m'.lookup (ofString "self") = some (.ref c.wa), rfl, ⟨fun p hp=>hp, look hm rfl⟩, fun i m' n' h=>h.1 _ iH, ?step, ?fin⟩))) rfl) rfl rfl) Kx rfl) rfl) (fun _=>rfl)
  case step =>
    intro i v m' n' heads hv hj off
    refine byP fun _ q9=>?_
    obtain ⟨k, x, tt, hkx, rfl⟩:=hvs v (List.mem_of_getElem? hv)
    obtain ⟨u, hu'⟩:=at_some hkx
    refine q9 ?_
    have hkl:=name_len k (I'.mods k u hu').1
    have hh:Gt (heads ++ [(D, listOf vs.toArray q)]) (Wk { c with mn:=2 } σ' ++ ([] ++ (((c.sy, o4) :: l) ++ tl))):=Gt.appl (fun q hq p hp=>Ne.symm (off q hq p (hj.1 p (iC hp)))) fun q hq p hp=>by rw [List.mem_singleton.mp hq]; exact Nat.ne_of_gt (hD p hp)
    refine Ta.name Kx (Ts.re (k:=(heads ++ [(D, listOf vs.toArray q)]) ++ (Wk { c with mn:=2 } σ' ++ ([] ++ (((c.sy, o4) :: l) ++ tl)))) (fun p hp=>?_) ?_)
    · rw [List.append_assoc] at hp
      exact (List.mem_append.mp hp).elim (iL) fun h=>iR (hj.1 p h)
    refine Ts.expr (Tv.wm1 (k:={ c with mn:=2 }) (Ev.name (m:=(ofString "name", .str k tt) :: m') hj.2 Kx rfl) wm_own I'.ok.n_own (by k_is) (Evs.cons (Ev.name (m:=(ofString "name", .str k tt) :: m') rfl Kx rfl) Evs.nil rfl) (Tv.wih0 (k:={ c with mn:=2 }) (give_own_ok (W'.inv) hkl) (fun r σ' tl hP=>hP.2.2) W' hh hr (fun r σ3 W3 E3 _ hP=>?_) (by decide)) rfl rfl rfl) hcp rfl
    obtain ⟨_, rfl, _⟩:=hP
    exact Ts.nil ⟨(D, listOf vs.toArray q) :: (Wk { c with mn:=2 } σ3 ++ ([] ++ (((c.sy, o4) :: l) ++ tl))), fun p hp=>by rw [List.append_assoc]; exact hp, fun q hq p hp=>off q hq p (hj.1 p hp), fun p hp=>hp, hj.2⟩
  case fin =>
    intro m' n' hj
    have sn:=fun p hp=>hj.1 p (iC hp)
    have gw:Gt (Wk c σ') (((c.sy, o4) :: l) ++ tl):=g13
    have gn':=gn _ iH
    have lw:∀ {a:Addr} {o:Obj}, (a, o) ∈ Wk c σ' → ∀ q ∈ l, (q.1:Nat) ≠ a:=fun h q hq=>Ne.symm (gw _ h q (iL (iC hq)))
    have gt:Gt ((c.nat, c.on) :: l) tl:=fun q hq=>(List.mem_cons.mp hq).elim (fun e=>e ▸ gtl _ (iL Wk.m3)) fun h=>gtl q (iR (iC h))
    have sw:∀ p ∈ Wk c σ', p ∈ n':=fun p hp=>sn p (iL hp)
    refine Ts.nil ⟨(c.nat, c.on) :: l, (c.wa, instObj 681 c.wd) :: (c.wd, dictOf σ'.es σ'.ne) :: (c.md, σ'.om) :: (c.pre, c.op) :: (c.sy, o4) :: tl,
      all_app (all_more (sw _ Wk.m3) fun p hp=>sn p (List.mem_append_right (Wk c σ') (List.mem_append_left tl (iC hp)))) (all_more (sw _ Wk.m0) (all_more (sw _ Wk.m1) (all_more (sw _ Wk.m2) (all_more (sw _ Wk.m4) (all_more (sn _ (List.mem_append_right (Wk c σ') (List.mem_append_left tl iH))) fun p hp=>sn p (List.mem_append_right (Wk c σ') (List.mem_append_right ((c.sy, o4) :: l) hp))))))),
      Gt.cons (Ne1.cons gn'.1 (lw Wk.m0)) (Gt.cons (Ne1.cons I'.n4 (lw Wk.m1)) (Gt.cons (Ne1.cons I'.n5 (lw Wk.m2)) (Gt.cons (Ne1.cons gn'.2.1 (lw Wk.m4)) (Gt.cons (Ne1.cons gn'.2.2 hsy) gt)))),
      gR _ _ _ ⟨{ c with mn:=2 }, σ', tl, o4, rfl, rfl, ?_, I', g13, I4'.2, I4'.1, fun p hp=>(List.mem_append.mp hp).elim (hsy p) fun h=>Ne.symm (gtl (c.sy, o4) (iR iH) p h), fun q hq=>gt q (iC hq), bo, hv'⟩⟩
    have rt:∀ {p} {T:Led}, p ∈ T → p ∈ ((c.nat, c.on) :: l) ++ T:=fun h=>iR h
    exact all_app (all_more (rt iH) (all_more (rt (iC iH)) (all_more (rt (iC (iC iH))) (all_more (iL iH) (all_one (rt (iC (iC (iC iH)))))))))
      (all_more (rt (iC (iC (iC (iC iH))))) (all_app (fun p hp=>iL (iC hp)) fun p hp=>rt (iC (iC (iC (iC (iC hp)))))))
section
variable {w mx} {b:Amb w mx} {m:Fm} {n:Led}
theorem f_rows {w:World}:FieldOk w 120 (ofString "rows") none:=⟨by k_is, by k_is, by k_is, by k_is⟩
open Classical in
theorem Tv.rget {e0 e1:Expr} {rd:Addr} {ro:Obj} {xs:List (Cd × Addr × Value)} {c:Cd} {p2 p3:Pos} {dn:Nat} {P:Value → Led → Prop} {pl:Sem Bool} (h0:Ev b m n e0 (.ref rd)) (hm:(rd, ro) ∈ n) (R:RowsOf w ro xs) (lo:(rd == sysModules) = false) (fc:c.Fits) (dc:c.dep ≤ 3) (hr:b.Room dn) (h9:9 < dn)
    (h:Tv b m n (eval e1 b.env) fun v n'=>(rd, ro) ∈ n' ∧ KeysIn n' xs ∧ DatIn n' v c.dat ∧ P (((atKey xs c).map (·.2)).getD .none) n')
    (he:eval (Expr.Call (.Attribute e0 (ofString "get") p2) [e1] [] p3) b.env = (do let ov ← eval e0 b.env; standAt (Pos.atName p2); let x ← holding [ov] (getMethod ov (ofString "get") pl); match x with | (g, first)=>callWith p3 g first (backTo p3 (starEach [e1] b.env)) []))
    (hs:starEach [e1] b.env = (false, eval e1 b.env) :: starEach [] b.env):Tv b m n (eval (.Call (.Attribute e0 (ofString "get") p2) [e1] [] p3) b.env) P :=
  Tv.meth (h0 _ fun Q E h₁ tk F N ret=>rows_method N hm R (ret (.builtin "dict.get", [.ref rd]) _ _ _ F N (Tv.withm1 (Tv.args1 (h.mono fun v n' q=>Tv.args0 (by
    refine byP fun _ q9=>?_
    obtain ⟨hm, K, hD, hP⟩:=q
    obtain ⟨a, e⟩:=dat_ref hD
    refine q9 ?_
    subst e
    exact fun Q E h₁ tk F N ret=>rows_get N hm R K lo hD fc dc (Nat.lt_of_le_of_lt (show b.un + 65 ≤ b.un + 72 from Nat.add_le_add_left (by decide) _) (hr 9 h9).2) (ret _ _ _ _ F N hP))) hs) hs rfl))) he
end
theorem row_ok {w mx} {rest:Led} {ta td rd:Addr} {ro:Obj} {es:List DictEntry} {n:Nat} {xs:List (Cd × Addr × Value)} {key:Value} {c₁:Cd} {dn:Nat} (m1:(ta, instObj 120 td) ∈ rest) (m2:(td, dictOf es n) ∈ rest) (hr:has "rows" es (.ref rd)) (lo:(rd == sysModules) = false) (R:RowsOf w ro xs) (K:KeysIn rest xs) (C1:CV w mx rest key dn c₁) (f1:c₁.Fits) (d1:c₁.dep ≤ 3) (h64:10 ≤ dn):Does w mx 112 (dn + 4) [.ref ta, key] ((rd, ro) :: rest) (fun r n' tl=>r = ((open Classical in atKey xs c₁).map (·.2)).getD .none ∧ n' = (rd, ro) :: rest):=by
  refine does_enter (bm:=[(ofString "key", key), (ofString "self", .ref ta)]) (by k_is) (by k_is) (by first | exact fun s X=>BindsTo.of_eq rfl | exact fun s X=>binds_K X rfl (by k_is) rfl rfl rfl) (by exact rfl) (by exact rfl) (by exact rfl) (by exact rfl) (by exact rfl) (by first | decide | lia) (by exact rfl) fun b m hm hcp hcs hcl hr9=>?_
  have ec:∀ {A p}, Ev b m A (.Name (ofString "code_of") p) (.ref 250):=by exact Ev.glob (by k_is) Kx rfl
  have es:∀ {A p}, Ev b m A (.Name (ofString "self") p) (.ref ta):=by exact Ev.loc hm rfl Kx rfl
  have ek:∀ {A p}, Ev b m A (.Name (ofString "key") p) key:=by exact Ev.loc hm rfl Kx rfl
  refine Ts.ret (Tv.rget (Ev.attr es (.tail _ m1) (.tail _ m2) f_rows hr rfl rfl) (.head _) R lo f1 d1 hr9 (Nat.lt_of_lt_of_le (by decide) (Nat.add_le_add_right h64 4)) (Tv.gcall ec (by k_is) (Evs.cons ek Evs.nil rfl) (Tv.does (C1 _ fun p hp=>.tail _ hp) hr9 (fun r n' tl g q=>?_) (Nat.lt_add_of_pos_right (by decide))) rfl rfl) rfl rfl)
  rw [q.1]
  exact ⟨iL (.head _), K.mono fun p hp=>iL (.tail _ hp), q.2.mono fun p hp=>iR hp, Owes.sub (fun p hp=>iL hp) ⟨rfl, rfl⟩⟩
theorem put_new {w mx} {rest:Led} {i:Int} {ti:Tok} {ta td rd:Addr} {ro:Obj} {es:List DictEntry} {n:Nat} {xs:List (Cd × Addr × Value)} {key:Value} {c₁:Cd} {dn:Nat} (m1:(ta, instObj 120 td) ∈ rest) (m2:(td, dictOf es n) ∈ rest) (hr:has "rows" es (.ref rd)) (lo:(rd == sysModules) = false) (R:RowsOf w ro xs) (K:KeysIn rest xs) (C1:CV w mx rest key dn c₁) (f1:c₁.Fits) (d1:c₁.dep ≤ 3) (h64:10 ≤ dn) (hn:(open Classical in atKey xs c₁) = none) (hz:xs.length ≤ 100) (hnr:∀ p ∈ rest, p.1 ≠ rd):Does w mx 105 (dn + 4) [.ref ta, key, .int i ti] ((rd, ro) :: rest) (fun r n' tl=>r = .none ∧ ∃ ro' a la t2, n' = (rd, ro') :: rest ∧ RowsOf w ro' (xs ++ [(c₁, a, .ref la)]) ∧ DatIn t2 (.ref a) c₁.dat ∧ tl = (la, listOf [key, .int i ti].toArray 0) :: t2 ∧ ∀ p ∈ t2, @Ne Nat p.1 la):=by
  refine does_enter (bm:=[(ofString "value", .int i ti), (ofString "key", key), (ofString "self", .ref ta)]) (by k_is) (by k_is) (by first | exact fun s X=>BindsTo.of_eq rfl | exact fun s X=>binds_K X rfl (by k_is) rfl rfl rfl) (by exact rfl) (by exact rfl) (by exact rfl) (by exact rfl) (by exact rfl) (by first | decide | lia) (by exact rfl) fun b m hm hcp hcs hcl hr9=>?_
  have ec:∀ {A p}, Ev b m A (.Name (ofString "code_of") p) (.ref 250):=by exact Ev.glob (by k_is) Kx rfl
  have ek:∀ {A p}, Ev b m A (.Name (ofString "key") p) key:=by exact Ev.loc hm rfl Kx rfl
  have h9:9 < dn + 4:=Nat.lt_of_lt_of_le (by decide) (Nat.add_le_add_right h64 4)
  refine Ts.assign hm (Tv.gcall ec (by k_is) (Evs.cons ek Evs.nil rfl) (Tv.does (C1 _ fun p hp=>.tail _ hp) hr9 (fun r n' tl g q m1' hm1=>?_) (Nat.lt_add_of_pos_right (by decide))) rfl rfl) Kx rfl
  obtain ⟨e, hD⟩:=q
  subst e
  have es1:∀ {A p}, Ev b m1' A (.Name (ofString "self") p) (.ref ta):=by exact Ev.loc hm1 rfl Kx rfl
  have eo1:∀ {A p}, Ev b m1' A (.Name (ofString "code") p) r:=by exact Ev.loc hm1 rfl Kx rfl
  have rw1:∀ {A p p2}, (∀ q ∈ ((rd, ro) :: rest) ++ tl, q ∈ A) → Ev b m1' A (.Attribute (.Name (ofString "self") p) (ofString "rows") p2) (.ref rd):=fun s=>Ev.attr es1 (s _ (iL (.tail _ m1))) (s _ (iL (.tail _ m2))) f_rows hr rfl rfl
  refine Ts.assign hm1 (Tv.rget (rw1 fun _ h=>h) (iL (.head _)) R lo f1 d1 hr9 h9 (eo1 _ ⟨iL (.head _), K.mono fun p hp=>iL (.tail _ hp), hD.mono fun p hp=>iR hp, fun m2' hm2=>?_⟩) rfl rfl) Kx rfl
  rw [hn] at hm2
  have er2:∀ {A p}, Ev b m2' A (.Name (ofString "row") p) .none:=by exact Ev.loc hm2 rfl Kx rfl
  have eo2:∀ {A p}, Ev b m2' A (.Name (ofString "code") p) r:=by exact Ev.loc hm2 rfl Kx rfl
  have es2:∀ {A p}, Ev b m2' A (.Name (ofString "self") p) (.ref ta):=by exact Ev.loc hm2 rfl Kx rfl
  have ek2:∀ {A p}, Ev b m2' A (.Name (ofString "key") p) key:=by exact Ev.loc hm2 rfl Kx rfl
  have ev2:∀ {A p}, Ev b m2' A (.Name (ofString "value") p) (.int i ti):=by exact Ev.loc hm2 rfl Kx rfl
  clear rw1 es1 eo1 ek ec
  refine Ts.ift (isN er2) (Ts.setitem (Tv.listx (Tv.args1 (ek2 _ (Tv.args1 (ev2 _ (Tv.args0 (Tv.list (fun la hla=>Ev.attr es2 (.tail _ (iL (.tail _ m1))) (.tail _ (iL (.tail _ m2))) f_rows hr rfl rfl _ (eo2 _ ?_)) (Nat.le_of_ble_eq_true rfl)))) rfl)) rfl)) rfl)
  obtain ⟨a2, e⟩:=dat_ref hD
  subst e
  have nla:(rd:Nat) ≠ la:=Nat.ne_of_lt (hla (rd, ro) (.head _))
  have off:∀ p ∈ rest ++ tl, p.1 ≠ rd:=fun p hp=>(List.mem_append.mp hp).elim (hnr p) fun h=>Ne.symm (g (rd, ro) (.head _) p h)
  have sk:∀ {A:Led}, (∀ p ∈ rest, p ∈ A) → KeysIn A xs:=fun s=>K.mono s
  refine fun Q E h₁ tk F N ret=>rows_set (xs:=xs) (c:=c₁) F N (UpdF.tail (p:=(la, listOf [key, .int i ti].toArray 0)) (Ne.symm nla) (.head off)) R (K.mono fun p hp=>.tail _ (.tail _ (iL hp))) (hD.mono fun p hp=>.tail _ (.tail _ (iR hp))) f1 d1 (Nat.lt_of_le_of_lt (show b.un + 65 ≤ b.un + 72 from Nat.add_le_add_left (by decide) _) (hr9 9 h9).2) (Nat.le_trans hz (by decide)) fun h5 ro5 F5 N5 R5=>ret _ _ _ _ F5 N5 (Ts.nil (Ts.nil ⟨(rd, ro5) :: rest, (la, listOf [key, .int i ti].toArray 0) :: tl, ?_, Gt.cons (fun q hq=>Nat.ne_of_lt (hla q ((List.mem_cons.mp hq).elim (fun e=>e ▸ .head _) (fun h=>.tail _ (iL h))))) (fun q hq p hp=>(List.mem_cons.mp hq).elim (fun e=>e ▸ g (rd, ro) (.head _) p hp) fun h=>g q (.tail _ h) p hp), rfl, ro5, a2, la, tl, rfl, ?_, hD, rfl, fun p hp=>Nat.ne_of_lt (hla p (.tail _ (iR hp)))⟩))
  · exact all_more (.tail _ (.head _)) (all_app (fun p hp=>.tail _ (.tail _ (iL hp))) (all_more (.head _) fun p hp=>.tail _ (.tail _ (iR hp))))
  · open Classical in rw [storedH_new hn] at R5
    exact R5
theorem put_old {w mx} {rest:Led} {i:Int} {ti:Tok} {la a0:Addr} {k0 v0:Value} {nl:Nat} {ta td rd:Addr} {ro:Obj} {es:List DictEntry} {n:Nat} {xs:List (Cd × Addr × Value)} {key:Value} {c₁:Cd} {dn:Nat} (m1:(ta, instObj 120 td) ∈ rest) (m2:(td, dictOf es n) ∈ rest) (hr:has "rows" es (.ref rd)) (lo:(rd == sysModules) = false) (R:RowsOf w ro xs) (K:KeysIn rest xs) (C1:CV w mx rest key dn c₁) (f1:c₁.Fits) (d1:c₁.dep ≤ 3) (h64:10 ≤ dn) (hn:(open Classical in atKey xs c₁) = some (a0, .ref la)) (hnr:∀ p ∈ rest, p.1 ≠ la) (hne:(rd:Nat) ≠ la):Does w mx 105 (dn + 4) [.ref ta, key, .int i ti] ((rd, ro) :: (la, listOf [k0, v0].toArray nl) :: rest) (fun r n' tl=>r = .none ∧ ∃ n9, n' = (rd, ro) :: (la, listOf [k0, .int i ti].toArray n9) :: rest):=by
  refine does_enter (bm:=[(ofString "value", .int i ti), (ofString "key", key), (ofString "self", .ref ta)]) (by k_is) (by k_is) (by first | exact fun s X=>BindsTo.of_eq rfl | exact fun s X=>binds_K X rfl (by k_is) rfl rfl rfl) (by exact rfl) (by exact rfl) (by exact rfl) (by exact rfl) (by exact rfl) (by first | decide | lia) (by exact rfl) fun b m hm hcp hcs hcl hr9=>?_
  have ec:∀ {A p}, Ev b m A (.Name (ofString "code_of") p) (.ref 250):=by exact Ev.glob (by k_is) Kx rfl
  have ek:∀ {A p}, Ev b m A (.Name (ofString "key") p) key:=by exact Ev.loc hm rfl Kx rfl
  have h9:9 < dn + 4:=Nat.lt_of_lt_of_le (by decide) (Nat.add_le_add_right h64 4)
  refine Ts.assign hm (Tv.gcall ec (by k_is) (Evs.cons ek Evs.nil rfl) (Tv.does (C1 _ fun p hp=>.tail _ (.tail _ hp)) hr9 (fun r n' tl g q m1' hm1=>?_) (Nat.lt_add_of_pos_right (by decide))) rfl rfl) Kx rfl
  obtain ⟨e, hD⟩:=q
  subst e
  have es1:∀ {A p}, Ev b m1' A (.Name (ofString "self") p) (.ref ta):=by exact Ev.loc hm1 rfl Kx rfl
  have eo1:∀ {A p}, Ev b m1' A (.Name (ofString "code") p) r:=by exact Ev.loc hm1 rfl Kx rfl
  refine Ts.assign hm1 (Tv.rget (Ev.attr es1 (iL (.tail _ (.tail _ m1))) (iL (.tail _ (.tail _ m2))) f_rows hr rfl rfl) (iL (.head _)) R lo f1 d1 hr9 h9 (eo1 _ ⟨iL (.head _), K.mono fun p hp=>iL (.tail _ (.tail _ hp)), hD.mono fun p hp=>iR hp, fun m2' hm2=>?_⟩) rfl rfl) Kx rfl
  rw [hn] at hm2
  have er2:∀ {A p}, Ev b m2' A (.Name (ofString "row") p) (.ref la):=by exact Ev.loc hm2 rfl Kx rfl
  have ev2:∀ {A p}, Ev b m2' A (.Name (ofString "value") p) (.int i ti):=by exact Ev.loc hm2 rfl Kx rfl
  refine Ts.iff (isNr er2) (Ts.setitem (ev2 _ (er2 _ (Tv.cint fun t1=>Tv.setI (vs:=[k0, v0]) (us:=[k0, .int i ti]) (q:=nl) (l:=(rd, ro) :: (rest ++ tl)) ?_ ?_ ⟨by decide, by decide⟩ rfl (Ts.nil (Ts.nil ⟨(rd, ro) :: (la, listOf [k0, .int i ti].toArray nl) :: rest, tl, ?_, fun q hq p hp=>?_, rfl, nl, rfl⟩))))) rfl)
  · exact all_more (.tail _ (.head _)) (all_more (.head _) (all_app (fun p hp=>.tail _ (.tail _ (iL hp))) fun p hp=>.tail _ (.tail _ (iR hp))))
  · exact all_more hne (all_app hnr fun p hp=>Ne.symm (g (la, listOf [k0, v0].toArray nl) (.tail _ (.head _)) p hp))
  · exact all_more (.tail _ (.head _)) (all_more (.head _) (all_app (fun p hp=>.tail _ (.tail _ (iL hp))) fun p hp=>.tail _ (.tail _ (iR hp))))
  · rcases List.mem_cons.mp hq with e | hq
    · exact e ▸ g _ (.head _) p hp
    · rcases List.mem_cons.mp hq with e | hq
      · exact e ▸ g (la, listOf [k0, v0].toArray nl) (.tail _ (.head _)) p hp
      · exact g q (.tail _ (.tail _ hq)) p hp
noncomputable def RawD (h:Heap) (d:Addr) (es:Array DictEntry) (ep:Nat):Prop:=∃ o, h.get? d = some o ∧ o.cls = .type "dict" ∧ o.data = .dict es ep
theorem RawD.at {h h':Heap} {d:Addr} {es:Array DictEntry} {ep:Nat} (x:RawD h d es ep) (e:∀ o, h.get? d = some o → h'.get? d = some o):RawD h' d es ep:=let ⟨o, ho, r⟩:=x; ⟨o, e _ ho, r⟩
section
variable {prog:Program} {w:World} {A:Around} {E:Value → Shared → Prop} {s:Shared}
theorem raw_values {d:Addr} {es:Array DictEntry} {ep:Nat} (hd:(d == sysModules) = false) :
    MeetsIn prog w (Builtin.«dict.values» ⟨[.ref d], []⟩) (fun _ R s=>RawD s.heap d es ep ∧ R (.ok (.ret (.ref s.heap.objs.size))) { s with heap:=s.heap.push { cls:=.type "dict_values", data:=.fields #[.ref d] } }) :=
  .of_wp fun A R s ⟨⟨o, ho, hc, _⟩, h⟩=>by
    have hT:s.TypeIs (.ref d) "dict":=⟨o, ho, hc⟩
    refine wpAny_bind ?_
    unfold Builtin.Dict.noArgs
    refine wpAny_bind (wpAny_notOrdered_dict hT ?_)
    show wpAny _ _ (pure d) _ _ s
    refine wpAny_pure ?_
    show wpAny _ _ (Builtin.Dict.showsAll d >>= _) _ _ s
    unfold Builtin.Dict.showsAll
    rw [if_neg (by simp [hd])]
    exact wpAny_bind (wpAny_pure (wpAny_bind (wpAny_newObj_type (wpAny_pure ⟨_, rfl, h⟩))))
theorem raw_iter {v d:Addr} {es:Array DictEntry} {ep:Nat} {Q:Value → Shared → Prop} (hv:s.heap.IsValuesView v d) (hm:RawD s.heap d es ep)
    (hQ:Q (.ref s.heap.objs.size) { s with heap:=s.heap.push { cls:=.type "dict_valueiterator", data:=.fields #[.ref d, .int 0 0, .int es.size 0, .int ep 0] } }) :
    wpAny (model prog w) A (pyIter (.ref v)) Q E s:=by
  refine byP fun _ q9=>?_
  obtain ⟨ov, hov, hcv, hdv⟩:=id hv
  obtain ⟨o, ho, hc, hdat⟩:=id hm
  refine q9 ?_
  refine wpAny_pyIter_slot hv.typeIs F.slot_dict_values_iter (wpAny_call_entry F.slot_dict_values_iter hv.typeIs F.entry_dict_values_iter ?_ (F.args_dict_values_iter_1 _))
  unfold Builtin.«dict_values.__iter__» Builtin.Dict_items.dictOf Builtin.Dict_items.newIterator
  refine wpAny_bind (wpAny_pure (wpAny_bind (wpAny_bind (wpAny_field hov hdv (x:=.ref d) rfl (wpAny_pure ?_)))))
  refine wpAny_bind (wpAny_bind (wpAny_dictEntries ho hdat (wpAny_bind (wpAny_dictEpoch ho hdat ?_))))
  have hown:Builtin.Dict_items.ownsTuple "dict_valueiterator" = false:=by decide
  simp only [hown, Bool.false_eq_true, if_false]
  refine wpAny_newObj_type (wpAny_pure ⟨_, rfl, "dict_valueiterator", _, ⟨_, Heap.get?_push_size _ rfl, rfl⟩, F.slot_dict_valueiterator_next.lookup, ?_⟩)
  simpa [rawInt] using hQ
theorem raw_next {it d:Addr} {i ep:Nat} {es:Array DictEntry} {v:Value} {Q:Option Value → Shared → Prop} (hit:s.heap.IsValIter it d i es.size ep) (hm:RawD s.heap d es ep) (hx:(es[i]?).map (·.val) = some v)
    (hQ:∀ h', h'.IsValIter it d (i + 1) es.size ep → Heap.SameBut it s.heap h' → Q (some v) { s with heap:=h' }) :
    wpAny (model prog w) A (pyNext (.ref it)) Q E s:=by
  refine byP fun _ q9=>?_
  obtain ⟨o, ho, hc, hd⟩:=id hit
  obtain ⟨od, hod, hcd, hdd⟩:=id hm
  refine q9 ?_
  have hlt:i < es.size:=by
    rcases Nat.lt_or_ge i es.size with h | h
    · exact h
    · simp [Array.getElem?_eq_none h] at hx
  have hval:es[i].val = v:=by simpa [Array.getElem?_eq_getElem hlt] using hx
  have hown:Builtin.Dict_items.ownsTuple "dict_valueiterator" = false:=by decide
  unfold pyNext
  refine wpAny_bind (wpAny_attempt (wpAny_callSpecial?_slot (name:=ofString "__next__") hit.typeIs F.slot_dict_valueiterator_next
    (wpAny_call_entry F.slot_dict_valueiterator_next hit.typeIs F.entry_dict_valueiterator_next ?_ (F.args_dict_valueiterator_next_1 _))))
  refine wpAny_bind (wpAny_pure (wpAny_bind (wpAny_bind ?_)))
  first | refine wpAny_bind (wpAny_typeNameOfWhole_valiter hit.typeIs (wpAny_pure ?_)) | refine wpAny_bind (wpAny_typeNameOf_valiter hit.typeIs (wpAny_pure ?_))
  refine wpAny_bind (wpAny_fieldsOf ho hd ?_)
  simp only [hown, Bool.false_eq_true, if_false]
  show wpAny _ _ (if (Value.ref d == Value.none) = true then _ else _) _ _ s
  rw [if_neg (show ¬ ((Value.ref d == Value.none) = true) from Bool.false_ne_true)]
  refine wpAny_bind (wpAny_pure (wpAny_bind (wpAny_dictEntries hod hdd ?_)))
  rw [if_neg (by simp)]
  refine wpAny_bind (wpAny_pure (wpAny_bind (wpAny_dictEpoch hod hdd ?_)))
  rw [if_neg (by simp)]
  refine wpAny_pure ?_
  simp only [show ¬ ((i:Int) < 0) from by lia, if_false, Int.toNat_natCast, Array.getElem?_eq_getElem hlt]
  refine wpAny_bind ?_
  first | refine wpAny_bind (wpAny_typeNameOfWhole_valiter hit.typeIs (wpAny_pure ?_)) | refine wpAny_bind (wpAny_typeNameOf_valiter hit.typeIs (wpAny_pure ?_))
  refine wpAny_bind (wpAny_isOneOf_valiter hit.typeIs ?_)
  show wpAny _ _ (setField (.ref it) 1 (rawInt ((i:Int) + 1)) >>= _) _ _ s
  refine wpAny_bind (wpAny_setField ho hd (by simp) ?_)
  have hit':(s.heap.update it (Obj.mapFields (·.setIfInBounds 1 (rawInt ((i:Int) + 1))))).IsValIter it d (i + 1) es.size ep :=
    ⟨_, Heap.get?_update_self _ ho (Obj.isFreed_of_fields (Obj.data_mapFields hd _)), (Obj.cls_mapFields ..).trans hc, by rw [Obj.data_mapFields hd]; simp [rawInt]⟩
  refine wpAny_bind (wpAny_holding ?_)
  refine wpAny_bind (wpAny_isOneOf_valiter (s:={ s with heap:=s.heap.update it (Obj.mapFields (·.setIfInBounds 1 (rawInt ((i:Int) + 1)))) }) hit'.typeIs ?_)
  refine wpAny_bind (wpAny_isOneOf_valiter (s:={ s with heap:=s.heap.update it (Obj.mapFields (·.setIfInBounds 1 (rawInt ((i:Int) + 1)))) }) hit'.typeIs ?_)
  show wpAny _ _ (pure es[i].val) _ _ _
  exact wpAny_pure (wpAny_pure ⟨_, rfl, wpAny_pure (hval ▸ hQ _ hit' (Heap.SameBut.update ..))⟩)
theorem raw_end {it d:Addr} {i ep:Nat} {es:Array DictEntry} {Q:Option Value → Shared → Prop} (hh:A.handled = none) (hit:s.heap.IsValIter it d i es.size ep) (hm:RawD s.heap d es ep) (hge:es.size ≤ i)
    (hQ:∀ h', Heap.ExtBut it s.heap h' → Q none { s with heap:=h' }):wpAny (model prog w) A (pyNext (.ref it)) Q E s:=by
  refine byP fun _ q9=>?_
  obtain ⟨o, ho, hc, hd⟩:=id hit
  obtain ⟨od, hod, hcd, hdd⟩:=id hm
  refine q9 ?_
  have hown:Builtin.Dict_items.ownsTuple "dict_valueiterator" = false:=by decide
  unfold pyNext
  refine wpAny_bind (wpAny_attempt (wpAny_callSpecial?_slot (name:=ofString "__next__") hit.typeIs F.slot_dict_valueiterator_next
    (wpAny_call_entry F.slot_dict_valueiterator_next hit.typeIs F.entry_dict_valueiterator_next ?_ (F.args_dict_valueiterator_next_1 _))))
  refine wpAny_bind (wpAny_pure (wpAny_bind (wpAny_bind ?_)))
  first | refine wpAny_bind (wpAny_typeNameOfWhole_valiter hit.typeIs (wpAny_pure ?_)) | refine wpAny_bind (wpAny_typeNameOf_valiter hit.typeIs (wpAny_pure ?_))
  refine wpAny_bind (wpAny_fieldsOf ho hd ?_)
  simp only [hown, Bool.false_eq_true, if_false]
  show wpAny _ _ (if (Value.ref d == Value.none) = true then _ else _) _ _ s
  rw [if_neg (show ¬ ((Value.ref d == Value.none) = true) from Bool.false_ne_true)]
  refine wpAny_bind (wpAny_pure (wpAny_bind (wpAny_dictEntries hod hdd ?_)))
  rw [if_neg (by simp)]
  refine wpAny_bind (wpAny_pure (wpAny_bind (wpAny_dictEpoch hod hdd ?_)))
  rw [if_neg (by simp)]
  refine wpAny_pure ?_
  simp only [show ¬ ((i:Int) < 0) from by lia, if_false, Int.toNat_natCast, Array.getElem?_eq_none hge]
  refine wpAny_bind ?_
  first | refine wpAny_bind (wpAny_typeNameOfWhole_valiter hit.typeIs (wpAny_pure ?_)) | refine wpAny_bind (wpAny_typeNameOf_valiter hit.typeIs (wpAny_pure ?_))
  show wpAny _ _ (setField (.ref it) 0 .none >>= _) _ _ s
  refine wpAny_bind (wpAny_setField ho hd (by simp) ?_)
  show wpAny _ _ (newExc (.type "StopIteration") [] >>= _) _ _ _
  simp only [newExc, newTuple]
  refine wpAny_bind (wpAny_bind (wpAny_newObj_type ?_ (by size_fits)))
  refine wpAny_bind (m:=firstArgMember _ _) (wpAny_of_eq (a:=Value.none) (by first | rfl | (simp only [firstArgMember]; rfl)) ?_)
  refine wpAny_newObj_type ?_ (by size_fits)
  simp only [raiseNew]
  refine wpAny_bind (wpAny_handled ?_)
  rw [show A.in1.handled = none from hh]
  refine wpAny_bind (wpAny_pure (wpAny_throw ?_))
  refine wpAny_bind (wpAny_isInstance (T:="StopIteration") (b:=true) ⟨_, Heap.get?_push_size _ rfl, rfl⟩ isSubtype_stop ?_)
  exact wpAny_pure (hQ _ (((Heap.SameBut.update ..).extBut.push _).push _))
theorem raw_walks (hh:A.handled = none) (I d:Addr) (hne:d ≠ I) (es:Array DictEntry) (ep:Nat) :
    Walks prog w A I [I, d] [I] es.size (fun i v=>(es[i]?).map (·.val) = some v) (fun i h=>h.IsValIter I d i es.size ep ∧ RawD h d es ep) where
  sub:=fun b hb=>by simp at hb; simp [hb]
  frame:=fun _ _ _ st hk=>⟨st.1.at fun o e=>hk I (by simp) o e, st.2.at fun o e=>hk d (by simp) o e⟩
  item:=fun i s Q E hi st hQ=>by
    refine raw_next (v:=es[i].val) st.1 st.2 (by simp [hi]) fun h' hit' hs'=>?_
    exact hQ _ h' s.toks (by simp [hi]) ⟨hit', st.2.at fun o e=>hs'.extBut d o hne e⟩ fun b o hb e=>hs'.extBut b o (fun h=>hb (by simp [h])) e
  done:=fun s Q E st hQ=>raw_end hh st.1 st.2 (Nat.le_refl _) fun h' he'=>hQ h' s.toks fun b o hb e=>he' b o (fun h=>hb (by simp [h])) e
  self:=fun _ _ _ _ st hQ=>wpAny_pyIter_valiter st.1 hQ
end
open LCg LCp
section
variable {prog:Program} {w:World} {A:Around} {E:Value → Shared → Prop} {s:Shared} {h₀:Heap} {L:Addr} {m:Str → Option Value} {env:Env}
theorem draw2 {t:Addr} {a b:Value} {Q:List Value → Shared → Prop} (hh:A.handled = none) (hl:s.heap.IsList t #[a, b]) (hQ:∀ h', Heap.ExtBut s.heap.objs.size s.heap h' → Q [a, b] { s with heap:=h' }):wpAny (model prog w) A (unpackItems (.ref t) 2 none) Q E s:=by
  have hlt:t ≠ s.heap.objs.size:=by obtain ⟨o, ho, _⟩:=hl; exact Nat.ne_of_lt (Heap.lt_size ho)
  unfold unpackItems
  refine wpAny_bind ?_
  unfold notIterableAtAll
  refine wpAny_bind (wpAny_specialOf hl.typeIs PySem.F.slot_list_iter.lookup (wpAny_pure ?_))
  simp only [Bool.false_eq_true, if_false]
  refine wpAny_bind (wpAny_holding (wpAny_pyIter_list hl ?_))
  refine wpAny_bind (wpAny_holding ?_)
  show wpAny _ _ (pyNext _ >>= _) _ _ _
  refine wpAny_bind (wpAny_pyNext_list_item (i:=0) (items:=#[a, b]) (x:=a) ⟨_, Heap.get?_push_size _ rfl, rfl, rfl⟩ (hl.push _) rfl fun h₁ hi₁ hs₁=>?_)
  have hl₁:=(hl.push { cls:=.type "list_iterator", data:=.fields #[.ref t, .int 0 0] }).extBut hs₁.extBut hlt
  refine wpAny_bind (wpAny_holding ?_)
  show wpAny _ _ (pyNext _ >>= _) _ _ _
  refine wpAny_bind (wpAny_pyNext_list_item (i:=1) (items:=#[a, b]) (x:=b) hi₁ hl₁ rfl fun h₂ hi₂ hs₂=>?_)
  have hl₂:=hl₁.extBut hs₂.extBut hlt
  refine wpAny_bind (wpAny_holding ?_)
  show wpAny _ _ (pure []) _ _ _
  refine wpAny_pure (wpAny_pure (wpAny_pure ?_))
  rw [if_neg (by simp)]
  refine wpAny_bind (wpAny_holding (wpAny_pyNext_list_end (i:=2) (items:=#[a, b]) hh hi₂ hl₂ rfl fun h₃ he₃=>?_))
  simp only [Option.isSome_none, Bool.false_eq_true, if_false]
  exact wpAny_pure (hQ h₃ fun c o hc e=>he₃ c o hc (hs₂.extBut c o hc (hs₁.extBut c o hc (Heap.get?_push_of_some _ e))))
theorem assign_pair {elts:List Expr} {x1} {pos:Pos} {t:Addr} {a b:Value} {Q:Unit → Shared → Prop} (hh:A.handled = none) (hl:s.heap.IsList t #[a, b])
    (hn:(assignEach elts env).length = 2) (hstar:(assignEach elts env).findIdx? (·.1) = none)
    (h:∀ h', Heap.ExtBut s.heap.objs.size s.heap h' → wpAny (model prog w) A (assignInOrder ((assignEach elts env).map (·.2)) [a, b]) Q E { s with heap:=h' }) :
    wpAny (model prog w) A (assign (.Tuple elts x1 pos) env (.ref t)) Q E s:=by
  rw [PyProof.Rows.assign_Tuple]
  refine wpAny_bind (wpAny_standAt ?_)
  unfold unpack
  rw [hn, hstar]
  exact wpAny_bind (wpAny_holding (draw2 hh hl h))
end
open LCg LCp
section
variable {prog:Program} {w:World} {A:Around} {E:Value → Shared → Prop} {s:Shared} {h₀:Heap} {L:Addr} {m:Str → Option Value} {env:Env}
noncomputable def PairSrc (prog:Program) (w:World) (A:Around) (h₀:Heap) (L:Addr) (m:Str → Option Value) (env:Env) (elt:PySem.Expr) (x x₂:Str) (scope:Scope) (cl:List (Str × Addr)) (Q:Value → Shared → Prop) (xv:Value) (s₁:Shared):Prop :=
  ∃ (ax:Addr) (vs:List Value) (J:Nat → List Value → Led → Prop) (news:Led), xv = .ref ax ∧ A.handled = none ∧ Fr h₀ L s₁.heap m ∧ News h₀ L s₁.heap news ∧ vs.length ≤ sizeLine ∧ J 0 [] news ∧
    (∀ i ys nw, J i ys nw → SrcAt h₀ ax vs.toArray nw) ∧
    (∀ i ys nw v, J i ys nw → vs[i]? = some v → ∃ (t:Addr) (v₁ v₂:Value) (nt:Nat), v = .ref t ∧ (t, listOf [v₁, v₂].toArray nt) ∈ nw ∧
      ∀ I oI C oC D m₂ h tk (E':Value → Shared → Prop), NsObj oC m₂ → m₂ x = some v₁ → m₂ x₂ = some v₂ → Fr h₀ L h m → News h₀ L h ((I, oI) :: (C, oC) :: (D, lst ys) :: nw) → Off3 I C D nw → ((@Ne Nat I C) ∧ (@Ne Nat I D) ∧ (@Ne Nat C D)) →
        wpAny (model prog w) A (eval elt (compEnvC scope cl C env)) (fun y s'=>∃ h' tk' nw', s' = { s₁ with heap:=h', toks:=tk' } ∧ Fr h₀ L h' m ∧ News h₀ L h' ((I, oI) :: (C, oC) :: (D, lst ys) :: nw') ∧ Off3 I C D nw' ∧ J (i + 1) (ys ++ [y]) nw') E' { s₁ with heap:=h, toks:=tk }) ∧
    (∀ ys nw D h tk, J vs.length ys nw → Fr h₀ L h m → News h₀ L h ((D, lst ys) :: nw) → Off1 D nw → Q (.ref D) { s₁ with heap:=h, toks:=tk })
theorem ListComp_L {elt iter:PySem.Expr} {x x₂:Str} {px px₂ tp:Pos} {tk} {scope:Scope} {cl:List (Str × Addr)} {pos:Pos} {Q:Value → Shared → Prop} (_F₀:Fr h₀ L s.heap m)
    (hclos:closureFor scope env = pure cl) (hcell:∀ y ∈ scope.names, y.2 ≠ .cell) (hkind:scope.kind = .function)
    (hnames:∀ y ∈ scope.names, y.2 = .local → scope.names.lookup y.1 = some .local) (hx:scope.names.lookup x = some .local) (hx₂:scope.names.lookup x₂ = some .local) (hxx:x ≠ x₂)
    (h:wpAny (model prog w) A (eval iter env) (PairSrc prog w A h₀ L m env elt x x₂ scope cl Q) E s)
    (hs:∀ x, foldedSetIterable iter env x = pure x) :
    wpAny (model prog w) A (eval (.ListComp elt [⟨.Tuple [.Name x px, .Name x₂ px₂] tk tp, iter, [], 0⟩] scope pos) env) Q E s:=by
  rw [eval_ListComp]
  refine wpAny_comprehension_free (use:=none) rfl hs hclos hkind hnames (wpAny_mono h (fun xv s₁ h₁=>?_) fun _ _ e=>e)
  refine byP fun _ q9=>?_
  obtain ⟨ax, vs, J, news, rfl, hh, F, N, hsz, J0, hS, step, fin⟩:=h₁
  refine q9 ?_
  have hl:s₁.heap.IsList ax vs.toArray:=(hS _ _ _ J0).list F.keep N
  have hlt:ax < s₁.heap.objs.size:=by obtain ⟨_, e, _⟩:=hl; exact Heap.lt_size e
  have hLlt:L < s₁.heap.objs.size:=F.ns.lt
  have none₀:∀ a, s₁.heap.objs.size ≤ a → h₀.get? a = none:=fun a ha=>by
    cases e:h₀.get? a with
    | none=>rfl
    | some o'=>exact absurd (Heap.lt_size (F.keep a o' e)) (Nat.not_lt.mpr ha)
  refine wpAny_pyIter_list hl ?_
  refine wpAny_newObj_type (wpAny_newFunctionEnv hcell (by intro y hy; simp at hy) (fun h₁ hns₁ hsb₁=>?_) hkind)
  dsimp only at hns₁ hsb₁ ⊢
  generalize hI:s₁.heap.objs.size = I at hlt hLlt none₀
  generalize hH1:s₁.heap.push { cls:=.type "list_iterator", data:=.fields #[.ref ax, .int 0 0] } = H1 at hns₁ hsb₁ ⊢
  have hD:H1.objs.size = I + 1:=by rw [← hH1, Heap.size_push, hI]
  generalize hH2:H1.push { cls:=.type "list", dict:=none, data:=.seq ([]:List Value).toArray } = H2 at hns₁ hsb₁ ⊢
  have hC:H2.objs.size = I + 2:=by rw [← hH2, Heap.size_push, hD]
  rw [hD]
  rw [hC] at hns₁ hsb₁ ⊢
  -- three new objects: I the iterator, I+1 the list, I+2 the comprehension's own names
  have nID:@Ne Nat I (I + 1):=Nat.ne_of_lt (Nat.lt_succ_self _)
  have nIC:@Ne Nat I (I + 2):=Nat.ne_of_lt (Nat.lt_succ_of_lt (Nat.lt_succ_self _))
  have nDC:@Ne Nat (I + 1) (I + 2):=Nat.ne_of_lt (Nat.lt_succ_self _)
  have hLn:@LT.lt Nat _ L I:=hLlt
  have nLI:@Ne Nat L I:=Nat.ne_of_lt hLn
  have nLD:@Ne Nat L (I + 1):=Nat.ne_of_lt (Nat.lt_succ_of_lt hLn)
  have nLC:@Ne Nat L (I + 2):=Nat.ne_of_lt (Nat.lt_succ_of_lt (Nat.lt_succ_of_lt hLn))
  have kI:h₀.get? I = none:=none₀ _ (Nat.le_refl _)
  have kD:h₀.get? (I + 1) = none:=none₀ _ (Nat.le_add_right _ _)
  have kC:h₀.get? (I + 2) = none:=none₀ _ (Nat.le_add_right _ _)
  have up:∀ b o, s₁.heap.get? b = some o → h₁.get? b = some o:=fun b o e=>hsb₁.extBut b o (Nat.ne_of_lt (Nat.lt_succ_of_lt (Nat.lt_succ_of_lt (hI ▸ Heap.lt_size e)))) (Heap.get?_push_of_some _ (by rw [← hH2, ← hH1]; exact Heap.get?_push_of_some _ (Heap.get?_push_of_some _ e)))
  have hacc:h₁.get? (I + 1) = some (lst []):=hsb₁.extBut _ _ nDC (Heap.get?_push_of_some _ (by rw [← hH2, ← hD]; exact Heap.get?_push_size _ rfl))
  have hit₁:h₁.IsListIter I ax 0:=⟨_, hsb₁.extBut _ _ nIC (Heap.get?_push_of_some _ (by rw [← hH2, ← hH1]; exact Heap.get?_push_of_some _ (hI ▸ Heap.get?_push_size _ rfl))), rfl, rfl⟩
  have lt3:∀ p ∈ news, @LT.lt Nat _ p.1 I:=fun p hp=>hI ▸ Heap.lt_size (N p hp).1
  have off₀:Off3 I (I + 2) (I + 1) news:=Off3.of fun p hp=>⟨Nat.ne_of_lt (lt3 p hp), Nat.ne_of_lt (Nat.lt_succ_of_lt (Nat.lt_succ_of_lt (lt3 p hp))), Nat.ne_of_lt (Nat.lt_succ_of_lt (lt3 p hp))⟩
  have loop:∀ R:Result → Shared → Prop, (∀ ys nw h tk m', J vs.length ys nw → Fr h₀ L h m → News h₀ L h ((I + 1, lst ys) :: nw) → Off1 (I + 1) nw → h.Ns (I + 2) m' → (∀ p ∈ nw, p.1 ≠ I + 2) → R (.ok .next) { s₁ with heap:=h, toks:=tk }) →
      ∀ s₃:Shared, s₃ = { s₁ with heap:=h₁, toks:=s₁.toks + ([]:List (Str × Value)).length } →
      codeAny (model prog w) A (.compLoop (.ListComp elt [⟨.Tuple [.Name x px, .Name x₂ px₂] tk tp, iter, [], 0⟩] scope pos) 0 (.ref I) (.ref (I + 1)) (compEnvC scope cl (I + 2) env)) R s₃:=by
    rintro R hR s₃ rfl
    refine codeAny_compLoop_pair
      (fun k s'=>∃ h' tk i ys m' nw, s' = { s₁ with heap:=h', toks:=tk } ∧ i ≤ vs.length ∧ k = vs.length + 1 - i ∧ ys.length = i ∧ h'.IsListIter I ax i ∧ Fr h₀ L h' m ∧ h'.Ns (I + 2) m' ∧ News h₀ L h' ((I + 1, lst ys) :: nw) ∧
        Off3 I (I + 2) (I + 1) nw ∧ J i ys nw) ?_ (vs.length + 1)
      ⟨h₁, _, 0, [], _, news, rfl, Nat.zero_le _, rfl, rfl, hit₁, F.keeps up, hns₁, fun p hp=>?_, off₀, J0⟩
    · intro k s' z9
      refine byP fun _ q9=>?_
      obtain ⟨h', tk', i, ys, m', nw, rfl, hi, rfl, hyl, hit, F', hn', N', off', hJ⟩:=z9
      refine q9 ?_
      have off3:=off'.mem
      have hl':h'.IsList ax vs.toArray:=(hS _ _ _ hJ).list F'.keep (fun p hp=>N' p (iC hp))
      have keepN:∀ h₂:Heap, Heap.ExtBut I h' h₂ → News h₀ L h₂ ((I + 1, lst ys) :: nw):=fun h₂ he p hp=>⟨he _ _ (by
        rcases List.mem_cons.mp hp with rfl | hp
        · exact Ne.symm nID
        · exact (off3 p hp).1) (N' p hp).1, (N' p hp).2⟩
      have keepF:∀ h₂:Heap, Heap.ExtBut I h' h₂ → Fr h₀ L h₂ m:=fun h₂ he=>⟨F'.ns.at' fun o e=>he _ o nLI e, fun b o e=>he b o (fun q=>by rw [q, kI] at e; cases e) (F'.keep b o e), F'.above⟩
      cases hv:vs[i]? with
      | none =>
        have hin:i = vs.length:=Nat.le_antisymm hi (by simpa using hv)
        subst hin
        refine wpAny_pyNext_list_end hh hit hl' (by simp) fun h₂ he₂=>?_
        exact hR ys nw h₂ _ m' hJ (keepF h₂ he₂) (keepN h₂ he₂) off'.one (hn'.at' fun o e=>he₂ _ o (Ne.symm nIC) e) (fun p hp=>(off3 p hp).2.1)
      | some v =>
        refine byP fun _ q9=>?_
        obtain ⟨t, v₁, v₂, nt, rfl, hmt, R'⟩:=step i ys nw v hJ hv
        refine q9 ?_
        have hlt':i < vs.length:=(List.getElem?_eq_some_iff.mp hv).1
        refine wpAny_pyNext_list_item (x:=.ref t) hit hl' (by simpa using hv) fun h₂ hi₂ hs₂=>?_
        have N₂:=keepN h₂ hs₂.extBut
        have F₂:=keepF h₂ hs₂.extBut
        refine wpAny_letOwnedTupleGo_listiter hi₂ ?_
        have ht:h₂.IsList t #[v₁, v₂]:=⟨_, (N₂ _ (iC hmt)).1, rfl, _, rfl⟩
        refine assign_pair hh ht rfl rfl fun h₃ he=>?_
        have he':∀ b o, h₂.get? b = some o → h₃.get? b = some o:=fun b o e=>he b o (Nat.ne_of_lt (Heap.lt_size e)) e
        refine assignInOrder_cons (wpAny_assign_Name (wpAny_storeName_local (lookup_relabel_local hx) ((hn'.at' fun o e=>hs₂.extBut _ o (Ne.symm nIC) e).at' fun o e=>he' _ o e) (fun h₄ hn₄ hs₄=>?_) (by simp [compEnvC, relabel, hkind])))
        refine assignInOrder_cons (wpAny_assign_Name (wpAny_storeName_local (lookup_relabel_local hx₂) hn₄ (fun h₅ hn₅ hs₅=>?_) (by simp [compEnvC, relabel, hkind])))
        refine assignInOrder_nil ?_
        have old:∀ b o, @Ne Nat b (I + 2) → h₂.get? b = some o → h₅.get? b = some o:=fun b o hb e=>hs₅.extBut b o hb (hs₄.extBut b o hb (he' b o e))
        refine byP fun _ q9=>?_
        obtain ⟨oI, heI⟩:∃ o, h₅.get? I = some o:=by obtain ⟨o, e, _⟩:=hi₂; exact ⟨o, old _ _ nIC e⟩
        obtain ⟨oC, heC, hoC⟩:=ns_obj hn₅
        refine q9 ?_
        have F₅:Fr h₀ L h₅ m:=((F₂.keeps he').change hs₄ (Ne.symm nLC) kC).change hs₅ (Ne.symm nLC) kC
        have N₅:News h₀ L h₅ ((I, oI) :: (I + 2, oC) :: (I + 1, lst ys) :: nw):=fun p hp=>by
          rcases List.mem_cons.mp hp with rfl | hp
          · exact ⟨heI, Ne.symm nLI, kI⟩
          · rcases List.mem_cons.mp hp with rfl | hp
            · exact ⟨heC, Ne.symm nLC, kC⟩
            · refine ⟨old _ _ ?_ (N₂ p hp).1, (N₂ p hp).2⟩
              rcases List.mem_cons.mp hp with rfl | hp
              · exact nDC
              · exact (off3 p hp).2.1
        refine wpAny_mono (R' I oI (I + 2) oC (I + 1) _ h₅ _ _ hoC (by simp [hxx]) (by simp) F₅ N₅ off' ⟨nIC, nID, Ne.symm nDC⟩) (fun y s₄ h₄'=>?_) fun _ _ e=>e
        refine byP fun _ q9=>?_
        obtain ⟨h₆, tk₆, nw₆, rfl, F₆, N₆, off₆, hJ₆⟩:=h₄'
        refine q9 ?_
        have zI:=(N₆ _ iH).1
        have zC:=(N₆ _ (iC iH)).1
        have zD:=(N₆ _ (iC (iC iH))).1
        refine append_at (hsz:=by show ys.toArray.size ≤ sizeLine; rw [List.size_toArray, hyl]; exact Nat.le_trans hi hsz) zD fun h₇ hs₇ hD₇=>?_
        have off4:=off₆.mem
        have hi₅:h₅.IsListIter I ax (i + 1):=hi₂.at fun o e=>old _ _ nIC e
        have hi₆:h₆.IsListIter I ax (i + 1):=hi₅.at fun o e=>by rw [heI] at e; cases e; exact zI
        refine ⟨vs.length + 1 - (i + 1), Nat.sub_lt_sub_left (Nat.lt_succ_of_lt hlt') (Nat.lt_succ_self i), h₇, tk₆, i + 1, ys ++ [y], _, nw₆, rfl, hlt', rfl, by rw [List.length_append, List.length_singleton, hyl], hi₆.at fun o e=>hs₇.extBut _ _ nID e, F₆.change hs₇ (Ne.symm nLD) kD,
          (hoC.ns zC).sameBut hs₇ (Ne.symm nDC), fun p hp=>?_, off₆, hJ₆⟩
        rcases List.mem_cons.mp hp with rfl | hp
        · exact ⟨hD₇.trans (congrArg some (lst_snoc ys y)), Ne.symm nLD, kD⟩
        · have z:=N₆ p (iC (iC (iC hp)))
          exact ⟨hs₇.extBut _ _ (off4 p hp).2.2 z.1, z.2⟩
    · rcases List.mem_cons.mp hp with rfl | hp
      · exact ⟨hacc, Ne.symm nLD, kD⟩
      · exact ⟨up _ _ (N p hp).1, (N p hp).2⟩
  have done:=fun R hR=>codeAny_compStart_list (loop R hR _ rfl) (wpAny_pyIter_listiter hit₁ (loop R hR _ rfl))
  refine done _ fun ys nw h tk m' hJ F' N' o1 hn offC=>?_
  refine ⟨m', hn, fun h'' hs''=>fin ys nw _ h'' tk hJ (F'.change hs'' (Ne.symm nLC) kC) (fun p hp=>?_) o1⟩
  refine ⟨hs''.extBut _ _ ?_ (N' p hp).1, (N' p hp).2⟩
  rcases List.mem_cons.mp hp with rfl | hp
  · exact nDC
  · exact offC p hp
end
noncomputable def DictAtN (d:Addr) (es:Array DictEntry) (ep:Nat) (news:Led):Prop:=∃ o, (d, o) ∈ news ∧ o.cls = .type "dict" ∧ o.data = .dict es ep
noncomputable def ValSrc (prog:Program) (w:World) (A:Around) (h₀:Heap) (L:Addr) (m:Str → Option Value) (env:Env) (elt:PySem.Expr) (x:Str) (scope:Scope) (cl:List (Str × Addr)) (Fin:Shared → List Value → Led → Prop) (xv:Value) (s₁:Shared):Prop :=
  ∃ v d es ep news, xv = .ref v ∧ A.handled = none ∧ Fr h₀ L s₁.heap m ∧ News h₀ L s₁.heap news ∧ s₁.heap.IsValuesView v d ∧ DictAtN d es ep news ∧ es.size ≤ sizeLine ∧
    ∀ s₂:Shared, (∃ h, s₂ = { s₁ with heap:=h }) → LCg.CompRest prog w A h₀ L m env elt x scope cl s₂ (DictAtN d es ep) (fun i v=>(es[i]?).map (·.val) = some v) (Fin s₂) es.size 0 [] news
theorem dictAtN_raw {h₀ h:Heap} {L d:Addr} {es:Array DictEntry} {ep:Nat} {news:Led} (N:News h₀ L h news) (x:DictAtN d es ep news):RawD h d es ep:=by
  obtain ⟨o, hm, r⟩:=x
  exact ⟨o, (N _ hm).1, r⟩
theorem val_st {h₀:Heap} {L d I:Addr} {es:Array DictEntry} {ep:Nat}:∀ i (h h':Heap) (o:Obj) (nw:Led), (h.IsValIter I d i es.size ep ∧ RawD h d es ep) → h.get? I = some o → h'.get? I = some o → (∀ b o, h₀.get? b = some o → h'.get? b = some o) → News h₀ L h' nw → DictAtN d es ep nw → (h'.IsValIter I d i es.size ep ∧ RawD h' d es ep) :=
  fun i h h' o nw st e e' _ N S=>⟨by obtain ⟨o', q, r⟩:=st.1; rw [e] at q; cases q; exact ⟨o, e', r⟩, dictAtN_raw N S⟩
theorem ListComp_V {prog:Program} {w:World} {A:Around} {E:Value → Shared → Prop} {s:Shared} {h₀:Heap} {L:Addr} {m:Str → Option Value} {env:Env} {elt iter:PySem.Expr} {x:Str} {px:Pos} {scope:Scope} {cl:List (Str × Addr)} {pos:Pos} {Q:Value → Shared → Prop} (_F₀:Fr h₀ L s.heap m)
    (hclos:closureFor scope env = pure cl) (hcell:∀ y ∈ scope.names, y.2 ≠ .cell) (hkind:scope.kind = .function)
    (hnames:∀ y ∈ scope.names, y.2 = .local → scope.names.lookup y.1 = some .local) (hx:scope.names.lookup x = some .local)
    (h:wpAny (model prog w) A (eval iter env) (ValSrc prog w A h₀ L m env elt x scope cl (fun s₂=>LCg.FinE h₀ L m s₂ Q)) E s)
    (hs:∀ x, foldedSetIterable iter env x = pure x) :
    wpAny (model prog w) A (eval (.ListComp elt [⟨.Name x px, iter, [], 0⟩] scope pos) env) Q E s:=by
  rw [eval_ListComp]
  refine wpAny_comprehension_free (use:=none) rfl hs hclos hkind hnames (wpAny_mono h (fun xv s₁ h₁=>?_) fun _ _ e=>e)
  refine byP fun _ q9=>?_
  obtain ⟨v, d, es, ep, news, rfl, hh, F, N, hv, S, hsz, R⟩:=h₁
  refine q9 ?_
  have hr:=dictAtN_raw N S
  have hlt:d < s₁.heap.objs.size:=by obtain ⟨_, e, _⟩:=hr; exact Heap.lt_size e
  refine raw_iter hv hr ?_
  have up:∀ b o, s₁.heap.get? b = some o → (s₁.heap.push { cls:=.type "dict_valueiterator", data:=.fields #[.ref d, .int 0 0, .int es.size 0, .int ep 0] }).get? b = some o:=fun b o e=>Heap.get?_push_of_some _ e
  refine LCg.block_U (raw_walks hh s₁.heap.objs.size d (Nat.ne_of_lt hlt) es ep) hsz (fun i h st=>by obtain ⟨o, e, _⟩:=st.1; exact ⟨o, e⟩) val_st hcell hkind hx ⟨⟨_, Heap.get?_push_size _ rfl, rfl, rfl⟩, hr.at fun o e=>up _ _ e⟩ (fun b hb=>?_)
    (F.keeps up) (N.grown up) (Nat.ne_of_lt F.ns.lt) (next_is_new F) (fun p hp=>Nat.ne_of_lt (Heap.lt_size (N p hp).1)) S (R _ ⟨_, rfl⟩) ?_
  · show b < (s₁.heap.push _).objs.size
    rw [Heap.size_push]
    rcases List.mem_cons.mp hb with rfl | hb
    · exact Nat.lt_succ_self _
    · rw [List.mem_singleton.mp hb]; exact Nat.lt_succ_of_lt hlt
  · intro D C h tk m' ys news' F' N' o1 hn hC₀ hD₀ hCL hDL hCD offC fin
    refine ⟨m', hn, fun h'' hs''=>fin D h'' tk (F'.change hs'' hCL hC₀) (fun p hp=>?_) o1⟩
    refine ⟨hs''.extBut _ _ ?_ (N' p hp).1, (N' p hp).2⟩
    rcases List.mem_cons.mp hp with rfl | hp
    · exact Ne.symm hCD
    · exact offC p hp
theorem values_src {prog:Program} {w:World} {A:Around} {E:Value → Shared → Prop} {s:Shared} {h₀:Heap} {L d:Addr} {m:Str → Option Value} {env:Env} {elt:PySem.Expr} {x:Str} {scope:Scope} {cl:List (Str × Addr)} {Fin:Shared → List Value → Led → Prop} {o:Obj} {es:Array DictEntry} {ep:Nat} {news:Led}
    (hh:A.handled = none) (F:Fr h₀ L s.heap m) (N:News h₀ L s.heap news) (hm:(d, o) ∈ news) (hc:o.cls = .type "dict") (hd:o.data = .dict es ep) (lo:(d == sysModules) = false) (hsz:es.size ≤ sizeLine)
    (R:∀ g, LCg.CompRest prog w A h₀ L m env elt x scope cl { s with heap:=g } (DictAtN d es ep) (fun i v=>(es[i]?).map (·.val) = some v) (Fin { s with heap:=g }) es.size 0 [] news) :
    wpAny (model prog w) A (call (.builtin "dict.values") [.ref d]) (ValSrc prog w A h₀ L m env elt x scope cl Fin) E s:=by
  have hr:RawD s.heap d es ep:=⟨o, (N _ hm).1, hc, hd⟩
  have hT:s.TypeIs (.ref d) "dict":=⟨o, (N _ hm).1, hc⟩
  exact call_meetsIn PySem.F.slot_dict_values hT PySem.F.entry_dict_values (PySem.F.args_dict_values_1 _) (raw_values (es:=es) (ep:=ep) lo)
    ⟨hr, _, d, es, ep, news, rfl, hh, F.push _, fun p hp=>⟨Heap.get?_push_of_some _ (N p hp).1, (N p hp).2⟩, ⟨_, Heap.get?_push_size _ rfl, rfl, rfl⟩, ⟨o, hm, hc, hd⟩, hsz, fun s₂ ⟨g, e⟩=>e ▸ R g⟩
theorem rows_methodV {w:World} {A:Around} {E:Value → Shared → Prop} {s:Shared} {h₀:Heap} {L d:Addr} {l:Led} {o:Obj} {pl:Sem Bool} {Q:Value × List Value → Shared → Prop} (N:News h₀ L s.heap l) (hm:(d, o) ∈ l) (h1:o.ExactDict) (h:Q (.builtin "dict.values", [.ref d]) s):wpAny (model PR w) A (getMethod (.ref d) "values" pl) Q E s:=by
  have hT:s.TypeIs (.ref d) "dict":=⟨o, (N _ hm).1, h1.1⟩
  exact getMethod_builtin hT PySem.F.plainAttrs_dict PySem.F.slot_dict_values PySem.F.type_dict_values (fun b hb=>by
    cases hb
    exact ⟨o, (N _ hm).1, h1.2.1⟩) h
structure Rw where
  c:Cd
  ka:Addr
  la:Addr
  key:Value
  val:Value
  n:Nat
noncomputable def Rw.x (r:Rw):Cd × Addr × Value:=(r.c, r.ka, .ref r.la)
noncomputable def RwIn (l:Led) (rs:List Rw):Prop:=∀ r ∈ rs, (r.la, listOf [r.key, r.val].toArray r.n) ∈ l
inductive PrIn (l:Led):List Value → List Rw → Prop
  | nil:PrIn l [] []
  | snoc {ts:List Value} {rs:List Rw} {r:Rw} {t:Addr} {o:Obj} {n:Nat}:PrIn l ts rs → (t, o) ∈ l → o.cls = .type "tuple" → o.data = .seq #[r.key, r.val] n → PrIn l (ts ++ [.ref t]) (rs ++ [r])
theorem PrIn.mono {l k:Led} {ts:List Value} {rs:List Rw} (h:PrIn l ts rs) (s:∀ p ∈ l, p ∈ k):PrIn k ts rs:=by
  induction h with
  | nil=>exact .nil
  | snoc _ h1 h2 h3 ih=>exact .snoc ih (s _ h1) h2 h3
section
variable {w mx} {b:Amb w mx} {m:Fm} {n:Led} {P:Value → Led → Prop}
theorem Tv.compV {sc:Scope} {cl:List (Str × Addr)} {e0 elt:Expr} {x:Str} {px p2 p3 pos:Pos} {rd:Addr} {ro:Obj} {es:Array DictEntry} {ep:Nat} {pl:Sem Bool} (J:Nat → List Value → Led → Prop) (hp:b.cp = none) (h0:Ev b m n e0 (.ref rd)) (hm:(rd, ro) ∈ n) (h1:ro.ExactDict) (hd:ro.data = .dict es ep) (lo:(rd == sysModules) = false) (hsz:es.size ≤ sizeLine)
    (J0:J 0 [] n) (hJ:∀ i ys n', J i ys n' → (rd, ro) ∈ n')
    (step:∀ i ys n' v heads C oC m₂, (es[i]?).map (·.val) = some v → J i ys n' → (C, oC) ∈ heads → LCg.NsObj oC m₂ → m₂ x = some v → (∀ q ∈ heads, ∀ p ∈ n', (p.1:Nat) ≠ q.1) →
      Tv (b.inC sc cl C) m (heads ++ n') (eval elt (b.inC sc cl C).env) fun y f=>∃ n'', (∀ p ∈ heads ++ n'', p ∈ f) ∧ (∀ q ∈ heads, ∀ p ∈ n'', (p.1:Nat) ≠ q.1) ∧ J (i + 1) (ys ++ [y]) n'')
    (fin:∀ D ys n', J es.size ys n' → (∀ p ∈ n', (p.1:Nat) ≠ D) → P (.ref D) ((D, LCg.lst ys) :: n'))
    (he:eval (Expr.Call (.Attribute e0 (ofString "values") p2) [] [] p3) b.env = (do let ov ← eval e0 b.env; standAt (Pos.atName p2); let z ← holding [ov] (getMethod ov (ofString "values") pl); match z with | (g, first)=>callWith p3 g first (backTo p3 (starEach [] b.env)) []))
    (hclos:closureFor sc b.env = pure cl) (hcell:∀ y ∈ sc.names, y.2 ≠ .cell) (hkind:sc.kind = .function) (hnames:∀ y ∈ sc.names, y.2 = .local → sc.names.lookup y.1 = some .local) (hx:sc.names.lookup x = some .local) (hs:∀ v, foldedSetIterable (Expr.Call (.Attribute e0 (ofString "values") p2) [] [] p3) b.env v = pure v) :
    Tv b m n (eval (.ListComp elt [⟨.Name x px, .Call (.Attribute e0 (ofString "values") p2) [] [] p3, [], 0⟩] sc pos) b.env) P:=by
  intro Q E h₁ tk F N ret
  refine ListComp_V (cl:=cl) F hclos hcell hkind hnames hx (MethodCall_ (h0 (fun v n'=>v = .ref rd ∧ n' = n) ⟨rfl, rfl⟩ _ E h₁ tk F N fun v h2 tk2 n2 F2 N2 q=>?_) he) hs
  obtain ⟨e1, e2⟩:=q
  subst e1
  subst e2
  refine rows_methodV N2 hm h1 (callWith_method0 (values_src rfl F2 N2 hm h1.1 hd lo hsz fun g=>comp_loop J ?_ ?_ J0))
  · intro i ys news hi hj v I oI C oC D m₂ h tk E' hv hC hx2 F2 N2 off ne
    have off9:=off.mem
    have key:=step i ys news v [(I, oI), (C, oC), (D, LCg.lst ys)] C oC m₂ hv hj (.tail _ (.head _)) hC hx2 (all_more (fun p hp=>(off9 p hp).1) (all_more (fun p hp=>(off9 p hp).2.1) (all_one fun p hp=>(off9 p hp).2.2)))
    rw [Amb.env_of hp]
    exact key _ E' h tk F2 N2 fun y h' tk' f F3 N3 z9=>by refine byP fun _ q9=>?_; obtain ⟨n2, s, o, j⟩:=z9; exact q9 (LCg.CompEnd.intro F3 N3 n2 s (LCg.Off3.of fun p hp=>⟨o (I, oI) (.head _) p hp, o (C, oC) (.tail _ (.head _)) p hp, o (D, LCg.lst ys) (.tail _ (.tail _ (.head _))) p hp⟩) ⟨ro, hJ _ _ _ j, h1.1, hd⟩ j)
  · intro ys news hj D h tk F2 N2 o1
    exact ret _ _ _ _ F2 N2 (fin D ys news hj (Ne1.of_off1 o1 fun p hp=>hp))
end
theorem pairs_ok {w mx} {l:Led} {ta td rd:Addr} {ro:Obj} {es:List DictEntry} {n:Nat} {rs:List Rw} (m1:(ta, instObj 120 td) ∈ l) (m2:(td, dictOf es n) ∈ l) (m3:(rd, ro) ∈ l) (hr:has "rows" es (.ref rd)) (lo:(rd == sysModules) = false) (R:RowsOf w ro (rs.map Rw.x)) (hn:rs.length ≤ 100) (hi9:RwIn l rs) :
    Does w mx 117 5 [.ref ta] l (fun r n' tl=>n' = l ∧ ∃ la ts, r = .ref la ∧ (la, LCg.lst ts) ∈ tl ∧ PrIn tl ts rs):=by
  refine byP fun _ q9=>?_
  obtain ⟨es9, ep9, q1, q2, q3, q4⟩:=R
  refine q9 ?_
  have hsz:es9.size = rs.length:=by rw [← Array.length_toList, q3]; simp
  refine does_enter (bm:=[(ofString "self", .ref ta)]) (by k_is) (by k_is) (by first | exact fun s X=>BindsTo.of_eq rfl | exact fun s X=>binds_K X rfl (by k_is) rfl rfl rfl) (by exact rfl) (by exact rfl) (by exact rfl) (by exact rfl) (by exact rfl) (by first | decide | lia) (by exact rfl) fun b m hm hcp hcs hcl hr9=>?_
  have es:∀ {A p}, Ev b m A (.Name (ofString "self") p) (.ref ta):=by exact Ev.loc hm rfl Kx rfl
  refine Ts.ret (Tv.compV (cl:=[]) (fun i ys news=>∃ t, news = l ++ t ∧ Gt l t ∧ PrIn t ys (rs.take i)) hcp (Ev.attr es m1 m2 f_rows hr rfl rfl) m3 q1 q2 lo (by rw [hsz, sizeLine_eq]; exact Nat.le_trans hn (by decide)) ⟨[], (List.append_nil l).symm, Gt.nil, .nil⟩ (fun i ys n' ⟨t, e, _⟩=>e ▸ iL m3) ?step ?fin rfl ?clos ?cell rfl ?names rfl fun _=>rfl)
  case clos =>
    rw [Amb.env_of hcp]
    show closureFor _ (envX b.cn b.cs b.L b.a b.ccd b.cl) = _
    rw [hcs, hcl]
    rfl
  case cell=>decide
  case names=>decide
  case fin =>
    intro D ys n' ⟨t, e, g, hP⟩ hD
    subst e
    rw [hsz, List.take_length] at hP
    exact ⟨l, (D, LCg.lst ys) :: t, all_app (fun p hp=>.tail _ (iL hp)) (all_more (.head _) fun p hp=>.tail _ (iR hp)), Gt.cons (fun q hq=>hD q (iL hq)) g, rfl, D, ys, rfl, .head _, hP.mono fun p hp=>.tail _ hp⟩
  case step =>
    intro i ys n' v heads C oC m₂ hv ⟨t, e, g, hP⟩ hC hN hx off
    subst e
    refine byP fun _ q9=>?_
    obtain ⟨r, hrr, ev⟩:∃ r, rs[i]? = some r ∧ v = .ref r.la:=by
      rw [← Array.getElem?_toList, q3, List.getElem?_map, List.getElem?_map] at hv
      cases hr:rs[i]? with
      | none=>rw [hr] at hv; cases hv
      | some r=>rw [hr] at hv; exact ⟨r, rfl, (Option.some.inj hv).symm⟩
    refine q9 ?_
    subst ev
    have hla:=List.mem_append_right heads (List.mem_append_left t (hi9 r (List.mem_of_getElem? hrr)))
    have er:∀ {sc cl p}, Kc b sc (ofString "row") .local → Ev (b.inC sc cl C) m (heads ++ (l ++ t)) (.Name (ofString "row") p) (.ref r.la):=fun h=>Ev.own (iL hC) hN hx h rfl
    refine Tv.tup (Tv.args1 (Ev.item (v:=r.key) (er (Kc.of hcs rfl rfl)) hla rfl ⟨by decide, by decide⟩ (fun _=>rfl) _ (Tv.args1 (Ev.item (v:=r.val) (er (Kc.of hcs rfl rfl)) hla rfl ⟨by decide, by decide⟩ (fun _=>rfl) _ (Tv.args0 (Tv.tuple (fun T hT=>⟨l ++ (t ++ [(T, { cls:=.type "tuple", data:=.seq [r.key, r.val].toArray })]), ?_, ?_, t ++ [(T, { cls:=.type "tuple", data:=.seq [r.key, r.val].toArray })], rfl, ?_, ?_⟩) (Nat.le_of_ble_eq_true rfl)))) rfl)) rfl)
    · exact all_app (fun p hp=>.tail _ (iL hp)) (all_app (fun p hp=>.tail _ (iR (iL hp))) (all_app (fun p hp=>.tail _ (iR (iR hp))) (all_one (.head _))))
    · exact fun q hq=>all_app (fun p hp=>off q hq p (iL hp)) (all_app (fun p hp=>off q hq p (iR hp)) (all_one (Nat.ne_of_gt (hT q (iL hq)))))
    · exact Gt.app g fun q hq p hp=>by rw [List.mem_singleton.mp hp]; exact Nat.ne_of_lt (hT q (iR (iL hq)))
    · rw [List.take_add_one, hrr]
      exact .snoc (hP.mono fun p hp=>iL hp) (iR (.head _)) rfl rfl
structure WX (σ σ':Ws):Prop where
  num:σ.num ≤ σ'.num
  kvs:∀ y v, valueAt σ.kvs y = some v → valueAt σ'.kvs y = some v
theorem WX.refl (σ:Ws):WX σ σ:=⟨Int.le_refl _, fun _ _ h=>h⟩
theorem WX.trans {a b c:Ws} (h:WX a b) (k:WX b c):WX a c:=⟨Int.le_trans h.num k.num, fun y v e=>k.kvs y v (h.kvs y v e)⟩
theorem Ext.wx {a b:Ws} (h:Ext a b):WX a b:=⟨h.num, h.kvs⟩
theorem hw_wk {c:Wc} {σ:Ws} {η:Hs} {t:Led} (g:Gt (Hw c σ η) t):Gt (Wk c σ) t:=fun q hq=>g q (iL hq)
theorem hw_hk {c:Wc} {σ:Ws} {η:Hs} {t:Led} (g:Gt (Hw c σ η) t):Gt (Hk c η) t:=fun q hq=>g q (iR hq)
theorem HI.to {w c da σ η} {X Y:Led} (h:HI w c da σ η X) (s:∀ p ∈ X, p ∈ Y) (g:Gt (Hw c σ η) Y):HI w c da σ η Y :=
  { h with inv:=h.inv.mono (Gt.app (fun q hq p hp=>h.gw q hq p (iC hp)) (hw_wk g)) (fun p hp=>(List.mem_append.mp hp).elim (iL) (fun k=>iR (s p k))), gt:=hw_hk g }
theorem HI.hw {w c da σ η} {X:Led} (h:HI w c da σ η X):Gt (Hw c σ η) X:=fun q hq p hp=>(List.mem_append.mp hq).elim (fun k=>h.inv.gt q k p (iR hp)) (fun k=>h.gt q k p hp)
theorem HI.grow {w c da σ η} {X t:Led} (h:HI w c da σ η X) (g:Gt (Hw c σ η) t):HI w c da σ η (X ++ t):=h.to (fun _ hp=>iL hp) (Gt.app h.hw g)
noncomputable def HW (w:World) (mx:Mx) (c:Wc) (da:List Addr) (σ:Ws) (η:Hs) (X:Led) (f:Addr) (dn:Nat) (args:List Value) (P:Value → Ws → Hs → Led → Prop):Prop :=
  ∀ rest, (∀ p ∈ X, p ∈ rest) → Gt (Hw c σ η) rest → Does w mx f dn args (Hw c σ η ++ rest) (fun r n' tl=>∃ σ' η', n' = Hw c σ' η' ++ rest ∧ HI w c da σ' η' (X ++ tl) ∧ HExt η η' ∧ WX σ σ' ∧ Gt (Hw c σ η ++ rest) tl ∧ P r σ' η' tl)
theorem does_gt {w mx} {f:Addr} {dn:Nat} {args:List Value} {l:Led} {R R':Value → Led → Led → Prop} (C:Does w mx f dn args l R)
    (h:∀ r n tl, R r n tl → Gt l tl → R' r n tl):Does w mx f dn args l R':=by
  intro dp un gd cn cs a ccd cl outer A₀ base h₀ L m s Q E B F X₀ N T hk' hd' hu hret
  exact C dp un gd cn cs a ccd cl outer A₀ base h₀ L m s Q E B F X₀ N T hk' hd' hu fun r n tl h' tk' F' N' g' hR=>hret r n tl h' tk' F' N' g' (h r n tl hR g')
theorem does_le {w mx} {f:Addr} {n k:Nat} {args:List Value} {l:Led} {R:Value → Led → Led → Prop} (C:Does w mx f n args l R) (hk:n ≤ k):Does w mx f k args l R:=by
  intro dp un gd cn cs a ccd cl outer A₀ base h₀ L m s Q E B F X₀ N T hk' hd' hu hret
  exact C dp un gd cn cs a ccd cl outer A₀ base h₀ L m s Q E B F X₀ N T hk' (by lia) (by lia) hret
theorem hw_of_wc {w mx} {c:Wc} {da:List Addr} {σ:Ws} {η:Hs} {X:Led} {f:Addr} {dn:Nat} {args:List Value} {P:Value → Ws → Led → Prop} (hH:HI w c da σ η X) (C:WC w mx c σ (Dk η.ds ++ X) f dn args P) :
    HW w mx c da σ η X f dn args (fun r σ' η' tl=>η' = η ∧ P r σ' tl):=by
  intro rest hs hg
  have e:Hw c σ η ++ rest = Wk c σ ++ (Hk c η ++ rest):=List.append_assoc _ _ _
  have C1:=C (Hk c η ++ rest) (fun p hp=>(List.mem_append.mp hp).elim (fun k=>iL (iC k)) (fun k=>iR (hs p k))) (Gt.app hH.gw (hw_wk hg))
  rw [e]
  refine does_gt C1 fun r n tl hR g=>?_
  refine byP fun _ q9=>?_
  obtain ⟨σ', rfl, hI, hE, hP⟩:=hR
  refine q9 ?_
  refine ⟨σ', η, (List.append_assoc _ _ _).symm, ?_, HExt.refl _, hE.wx, ?_, rfl, hP⟩
  · have gX:Gt (Hk c η) (X ++ tl):=Gt.app hH.gt (fun q hq=>g q (iR (iL hq)))
    exact { hH with inv:=by rw [← List.append_assoc]; exact hI, gw:=Gt.wk hH.gw, gt:=gX }
  · exact g
theorem hw_of_hp {w mx} {c:Wc} {da:List Addr} {σ:Ws} {η:Hs} {X:Led} {f:Addr} {dn:Nat} {args:List Value} {P:Value → Prop} (hp:∀ rest, (∀ p ∈ X, p ∈ rest) → Gt (Hw c σ η) rest → HP w mx c da X σ η rest f dn args P) :
    HW w mx c da σ η X f dn args (fun r σ' _ _=>σ'.num = σ.num ∧ P r):=by
  intro rest hs hg
  refine does_gt (hp rest hs hg) fun r n tl hR g=>?_
  refine byP fun _ q9=>?_
  obtain ⟨σ', η', rfl, hH, hE, h1, h2, h3, hP⟩:=hR
  refine q9 ?_
  exact ⟨σ', η', rfl, hH.grow (Gt.hw hE (fun q hq=>g q (iL hq))), hE, ⟨Int.le_of_eq h1.symm, fun y v e=>by rw [h2]; exact e⟩, g, h1, hP⟩
structure ThOk (th:Th) (δ:Int → Addr) (da:List Addr) (c:Wc) (η:Hs) (X:Led):Prop where
  x:ThX th δ da X
  led:ThLed th (Hk c η ++ X)
  apart:th.Apart
theorem PV.Ok.fits {v:PV} (h:v.Ok):v.Fits:=by
  cases v with
  | sym s=>rcases h with rfl | rfl <;> (show PyData.strOk _ = true; decide +kernel)
  | _=>trivial
theorem Pl.Ok.fits {th:Th}:∀ {p:Pl}, p.Ok → (p.cd th).Fits
  | .plain v, h=>PV.Ok.fits h
  | .text s, h=>by rcases h with rfl | rfl | rfl <;> (show PyData.strOk _ = true; decide +kernel)
  | .thing _, _=>trivial
  | .l0, _=>trivial
  | .l1 p, h=>Pl.Ok.fits (p:=p) h
  | .l2 p q, h=>⟨Pl.Ok.fits (p:=p) h.1, Pl.Ok.fits (p:=q) h.2⟩
  | .range _ _ _, _=>trivial
theorem cd_dep {th:Th}:∀ p:Pl, (p.cd th).dep = p.dep
  | .plain _=>rfl
  | .text _=>rfl
  | .thing _=>rfl
  | .l0=>rfl
  | .l1 p=>by simp only [Pl.cd, Cd.dep, Pl.dep, cd_dep p]
  | .l2 p q=>by simp only [Pl.cd, Cd.dep, Pl.dep, cd_dep p, cd_dep q]
  | .range _ _ _=>rfl
structure ThH (th:Th) (δ:Int → Addr) (da:List Addr) (η:Hs) (X:Led):Prop where
  x:ThX th δ da X
  nums:∀ i, 0 ≤ i → i < 3 → ∃ es n t, (δ i, es, n) ∈ η.ds ∧ has "number" es (.int (th.num i) t)
  apart:th.Apart
theorem ThX.mono {th δ da} {X Y:Led} (h:ThX th δ da X) (s:∀ p ∈ X, p ∈ Y):ThX th δ da Y:=⟨s _ h.m0, s _ h.m1, s _ h.m2, h.d0, h.d1, h.d2⟩
theorem ThH.mono {th δ da η} {X Y:Led} (h:ThH th δ da η X) (s:∀ p ∈ X, p ∈ Y):ThH th δ da η Y:=⟨h.x.mono s, h.nums, h.apart⟩
theorem ThH.ext {th δ da η η'} {X:Led} (h:ThH th δ da η X) (e:HExt η η'):ThH th δ da η' X:=⟨h.x, fun i h0 h3=>by
  refine byP fun _ q9=>?_
  obtain ⟨es, n, t, h1, h2⟩:=h.nums i h0 h3
  obtain ⟨es', n', h4, h5⟩:=e.ds _ _ _ h1
  refine q9 ?_
  exact ⟨es', n', t, h4, (h5 _ (by decide +kernel)).trans h2⟩, h.apart⟩
theorem ThH.led {th δ da η} {X l:Led} (h:ThH th δ da η X) (sd:∀ p ∈ Dk η.ds, p ∈ l) (sx:∀ p ∈ X, p ∈ l):ThLed th l:=by
  have key:∀ i, 0 ≤ i → i < 3 → ∀ a C, (a, instObj C (δ i)) ∈ X → ∃ es t, Ins l a C es ∧ has "number" es (.int (th.num i) t):=fun i h0 h3 a C hm=>by
    refine byP fun _ q9=>?_
    obtain ⟨es, n, t, h1, h2⟩:=h.nums i h0 h3
    refine q9 ?_
    exact ⟨es, t, ⟨δ i, n, sx _ hm, sd _ (List.mem_map.mpr ⟨_, h1, rfl⟩)⟩, h2⟩
  exact ⟨key 0 (by decide) (by decide) _ _ h.x.m0, key 1 (by decide) (by decide) _ _ h.x.m1, key 2 (by decide) (by decide) _ _ h.x.m2⟩
theorem pl_cv {w mx} {th:Th} {l:Led} {v:Value} {p:Pl} {dn:Nat} (hv:VIn th l v p) (ht:ThLed th l) (hd:p.dep ≤ 12) (hn:3 * p.dep + 6 ≤ dn):CV w mx l v dn (p.cd th):=fun l' s=>by
  rw [cd_dat]
  exact CodeD.le (code_ok p) hn (hv.mono s) (ht.mono s) (by lia:(p.dep:Int) ≤ 12) (.inr ⟨rfl, rfl, rfl⟩)
theorem pair_H {w mx} {c:Wc} {da:List Addr} {σ:Ws} {η:Hs} {X:Led} {th:Th} {δ:Int → Addr} {v u:Value} {p q:Pl} (hH:HI w c da σ η X) (T:ThH th δ da η X) (hv:VIn th X v p) (hu:VIn th X u q) (hp:p.Ok) (hq:q.Ok) (dp:p.dep ≤ 12) (dq:q.dep ≤ 12) (b:Bool) (hb:b = true ↔ p = q) :
    HW w mx c da σ η X 723 100 [.ref c.wa, v, u, .bool b] (fun r σ' _ _=>σ'.num = σ.num ∧ r = .bool true):=by
  have ht:ThLed th (Hk c η ++ X):=T.led (fun p hp=>iL (iC hp)) (fun p hp=>iR hp)
  have sX:∀ p ∈ X, p ∈ Hk c η ++ X:=fun p hp=>iR hp
  have C1:CV w mx (Hk c η ++ X) v 94 (p.cd th):=pl_cv (hv.mono sX) ht dp (by lia)
  have C2:CV w mx (Hk c η ++ X) u 94 (q.cd th):=pl_cv (hu.mono sX) ht dq (by lia)
  have e1:=cd_dep (th:=th) p
  have e2:=cd_dep (th:=th) q
  cases b with
  | true =>
    have e:p = q:=hb.mp rfl
    subst e
    exact hw_of_hp fun rest hs hg=>pair_true hH hs hg C1 C2 hp.fits hq.fits (by lia) (by lia) rfl (by decide)
      ((hash_ok T.x p hv hp.h (by lia)).le (by lia)) ((hash_ok T.x p hu hp.h (by lia)).le (by lia)) (fun e h k=>hS_mono e p h k) (fun η h k h1 h2=>Option.some.inj (h1.symm.trans h2))
  | false =>
    have ne:p.cd th ≠ q.cd th:=fun e=>by simpa using hb.mpr (cd_inj T.apart hp hq e)
    refine hw_of_hp fun rest hs hg=>?_
    have D:=pair_false (wa:=.ref c.wa) (C1.mono (k:=Hw c σ η ++ rest) (fun p hp=>(List.mem_append.mp hp).elim (fun h=>iL (iR h)) (fun h=>iR (hs p h))))
      (C2.mono (fun p hp=>(List.mem_append.mp hp).elim (fun h=>iL (iR h)) (fun h=>iR (hs p h)))) hp.fits hq.fits (by lia) (by lia) ne (by decide)
    refine does_gt D fun r n tl hR _=>?_
    obtain ⟨hr, rfl⟩:=hR
    exact ⟨σ, η, rfl, hH, HExt.refl _, rfl, rfl, rfl, hr⟩
theorem made_H {w mx} {c:Wc} {da:List Addr} {σ:Ws} {η:Hs} {X:Led} {th:Th} {p:Pl} {pv:Value} {lt:Addr} {nt:Nat} (hH:HI w c da σ η X) (hd:DatIn X pv p.dat) (ht:(lt, listOf [.ref th.a0, .ref th.a1, .ref th.a2].toArray nt) ∈ X) (hp:p.Ok) (dp:p.dep ≤ 2) :
    HW w mx c da σ η X 709 130 [.ref c.wa, pv, .ref lt] (fun r σ' η' tl=>η' = η ∧ Vn th tl r p σ.num σ'.num) :=
  hw_of_wc hH ((made_ok p hH.inv (hd.mono fun p hp=>iR hp) (iR ht) hp).le (by lia))
noncomputable def Ap (as:List Nat) (l:Led):Prop:=∀ a ∈ as, ∀ p ∈ l, @Ne Nat p.1 a
theorem Ap.at {as:List Nat} {l:Led} {a:Addr} (h:Ap as l) (k:(a:Nat) ∈ as):∀ p ∈ l, p.1 ≠ a:=h a k
theorem Ap.subA {as:List Nat} {l k:Led} (h:Ap as l) (t:∀ p ∈ k, ∃ o, (p.1, o) ∈ l):Ap as k:=fun b hb p hp=>by
  obtain ⟨o, ho⟩:=t p hp
  exact h b hb (p.1, o) ho
theorem Ap.cons {as:List Nat} {l:Led} {a:Nat} (h:∀ p ∈ l, @Ne Nat p.1 a) (k:Ap as l):Ap (a :: as) l:=fun b hb p hp=>(List.mem_cons.mp hb).elim (fun e=>by rw [e]; exact h p hp) fun hb=>k b hb p hp
theorem Ap.nil {l:Led}:Ap [] l:=fun _ h=>nomatch h
theorem Ap.app {as:List Nat} {l k:Led} (h:Ap as l) (g:Ap as k):Ap as (l ++ k):=fun b hb p hp=>(List.mem_append.mp hp).elim (h b hb p) (g b hb p)
theorem gt_step {c:Wc} {σ₀ σ:Ws} {η₀ η:Hs} {rest t tl:Led} (e:HExt η₀ η) (g:Gt (Hw c σ₀ η₀ ++ rest) t) (h:Gt (Hw c σ η ++ (rest ++ t)) tl):Gt (Hw c σ₀ η₀ ++ rest) (t ++ tl):=Gt.app g fun q hq p hp=>by
  rcases List.mem_append.mp hq with hq | hq
  · have hz:∃ o, (q.1, o) ∈ Hw c σ η:=by
      rcases hw_mem.mp hq with hq | hq
      · obtain ⟨o, ho⟩:=Wk.subA (σ':=σ₀) (Y:=Wk c σ) (fun q hq=>hq) q hq
        exact ⟨o, hw_mem.mpr (.inl ho)⟩
      · rcases List.mem_cons.mp hq with rfl | hq
        · exact ⟨η.so, hw_mem.mpr (.inr (.head _))⟩
        · have:q.1 ∈ η.ds.map (·.1):=by
            rw [e.ad]
            obtain ⟨z, hz, rfl⟩:=List.mem_map.mp hq
            exact List.mem_map.mpr ⟨z, hz, rfl⟩
          obtain ⟨z, hz, e⟩:=List.mem_map.mp this
          exact ⟨dictOf z.2.1 z.2.2, hw_mem.mpr (.inr (.tail _ (List.mem_map.mpr ⟨z, hz, by rw [← e]⟩)))⟩
    obtain ⟨o, ho⟩:=hz
    exact h (q.1, o) (iL ho) p hp
  · exact h q (iR (iL hq)) p hp
theorem comp_loopT {prog:Program} {w:World} {A:Around} {h₀:Heap} {L:Addr} {m:Str → Option Value} {env:Env} {ct elt:PySem.Expr} {x:Str} {scope:Scope} {cl:List (Str × Addr)} {s:Shared} {S:Led → Prop} {P:Nat → Value → Prop} {Fin:List Value → Led → Prop} {n:Nat}
    (J:Nat → List Value → Led → Prop)
    (step:∀ i ys news, i < n → J i ys news → ∀ v I oI C oC D m₂ h tk (E':Value → Shared → Prop), P i v → LCg.NsObj oC m₂ → m₂ x = some v → Fr h₀ L h m → News h₀ L h ((I, oI) :: (C, oC) :: (D, LCg.lst ys) :: news) → LCg.Off3 I C D news → ((@Ne Nat I C) ∧ (@Ne Nat I D) ∧ (@Ne Nat C D)) →
      wpAny (model prog w) A (isTrue ct (compEnvC scope cl C env) (eval ct (compEnvC scope cl C env))) (fun ok s'=>if ok = true then
        wpAny (model prog w) A (eval elt (compEnvC scope cl C env)) (LCg.CompEnd h₀ L m { s with heap:=h, toks:=tk } I oI C oC D (LCg.lst ys) S (fun y news'=>J (i + 1) (ys ++ [y]) news')) E' s'
        else LCg.CompEnd h₀ L m { s with heap:=h, toks:=tk } I oI C oC D (LCg.lst ys) S (fun _ news'=>J (i + 1) ys news') Value.none s') E' { s with heap:=h, toks:=tk })
    (fin:∀ ys news, J n ys news → Fin ys news) {news₀:Led} (J0:J 0 [] news₀):LCt.CompRestT prog w A h₀ L m env ct elt x scope cl s S P Fin n 0 [] news₀:=by
  have mono:∀ {s₁:Shared} {I:Addr} {oI:Obj} {C:Addr} {oC:Obj} {D:Addr} {oD:Obj} {R R':Value → Led → Prop} (y:Value) (s':Shared), (∀ n, R y n → R' y n) → LCg.CompEnd h₀ L m s₁ I oI C oC D oD S R y s' → LCg.CompEnd h₀ L m s₁ I oI C oC D oD S R' y s':=fun y s' k hq=>by
    refine byP fun _ q9=>?_
    obtain ⟨h', tk', n', e, F, N, o, q, r⟩:=hq
    refine q9 ?_
    exact ⟨h', tk', n', e, F, N, o, q, k _ r⟩
  have key:∀ (k i:Nat), i + k = n → ∀ ys news, J i ys news → LCt.CompRestT prog w A h₀ L m env ct elt x scope cl s S P Fin k i ys news:=by
    intro k
    induction k with
    | zero =>
      intro i hi ys news hJ
      have e:i = n:=by lia
      subst e
      exact fin ys news hJ
    | succ k ih =>
      intro i hi ys news hJ
      refine LCt.CompRestT.succ fun v I oI C oC D m₂ h tk E' h1 h2 h3 h4 h5 h6 h7=>?_
      refine wpAny_mono (step i ys news (by lia) hJ v I oI C oC D m₂ h tk E' h1 h2 h3 h4 h5 h6 h7) (fun ok s' hq=>?_) fun _ _ e=>e
      cases ok with
      | true =>
        simp only [if_true] at hq ⊢
        exact wpAny_mono hq (fun y s'' hq=>mono y s'' (fun _ r=>ih (i + 1) (by lia) _ _ r) hq) fun _ _ e=>e
      | false =>
        simp only [Bool.false_eq_true, if_false] at hq ⊢
        exact mono _ s' (fun _ r=>ih (i + 1) (by lia) _ _ r) hq
  exact key n 0 (by lia) [] news₀ J0
theorem comp_loopP {prog:Program} {w:World} {A:Around} {h₀:Heap} {L:Addr} {m:Str → Option Value} {env:Env} {elt:PySem.Expr} {x x₂:Str} {scope:Scope} {cl:List (Str × Addr)} {s:Shared} {S:Led → Prop} {P:Nat → Value → Prop} {Fin:List Value → Led → Prop} {n:Nat}
    (J:Nat → List Value → Led → Prop)
    (step:∀ i ys news, i < n → J i ys news → ∀ v, P i v → ∃ (t:Addr) (ot:Obj) (v₁ v₂:Value) (nt:Nat), v = .ref t ∧ (t, ot) ∈ news ∧ ot.cls = .type "tuple" ∧ ot.data = .seq #[v₁, v₂] nt ∧
      ∀ I oI C oC D m₂ h tk (E':Value → Shared → Prop), LCg.NsObj oC m₂ → m₂ x = some v₁ → m₂ x₂ = some v₂ → Fr h₀ L h m → News h₀ L h ((I, oI) :: (C, oC) :: (D, LCg.lst ys) :: news) → LCg.Off3 I C D news → ((@Ne Nat I C) ∧ (@Ne Nat I D) ∧ (@Ne Nat C D)) →
      wpAny (model prog w) A (eval elt (compEnvC scope cl C env)) (LCg.CompEnd h₀ L m { s with heap:=h, toks:=tk } I oI C oC D (LCg.lst ys) S (fun y news'=>J (i + 1) (ys ++ [y]) news')) E' { s with heap:=h, toks:=tk })
    (fin:∀ ys news, J n ys news → Fin ys news) {news₀:Led} (J0:J 0 [] news₀):LCp.CompRestP prog w A h₀ L m env elt x x₂ scope cl s S P Fin n 0 [] news₀:=by
  have key:∀ (k i:Nat), i + k = n → ∀ ys news, J i ys news → LCp.CompRestP prog w A h₀ L m env elt x x₂ scope cl s S P Fin k i ys news:=by
    intro k
    induction k with
    | zero =>
      intro i hi ys news hJ
      have e:i = n:=by lia
      subst e
      exact fin ys news hJ
    | succ k ih =>
      intro i hi ys news hJ
      refine LCp.CompRestP.succ fun v hP=>?_
      refine byP fun _ q9=>?_
      obtain ⟨t, ot, v₁, v₂, nt, e1, e2, e3, e4, R⟩:=step i ys news (by lia) hJ v hP
      refine q9 ?_
      refine ⟨t, ot, v₁, v₂, nt, e1, e2, e3, e4, fun I oI C oC D m₂ h tk E' h2 h3 h3' h4 h5 h6 h7=>?_⟩
      refine wpAny_mono (R I oI C oC D m₂ h tk E' h2 h3 h3' h4 h5 h6 h7) (fun y s' hq=>?_) fun _ _ e=>e
      refine byP fun _ q9=>?_
      obtain ⟨h', tk', n', e, F, N, o, q, r⟩:=hq
      refine q9 ?_
      exact ⟨h', tk', n', e, F, N, o, q, ih (i + 1) (by lia) _ _ r⟩
  exact key n 0 (by lia) [] news₀ J0
theorem news_fn {h₀ h:Heap} {L a:Addr} {l:Led} {o o':Obj} (N:News h₀ L h l) (h1:(a, o) ∈ l) (h2:(a, o') ∈ l):o = o':=Option.some.inj ((N _ h1).1.symm.trans (N _ h2).1)
noncomputable def cutA (d:Addr) (X:Led):Led:=X.filter fun p=>decide (@Ne Nat p.1 d)
theorem mem_cutA {d:Addr} {X:Led} {p:Addr × Obj}:p ∈ cutA d X ↔ p ∈ X ∧ @Ne Nat p.1 d:=by simp [cutA]
theorem cutA_sub {d:Addr} {X:Led}:∀ p ∈ cutA d X, p ∈ X:=fun _ h=>(mem_cutA.mp h).1
theorem cutA_obj {d a:Addr} {X:Led} {o o':Obj} (fn:∀ o, (d, o) ∈ X → o = o') (h:(a, o) ∈ X) (hne:o ≠ o'):(a, o) ∈ cutA d X:=mem_cutA.mpr ⟨h, fun e=>by
  have e':a = d:=e
  subst e'
  exact hne (fn _ h)⟩
theorem inst_ne_dict {C d:Addr} {es:List DictEntry} {n:Nat}:instObj C d ≠ dictOf es n:=fun e=>nomatch (congrArg Obj.cls e)
theorem list_ne_dict {vs:Array Value} {k:Nat} {es:List DictEntry} {n:Nat}:W.listOf vs k ≠ dictOf es n:=fun e=>by
  have h:=congrArg Obj.cls e
  simp only [W.listOf, dictOf] at h
  exact absurd h (by simp)
theorem HI.take {w c da σ η} {X:Led} {d:Addr} {es:List DictEntry} {n:Nat} (H:HI w c da σ η X) (hm:(d, dictOf es n) ∈ X) (hi:(has "ident" es .none ∧ es.length ≤ 30) ∨ ∃ i t, has "ident" es (.int i t)) (fn:∀ o, (d, o) ∈ X → o = dictOf es n) :
    HI w c (d :: da) σ { η with ds:=(d, es, n) :: η.ds } (cutA d X):=by
  have hk:Hk c { η with ds:=(d, es, n) :: η.ds } = (c.sy, η.so) :: (d, dictOf es n) :: Dk η.ds:=rfl
  have sub:∀ p ∈ Dk η.ds ++ X, p ∈ Dk ((d, es, n) :: η.ds) ++ cutA d X:=fun p hp=>by
    rcases List.mem_append.mp hp with h | h
    · exact iL (.tail _ h)
    · by_cases e:@Eq Nat p.1 d
      · have:p = (d, dictOf es n):=by
          obtain ⟨a, o⟩:=p
          have e':a = d:=e
          subst e'
          rw [fn o h]
        rw [this]; exact iL (.head _)
      · exact iR (mem_cutA.mpr ⟨h, e⟩)
  have gW:Gt (Wk c σ) (Dk ((d, es, n) :: η.ds) ++ cutA d X):=fun q hq p hp=>by
    rcases List.mem_append.mp hp with h | h
    · rcases List.mem_cons.mp h with rfl | h
      · exact H.inv.gt q hq _ (iR hm)
      · exact H.inv.gt q hq _ (iL h)
    · exact H.inv.gt q hq _ (iR (cutA_sub _ h))
  refine ⟨H.inv.mono gW sub, fun q hq p hp=>?_, H.dict, H.lo, H.sint, H.cnt, fun q hq=>?_, ?_, ?_, fun q hq p hp=>?_⟩
  · rw [hk] at hp
    rcases List.mem_cons.mp hp with rfl | hp
    · exact H.gw q hq _ (.head _)
    · rcases List.mem_cons.mp hp with rfl | hp
      · exact H.inv.gt q hq _ (iR hm)
      · exact H.gw q hq _ (.tail _ hp)
  · rcases List.mem_cons.mp hq with rfl | hq
    · exact hi
    · exact H.ids q hq
  · have h0:=H.nod
    rw [hk]
    simp only [Hk, List.map_cons, List.nodup_cons, List.mem_cons, not_or] at h0 ⊢
    refine ⟨⟨fun e=>?_, h0.1⟩, fun e=>?_, h0.2⟩
    · exact H.gt (c.sy, η.so) (.head _) _ hm e
    · obtain ⟨q, hq, e⟩:=List.mem_map.mp e
      exact H.gt q (.tail _ hq) _ hm e
  · rw [← H.ad]; rfl
  · rw [hk] at hq
    have hp':=mem_cutA.mp hp
    rcases List.mem_cons.mp hq with rfl | hq
    · exact H.gt _ (.head _) p hp'.1
    · rcases List.mem_cons.mp hq with rfl | hq
      · exact Ne.symm hp'.2
      · exact H.gt q (.tail _ hq) p hp'.1
theorem HW_take {c:Wc} {σ:Ws} {η:Hs} {d:Addr} {es:List DictEntry} {n:Nat} {p:Addr × Obj}:p ∈ Hw c σ { η with ds:=(d, es, n) :: η.ds } ↔ p = (d, dictOf es n) ∨ p ∈ Hw c σ η:=by
  simp only [Hw, Hk, Dk, List.map_cons, List.mem_append, List.mem_cons]
  constructor
  · rintro (h | h | h | h)
    · exact .inr (.inl h)
    · exact .inr (.inr (.inl h))
    · exact .inl h
    · exact .inr (.inr (.inr h))
  · rintro (h | h | h | h)
    · exact .inr (.inr (.inl h))
    · exact .inl h
    · exact .inr (.inl h)
    · exact .inr (.inr (.inr h))
theorem HI.drop {w c da σ σ' η} {X Y Z:Led} (H:HI w c da σ η X) (H':HI w c da σ' η Y) (hk:σ'.kvs = σ.kvs) (hn:σ.num ≤ σ'.num) (s:∀ p ∈ X, p ∈ Z) (t:∀ p ∈ Z, p ∈ Y):HI w c da σ' η Z:=by
  have gW:Gt (Wk c σ') (Dk η.ds ++ Z):=fun q hq p hp=>H'.inv.gt q hq p ((List.mem_append.mp hp).elim (iL) fun h=>iR (t _ h))
  have m:AllMod σ'.kvs σ'.num (Dk η.ds ++ Z):=by
    rw [hk]
    refine AllMod.up hn ?_
    exact H.inv.mods.mono fun p hp=>(List.mem_append.mp hp).elim (iL) fun h=>iR (s _ h)
  exact { H' with inv:={ H'.inv with gt:=gW, mods:=m }, gt:=fun q hq p hp=>H'.gt q hq p (t p hp) }
structure Hy (w:World) (k:Wc) (da:List Addr) (σ0:Ws) (η0:Hs) (X rest:Led) (σ:Ws) (η:Hs) (T R:Led):Prop where
  hi:HI w k da σ η (X ++ T)
  xs:∀ p ∈ X, p ∈ rest
  sub:∀ p ∈ rest ++ T, p ∈ R
  gr:Gt (Hw k σ η) R
  gt:Gt (Hw k σ0 η0 ++ rest) T
  he:HExt η0 η
  wx:WX σ0 σ
theorem Gt.hwr {c:Wc} {σ σ':Ws} {η η':Hs} {l:Led} (e:HExt η η') (g:Gt l (Hw c σ η)):Gt l (Hw c σ' η'):=(Gt.hw e g.symm).symm
theorem Hy.start {w:World} {k:Wc} {da:List Addr} {σ:Ws} {η:Hs} {X rest:Led} (hH:HI w k da σ η X) (hs:∀ p ∈ X, p ∈ rest) (hg:Gt (Hw k σ η) rest):Hy w k da σ η X rest σ η [] rest :=
  ⟨by rw [List.append_nil]; exact hH, hs, fun p hp=>by rwa [List.append_nil] at hp, hg, Gt.nil, HExt.refl _, WX.refl _⟩
theorem Hy.xr {w:World} {k:Wc} {da:List Addr} {σ0 σ:Ws} {η0 η:Hs} {X rest T R:Led} (Y:Hy w k da σ0 η0 X rest σ η T R):∀ p ∈ X ++ T, p ∈ R:=fun p hp=>Y.sub p ((List.mem_append.mp hp).elim (fun h=>iL (Y.xs p h)) (iR))
theorem Hy.call {w:World} {k:Wc} {da:List Addr} {σ0 σ σ':Ws} {η0 η η':Hs} {X rest T R tl:Led} (Y:Hy w k da σ0 η0 X rest σ η T R) (hI:HI w k da σ' η' ((X ++ T) ++ tl)) (hE:HExt η η') (hW:WX σ σ') (g:Gt (Hw k σ η ++ R) tl):Hy w k da σ0 η0 X rest σ' η' (T ++ tl) (R ++ tl) where
  hi:=by rw [← List.append_assoc]; exact hI
  xs:=Y.xs
  sub:=fun p hp=>by
    rw [← List.append_assoc] at hp
    exact (List.mem_append.mp hp).elim (fun h=>iL (Y.sub p h)) (iR)
  gr:=Gt.app (Gt.hw hE Y.gr) (Gt.hw hE g.l)
  gt:=gt_step Y.he Y.gt (Gt.appl g.l (Gt.subl Y.sub g.r))
  he:=Y.he.trans hE
  wx:=Y.wx.trans hW
noncomputable def Hyo (w:World) (k:Wc) (da:List Addr) (σ0:Ws) (η0:Hs) (X rest:Led) (P:Value → Ws → Hs → Led → Prop):Value → Led → Prop:=Owes (Hw k σ0 η0 ++ rest) (fun r n' tl=>∃ σ' η', n' = Hw k σ' η' ++ rest ∧ HI w k da σ' η' (X ++ tl) ∧ HExt η0 η' ∧ WX σ0 σ' ∧ Gt (Hw k σ0 η0 ++ rest) tl ∧ P r σ' η' tl)
theorem Hy.owes {w:World} {k:Wc} {da:List Addr} {σ0 σ:Ws} {η0 η:Hs} {X rest T R n:Led} {P:Value → Ws → Hs → Led → Prop} {r:Value} (Y:Hy w k da σ0 η0 X rest σ η T R) (s:∀ p ∈ Hw k σ η ++ R, p ∈ n) (hP:P r σ η T):Hyo w k da σ0 η0 X rest P r n :=
  ⟨Hw k σ η ++ rest, T, fun p hp=>s p (by
    rw [List.append_assoc] at hp
    exact (List.mem_append.mp hp).elim (iL) fun h=>iR (Y.sub p h)), Y.gt, σ, η, rfl, Y.hi, Y.he, Y.wx, Y.gt, hP⟩
noncomputable def DoesR (w:World) (mx:Mx) (f:Addr) (dn:Nat) (args:List Value) (news:Led) (R:Value → Led → Led → Prop):Prop :=
  ∀ (dp un:Nat) (cn:Str) (cs:Scope) (a:Addr) (ccd:Value) (cl:List (Str × Addr)) (outer:List Env) (A₀:Around) (base h₀:Heap) (L:Addr) (m:Str → Option Value) (s:Shared)
    (Q E:Value → Shared → Prop),
    Below A₀ base outer h₀ → Fr h₀ L s.heap m → (K9 w.params).In h₀ → News h₀ L s.heap news → TopX mx h₀ → cs.kind = .function → dp + dn < recursionLimit → un + 8 * dn < cLine →
    (∀ r news' tl h' tk', Fr h₀ L h' m → News h₀ L h' (news' ++ tl) → Gt news tl → R r news' tl → Q r { s with heap:=h', toks:=tk' }) →
    wpAny (model PR w) (ktrTop dp un (some []) cn cs L a ccd cl outer) (call (.ref f) args) Q E s
noncomputable def HWR (w:World) (mx:Mx) (c:Wc) (da:List Addr) (σ:Ws) (η:Hs) (X:Led) (f:Addr) (dn:Nat) (args:List Value) (P:Value → Ws → Hs → Led → Prop):Prop :=
  ∀ rest, (∀ p ∈ X, p ∈ rest) → Gt (Hw c σ η) rest → DoesR w mx f dn args (Hw c σ η ++ rest) (fun r n' tl=>∃ σ' η', n' = Hw c σ' η' ++ rest ∧ HI w c da σ' η' (X ++ tl) ∧ HExt η η' ∧ WX σ σ' ∧ Gt (Hw c σ η ++ rest) tl ∧ P r σ' η' tl)
section
variable {w mx} {b:Amb w mx} {m:Fm} {n:Led} {k:Wc} {da:List Addr} {σ0 σ:Ws} {η0 η:Hs} {X rest T R heads:Led}
theorem Tv.hy {f:Addr} {d dn:Nat} {args:List Value} {P':Value → Ws → Hs → Led → Prop} {P:Value → Led → Prop} (C:HW w mx k da σ η (X ++ T) f d args P') (Y:Hy w k da σ0 η0 X rest σ η T R) (hh:Gt heads (Hw k σ η ++ R)) (hr:b.Room dn)
    (h:∀ r σ' η' tl, Hy w k da σ0 η0 X rest σ' η' (T ++ tl) (R ++ tl) → HExt η η' → WX σ σ' → Gt heads (Hw k σ' η' ++ (R ++ tl)) → P' r σ' η' tl → P r (heads ++ (Hw k σ' η' ++ (R ++ tl)))) (hd:d < dn):Tv b m (heads ++ (Hw k σ η ++ R)) (call (.ref f) args) P:=fun Q E h₁ tk F N ret=>by
  have perm:∀ {a b c:Led}, ∀ p ∈ a ++ (b ++ c), p ∈ b ++ (a ++ c):=fun p hp=>(List.mem_append.mp hp).elim (fun h=>iR (iL h)) fun h=>(List.mem_append.mp h).elim (iL) fun h=>iR (iR h)
  refine does_use (C (heads ++ R) (fun p hp=>iR (Y.xr p hp)) (Gt.app (fun q hq p hp=>Ne.symm (hh p hp q (iL hq))) Y.gr)) b.B F b.X (News.of N perm) b.T b.k (hr d hd).1 (hr d hd).2 fun r n' tl h' tk' F' N' g z9=>?_
  refine byP fun _ q9=>?_
  obtain ⟨σ', η', e, hI, hE, hW, _, hP⟩:=z9
  refine q9 ?_
  subst e
  have g2:Gt (Hw k σ η ++ R) tl:=Gt.subl (fun p hp=>(List.mem_append.mp hp).elim (iL) fun h=>iR (iR h)) g
  refine ret _ _ _ _ F' (News.of N' fun p hp=>?_) (h r σ' η' tl (Y.call hI hE hW g2) hE hW (Gt.app (Gt.hwr hE fun q hq p hp=>hh q hq p (iL hp)) (Gt.app (fun q hq p hp=>hh q hq p (iR hp)) (Gt.subl (fun p hp=>iR (iL hp)) g))) hP)
  rw [List.append_assoc, List.append_assoc]
  exact perm p hp
theorem DoesR.at {f:Addr} {dn:Nat} {args:List Value} {n:Led} {Rr:Value → Led → Led → Prop} (C:DoesR w mx f dn args n Rr) {dp un:Nat} {gd:Option (List Code)} (hg:gd = some []) {cn:Str} {cs:Scope} {a:Addr} {ccd:Value} {cl:List (Str × Addr)} {outer:List Env} {A₀:Around} {base h₀:Heap} {L:Addr} {mm:Str → Option Value} {s:Shared}
    {Q E:Value → Shared → Prop} (B:Below A₀ base outer h₀) (F:Fr h₀ L s.heap mm) (Xk:(K9 w.params).In h₀) (N:News h₀ L s.heap n) (Tt:TopX mx h₀) (hk:cs.kind = .function) (hd:dp + dn < recursionLimit) (hu:un + 8 * dn < cLine)
    (ret:∀ r news' tl h' tk', Fr h₀ L h' mm → News h₀ L h' (news' ++ tl) → Gt n tl → Rr r news' tl → Q r { s with heap:=h', toks:=tk' }):wpAny (model PR w) (ktrTop dp un gd cn cs L a ccd cl outer) (call (.ref f) args) Q E s:=by
  subst hg
  exact C dp un cn cs a ccd cl outer A₀ base h₀ L mm s Q E B F Xk N Tt hk hd hu ret
theorem Tv.and2 {e1 e2:Expr} {es:List Expr} {pos:Pos} {P:Value → Led → Prop} (h:Tv b m n (eval e1 b.env) fun v n'=>∃ c, v = .bool c ∧ (c = false → P (.bool false) n') ∧ (c = true → Tv b m n' (eval (.BoolOp .And (e2 :: es) pos) b.env) P)):Tv b m n (eval (.BoolOp .And (e1 :: e2 :: es) pos) b.env) P:=fun Q E h₁ tk F N ret =>
  BoolOp_and (h _ E h₁ tk F N fun v h' tk' n' F' N' ⟨c, e, hf, ht⟩=>by
    subst e
    cases c with
    | false=>exact wpAny_truthy_bool (ret _ _ _ _ F' N' (hf rfl))
    | true=>exact wpAny_truthy_bool (ht rfl Q E h' _ F' N' ret))
theorem Tv.hmx {e0 e:Expr} {es:List Expr} {f:Str} {g:Addr} {p2 p3:Pos} {P:Value → Led → Prop} {pl:Sem Bool} (h0:Ev b m (heads ++ (Hw k σ η ++ R)) e0 (.ref k.wa)) (hm:MethOk w 681 f g) (hn:getL f σ.es = some none) (hk:keepIn (K9 w.params) (.ref g) = true)
    (h:Tv b m (heads ++ (Hw k σ η ++ R)) (spliced (backTo p3 (starEach (e :: es) b.env))) fun vs n'=>Tv b m n' (call (.ref g) (.ref k.wa :: vs)) P)
    (he:eval (Expr.Call (.Attribute e0 f p2) (e :: es) [] p3) b.env = (do let ov ← eval e0 b.env; standAt (Pos.atName p2); let x ← holding [ov] (getMethod ov f pl); match x with | (g, first)=>callWith p3 g first (backTo p3 (starEach (e :: es) b.env)) []))
    (hs:starEach (e :: es) b.env = (false, eval e b.env) :: starEach es b.env) (ha:((backTo p3 (starEach es b.env)).any fun x=>x.1) = false):Tv b m (heads ++ (Hw k σ η ++ R)) (eval (.Call (.Attribute e0 f p2) (e :: es) [] p3) b.env) P :=
  Tv.meth (h0 _ (Tv.getm (iR (iL hw_m0)) (iR (iL hw_m1)) hm hn (Tv.with1 hk h hs ha))) he
theorem Tv.htext {e0:Expr} {x:Str} {q dn:Nat} {p2 p3 p4:Pos} {P:Value → Led → Prop} {pl:Sem Bool} (h0:Ev b m (heads ++ (Hw k σ η ++ R)) e0 (.ref k.wa)) (Y:Hy w k da σ0 η0 X rest σ η T R) (hh:Gt heads (Hw k σ η ++ R)) (hr:b.Room dn)
    (h:∀ a σ' tl, Hy w k da σ0 η0 X rest σ' η (T ++ tl) (R ++ tl) → WX σ σ' → Gt heads (Hw k σ' η ++ (R ++ tl)) → (∀ th, VIn th tl (.ref a) (.text x)) → P (.ref a) (heads ++ (Hw k σ' η ++ (R ++ tl)))) (hd:96 < dn)
    (he:eval (Expr.Call (.Attribute e0 (ofString "text") p2) [.Constant (.str x) q p4] [] p3) b.env = (do let ov ← eval e0 b.env; standAt (Pos.atName p2); let fx ← holding [ov] (getMethod ov (ofString "text") pl); match fx with | (g, first)=>callWith p3 g first (backTo p3 (starEach [.Constant (.str x) q p4] b.env)) [])):Tv b m (heads ++ (Hw k σ η ++ R)) (eval (.Call (.Attribute e0 (ofString "text") p2) [.Constant (.str x) q p4] [] p3) b.env) P :=
  Tv.hmx h0 wm_text Y.hi.inv.ok.n_text (by k_is) (Tv.args1 (Tv.cstr fun t=>Tv.args0 (Tv.hy (hw_of_wc Y.hi (text_ok Y.hi.inv)) Y hh hr (fun r σ' η' tl Y' _ hW g ⟨e, a, es, e2, hF, hx⟩=>by
    subst e
    subst e2
    exact h a σ' tl Y' hW g fun th=>.text hF.1 hx) hd)) rfl) he rfl rfl
theorem Tv.fn {α:Type} {t:Sem α} {P:α → Led → Prop} (h:(∀ a o o', (a, o) ∈ n → (a, o') ∈ n → o = o') → Tv b m n t P):Tv b m n t P:=fun Q E h₁ tk F N ret=>h (fun _ _ _ h1 h2=>news_fn N h1 h2) Q E h₁ tk F N ret
theorem Ev.and2 {e1 e2:Expr} {pos:Pos} {x y:Bool} (h1:Ev b m n e1 (.bool x)) (h2:Ev b m n e2 (.bool y)):Ev b m n (.BoolOp .And [e1, e2] pos) (.bool (x && y)):=fun P h=>Tv.and2 (h1 _ ⟨x, rfl, fun e=>by
  subst e
  exact h, fun e=>by
  subst e
  exact fun Q E h₁ tk F N ret=>BoolOp_one (h2 P h Q E h₁ tk F N ret)⟩)
theorem Ev.cmpi {e0:Expr} {p2 p3:Pos} {q:Nat} {v:Value} {i:Int} {op:CmpOp} {x:Bool} (h1:Ev b m n e0 v) (hb:∀ (t:Tok) (A:Around) (Q:Value → Shared → Prop) (E:Value → Shared → Prop) (s:Shared), Q (.bool x) s → wpAny (model PR w) A (compareOp op v (.int i t)) Q E s) (hm:behindInMarks op (.Constant (.int i) q p2) = false):Ev b m n (.Compare e0 [op] [.Constant (.int i) q p2] p3) (.bool x):=fun P h =>
  Tv.cmpv (h1 _ (Tv.cint fun tk Q E h₁ tk' F N ret=>hb _ _ _ _ _ (ret _ _ _ _ F N h))) hm
theorem Tv.and0v {e:Expr} {pos:Pos} {P:Value → Led → Prop} (h:Tv b m n (eval e b.env) P):Tv b m n (eval (.BoolOp .And [e] pos) b.env) P:=fun Q E h₁ tk F N ret=>BoolOp_one (h Q E h₁ tk F N ret)
theorem Tv.idiv {a i:Int} {t u:Tok} {P:Value → Led → Prop} (hi:i ≠ 0) (hp:Builtin.divisionGoesByPylong a i = false) (h:∀ t, P (.int (a.fdiv i) t) n):Tv b m n (binaryOp .FloorDiv (.int a t) (.int i u)) P:=fun Q E h₁ tk F N ret=>by
  exact floordiv_int hi (ret _ _ _ _ F N (h _)) (.inl hp)
end
mutual
noncomputable def litOk:Dat → Bool
  | .none=>true
  | .bool _=>true
  | .int _=>true
  | .str _=>true
  | .list ds=>litOks ds
  | .tuple ds=>litOks ds
  | _=>false
noncomputable def litOks:List Dat → Bool
  | []=>true
  | d :: ds=>litOk d && litOks ds
end
theorem opt_lit (b:Option Int):litOk (optDat b) = true:=by cases b <;> simp [optDat, litOk]
theorem pl_lit:∀ p:Pl, litOk p.dat = true
  | .plain v=>by cases v <;> simp [Pl.dat, PV.dat, litOk, litOks]
  | .text _=>by simp [Pl.dat, litOk, litOks]
  | .thing _=>by simp [Pl.dat, litOk, litOks]
  | .l0=>by simp [Pl.dat, litOk, litOks]
  | .l1 p=>by simp [Pl.dat, litOk, litOks, pl_lit p]
  | .l2 p q=>by simp [Pl.dat, litOk, litOks, pl_lit p, pl_lit q]
  | .range a b o=>by simp [Pl.dat, litOk, litOks, opt_lit b]
mutual
theorem lit_reads {h₀ h:Heap} {L:Addr} {news:Led} (N:News h₀ L h news):∀ {v:Value} {d:Dat}, DatIn news v d → litOk d = true → ∃ as, Reads h v (kqdP d) as
  | _, _, .none, _=>⟨_, Reads.none⟩
  | _, _, .bool b, _=>⟨_, Reads.bool b⟩
  | _, _, .int i t, _=>⟨_, Reads.int i t⟩
  | _, _, .str x t, _=>⟨_, Reads.str x t⟩
  | _, _, .bytes _ _, hk=>absurd hk (by simp [litOk])
  | _, _, .list hm r, hk=>by
    obtain ⟨as, q⟩:=lit_readsAll N r (by simpa [litOk] using hk)
    rw [kqdP]
    exact ⟨_, reads_list_at (N.get hm) rfl rfl (by simpa [W.listOf] using q)⟩
  | _, _, .tuple hm r, hk=>by
    obtain ⟨as, q⟩:=lit_readsAll N r (by simpa [litOk] using hk)
    rw [kqdP]
    exact ⟨as, reads_tuple_at (N.get hm) rfl rfl q⟩
theorem lit_readsAll {h₀ h:Heap} {L:Addr} {news:Led} (N:News h₀ L h news):∀ {vs:List Value} {ds:List Dat}, DatAll news vs ds → litOks ds = true → ∃ as, ReadsAll h vs (kqdPs ds) as
  | _, _, .nil, _=>⟨_, ReadsAll.nil⟩
  | _, _, .cons hd r, hk=>by
    simp only [litOks, Bool.and_eq_true] at hk
    obtain ⟨as, q⟩:=lit_reads N hd hk.1
    obtain ⟨bs, p⟩:=lit_readsAll N r hk.2
    rw [kqdPs]
    exact ⟨_, ReadsAll.cons q p⟩
end
theorem small_int {i:Int} (h:i = 0 ∨ i = 1 ∨ i = 2):(PyData.int i).showable = true:=by rcases h with rfl | rfl | rfl <;> decide
structure Shw (m:Nat) (x:PyData):Prop where
  d:x.hasDict = false
  s:x.showable = true
  l:x.depth ≤ m
structure ShwL (m:Nat) (xs:List PyData):Prop where
  d:PyData.hasDictAll xs = false
  s:PyData.showableAll xs = true
  l:PyData.depthAll xs ≤ m
theorem ShwL.nil {m:Nat}:ShwL m []:=⟨by simp [PyData.hasDictAll], by simp [PyData.showableAll], by simp [PyData.depthAll]⟩
theorem ShwL.cons {m:Nat} {x:PyData} {xs:List PyData} (h:Shw m x) (k:ShwL m xs):ShwL m (x :: xs):=⟨by simp only [PyData.hasDictAll, h.d, k.d, Bool.or_false], by simp only [PyData.showableAll, h.s, k.s, Bool.and_true], by simp only [PyData.depthAll]; exact mle h.l k.l⟩
theorem Shw.list {m:Nat} {xs:List PyData} (h:ShwL m xs):Shw (m + 1) (.list xs):=⟨by simp only [PyData.hasDict, h.d], by simp only [PyData.showable, h.s], by simp only [PyData.depth]; exact Nat.succ_le_succ h.l⟩
theorem Shw.str {m:Nat} {x:Str}:Shw m (.str x):=⟨by simp [PyData.hasDict], by simp [PyData.showable], by simp [PyData.depth]⟩
theorem Shw.bool {m:Nat} {x:Bool}:Shw m (.bool x):=⟨by simp [PyData.hasDict], by simp [PyData.showable], by simp [PyData.depth]⟩
theorem Shw.none {m:Nat}:Shw m .none:=⟨by simp [PyData.hasDict], by simp [PyData.showable], by simp [PyData.depth]⟩
theorem Shw.int {m:Nat} {i:Int} (h:i = 0 ∨ i = 1 ∨ i = 2):Shw m (.int i):=⟨by simp [PyData.hasDict], small_int h, by simp [PyData.depth]⟩
theorem Shw.two {m:Nat} {x:Str} {d:PyData} (h:Shw m d):Shw (m + 1) (.list [.str x, d]):=.list (.cons .str (.cons h .nil))
theorem c3 {k:Int} (h:0 ≤ k ∧ k < 3):k = 0 ∨ k = 1 ∨ k = 2:=by lia
theorem pl_shw:∀ p:Pl, p.Ok → Shw (2 * p.dep + 3) (kqdP p.dat)
  | .plain (.int _), h=>.two (.int h)
  | .plain (.bool _), _=>.two .bool
  | .plain .none, _=>.two .none
  | .plain (.sym _), _=>.two .str
  | .text _, _=>.two .str
  | .thing _, h=>.two (.int (c3 h))
  | .l0, _=>.two (.list (m:=3) .nil)
  | .l1 p, h=>.two (.list (m:=2 * p.dep + 3) (.cons (pl_shw p h) .nil))
  | .l2 p q, h=>.two (.list (m:=2 * max p.dep q.dep + 3) (.cons ⟨(pl_shw p h.1).d, (pl_shw p h.1).s, upm (pl_shw p h.1).l (Nat.le_max_left _ _)⟩ (.cons ⟨(pl_shw q h.2).d, (pl_shw q h.2).s, upm (pl_shw q h.2).l (Nat.le_max_right _ _)⟩ .nil)))
  | .range a (some b) _, h=>.two (.list (m:=3) (.cons (.two (m:=2) (.int (by have:=h.1; lia))) (.cons (.two (m:=2) (.int (by rcases h.2 with e | e | e <;> cases e <;> simp))) (.cons (.two (m:=2) .bool) .nil))))
  | .range a none _, h=>.two (.list (m:=3) (.cons (.two (m:=2) (.int (by have:=h.1; lia))) (.cons (.two (m:=2) .none) (.cons (.two (m:=2) .bool) .nil))))
theorem pl_shows (p:Pl) (h:p.Ok):(kqdP p.dat).hasDict = false ∧ (kqdP p.dat).showable = true ∧ (kqdP p.dat).depth ≤ 2 * p.dep + 3:=⟨(pl_shw p h).d, (pl_shw p h).s, (pl_shw p h).l⟩
theorem len_shown {p:Pl} (h:p.Ok) (hd:p.dep ≤ 2):(kqdP p.dat).shown.length ≤ 900:=by
  have h1:=Rp_len h
  have e:(kqdP p.dat).shown.length = (Rp p).length:=by simp [Rp, Str.length]
  have h2:3 ^ p.dep ≤ 3 ^ 2:=Nat.pow_le_pow_right (by decide) hd
  rw [e]
  have:(3:Nat) ^ 2 = 9:=by decide
  lia
theorem repr_pl {w:World} {A:Around} {E:Value → Shared → Prop} {s:Shared} {h₀:Heap} {L:Addr} {m:Str → Option Value} {news:Led} {v:Value} {p:Pl} {Q:Value → Shared → Prop} (F:Fr h₀ L s.heap m) (N:News h₀ L s.heap news) (hv:DatIn news v p.dat) (hp:p.Ok) (hd:p.dep ≤ 2) (hg:A.guards = some []) (hu:A.units + 20 < cLine)
    (h:∀ h' u tk, Fr h₀ L h' m → News h₀ L h' news → Q (.str (kqdP p.dat).shown u) { s with heap:=h', toks:=tk }):wpAny (model PR w) A (call (.builtin "repr") [v]) Q E s:=by
  obtain ⟨as, r⟩:=lit_reads N hv (pl_lit p)
  have hs:=pl_shows p hp
  have hl:=len_shown hp hd
  have ev:∃ a, v = .ref a:=by cases p <;> (cases hv; exact ⟨_, rfl⟩)
  obtain ⟨a, rfl⟩:=ev
  exact repr_HN F N r hs.1 hs.2.1 hg (by lia) h (by rw [sizeLine_eq]; lia)
theorem lays_all:∀ {cs:List Cd}, (∀ c ∈ cs, c.Fits ∧ c.dep ≤ 20) → PyData.canLayAll0 (kqdPs (cs.map Cd.dat)) = true ∧ PyData.depthAll (kqdPs (cs.map Cd.dat)) ≤ 41
  | [], _=>by simp [kqdPs, PyData.canLayAll0, PyData.depthAll]
  | c :: cs, h=>by
    have h1:=cd_lay c (h c (.head _)).1
    have h2:=(h c (.head _)).2
    have ih:=lays_all (cs:=cs) fun d hd=>h d (.tail _ hd)
    simp only [List.map_cons, kqdPs, PyData.canLayAll0, PyData.depthAll, h1.1, ih.1, Bool.and_true, true_and]
    lia
theorem eqv_all:∀ cs:List Cd, PyData.eqvAll (kqdPs (cs.map Cd.dat)) (kqdPs (cs.map Cd.dat)) = true
  | []=>by simp [kqdPs, PyData.eqvAll]
  | c :: cs=>by simp only [List.map_cons, kqdPs, PyData.eqvAll, (cd_eqv c c).mpr rfl, eqv_all cs, Bool.and_true]
theorem tups_cd:∀ cs:List Cd, tupOks (cs.map Cd.dat) = true
  | []=>by simp [tupOks]
  | c :: cs=>by simp [tupOks, cd_tup c, tups_cd cs]
theorem codes_eq {w:World} {A:Around} {E:Value → Shared → Prop} {s:Shared} {h₀:Heap} {L a b:Addr} {news:Led} {vs us:List Value} {cs:List Cd} {n k:Nat} {Q:Value → Shared → Prop} (N:News h₀ L s.heap news)
    (ha:(a, listOf vs.toArray n) ∈ news) (hb:(b, listOf us.toArray k) ∈ news) (hv:DatAll news vs (cs.map Cd.dat)) (hw:DatAll news us (cs.map Cd.dat)) (hc:∀ c ∈ cs, c.Fits ∧ c.dep ≤ 20) (hu:A.units + 64 < cLine) (h:Q (.bool true) s):wpAny (model PR w) A (compareOp .Eq (.ref a) (.ref b)) Q E s:=by
  obtain ⟨as, ra⟩:=tup_readsAll N hv (tups_cd cs)
  obtain ⟨bs, rb⟩:=tup_readsAll N hw (tups_cd cs)
  have hl:=lays_all hc
  have sh:SeqAt.shaped (.list (kqdPs (cs.map Cd.dat))) = true:=by
    unfold SeqAt.shaped
    simp only [PyData.canLay0, PyData.depth, hl.1, Bool.true_and]
    exact decide_eq_true (by lia)
  refine SeqAt.compareEq_shaped (reads_list_at (N.get ha) rfl rfl (by simpa [W.listOf] using ra)) (reads_list_at (N.get hb) rfl rfl (by simpa [W.listOf] using rb)) sh sh hu ?_
  simp only [PyData.eqv, eqv_all]
  exact h
set_option genInjectivity false in
structure Ro where
  p:Pl
  pv:Value
  ra:Addr
  ka:Addr
  la:Addr
  key:Value
  i:Nat
  t:Tok
  u:Tok
  n:Nat
  k:Nat
noncomputable def Ro.ent (r:Ro):Led:=[(r.la, listOf [r.key, .int (r.i:Int) r.t].toArray r.n), (r.ra, listOf [r.pv, .int (r.i:Int) r.u].toArray r.k)]
noncomputable def Ro.rw (th:Th) (r:Ro):Rw:=⟨r.p.cd th, r.ka, r.la, r.key, .int (r.i:Int) r.t, r.n⟩
noncomputable def ents (rs:List Ro):Led:=rs.flatMap Ro.ent
noncomputable def xsOf (th:Th) (rs:List Ro):List (Cd × Addr × Value):=(rs.map (Ro.rw th)).map Rw.x
theorem ents_cons (r:Ro) (rs:List Ro):ents (r :: rs) = r.ent ++ ents rs:=rfl
theorem ents_app (a b:List Ro):ents (a ++ b) = ents a ++ ents b:=by simp [ents]
theorem xs_app (th:Th) (a b:List Ro):xsOf th (a ++ b) = xsOf th a ++ xsOf th b:=by simp [xsOf]
theorem xs_len (th:Th) (rs:List Ro):(xsOf th rs).length = rs.length:=by simp [xsOf]
theorem ent_la {rs:List Ro} {r:Ro} (h:r ∈ rs):(r.la, listOf [r.key, .int (r.i:Int) r.t].toArray r.n) ∈ ents rs:=List.mem_flatMap.mpr ⟨r, h, .head _⟩
theorem ent_ra {rs:List Ro} {r:Ro} (h:r ∈ rs):(r.ra, listOf [r.pv, .int (r.i:Int) r.u].toArray r.k) ∈ ents rs:=List.mem_flatMap.mpr ⟨r, h, .tail _ (.head _)⟩
structure RsOk (th:Th) (X:Led) (rs:List Ro):Prop where
  ok:∀ r ∈ rs, r.p.Ok ∧ r.p.dep ≤ 2
  nod:(rs.map (·.p)).Nodup
  vin:∀ r ∈ rs, VIn th X r.key r.p
  dat:∀ r ∈ rs, DatIn X r.pv r.p.dat
  kat:∀ r ∈ rs, DatIn X (.ref r.ka) (r.p.cd th).dat
theorem RsOk.nil {th:Th} {X:Led}:RsOk th X []:=⟨fun _ h=>(nomatch h), List.nodup_nil, fun _ h=>(nomatch h), fun _ h=>(nomatch h), fun _ h=>(nomatch h)⟩
theorem RsOk.mono {th:Th} {X Y:Led} {rs:List Ro} (h:RsOk th X rs) (s:∀ p ∈ X, p ∈ Y):RsOk th Y rs:=⟨h.ok, h.nod, fun r hr=>(h.vin r hr).mono s, fun r hr=>(h.dat r hr).mono s, fun r hr=>(h.kat r hr).mono s⟩
theorem RsOk.keys {th:Th} {X:Led} {rs:List Ro} (h:RsOk th X rs):KeysIn X (xsOf th rs):=fun x hx=>by
  simp only [xsOf, List.mem_map] at hx
  refine byP fun _ q9=>?_
  obtain ⟨_, ⟨r, hr, rfl⟩, rfl⟩:=hx
  refine q9 ?_
  have:=h.ok r hr
  exact ⟨h.kat r hr, this.1.fits, by show (r.p.cd th).dep ≤ 3; rw [cd_dep]; lia⟩
open Classical in
theorem find_ro {th:Th} (hA:th.Apart) {p:Pl} (hp:p.Ok):∀ {rs:List Ro}, (∀ r ∈ rs, r.p.Ok) → (rs.map (·.p)).Nodup →
    (∃ A r B, rs = A ++ r :: B ∧ r.p = p ∧ (atKey (xsOf th rs) (p.cd th)) = some (r.ka, .ref r.la) ∧ ∀ k r', rs[k]? = some r' → (r'.p = p ↔ k = A.length)) ∨ ((∀ r ∈ rs, r.p ≠ p) ∧ (atKey (xsOf th rs) (p.cd th)) = none)
  | [], _, _=>.inr ⟨fun _ h=>(nomatch h), rfl⟩
  | q :: rs, hok, hn=>by
    rw [List.map_cons, List.nodup_cons] at hn
    have e:q.p.cd th = p.cd th ↔ q.p = p:=⟨fun e=>cd_inj hA (hok q (.head _)) hp e, fun e=>by rw [e]⟩
    by_cases h:q.p = p
    · refine .inl ⟨[], q, rs, rfl, h, ?_, fun k r' hk=>?_⟩
      · have h':=e.mpr h
        simp only [xsOf, atKey, List.map_cons, List.find?_cons, Ro.rw, Rw.x]
        rw [show (decide (q.p.cd th = p.cd th)) = true from by rw [decide_eq_true_iff]; exact h']
        rfl
      · cases k with
        | zero=>cases hk; simp [h]
        | succ k =>
          have hm:r' ∈ rs:=List.mem_of_getElem? (by simpa using hk)
          constructor
          · intro h2; exact absurd (List.mem_map.mpr ⟨r', hm, by rw [h2, h]⟩) hn.1
          · intro h2; simp at h2
    · have hf:(atKey (xsOf th (q :: rs)) (p.cd th)) = (atKey (xsOf th rs) (p.cd th)):=by
        simp only [xsOf, atKey, List.map_cons, List.find?_cons, Ro.rw, Rw.x]
        rw [show (decide (q.p.cd th = p.cd th)) = false from by rw [decide_eq_false_iff_not]; exact fun x=>h (e.mp x)]
      rcases find_ro hA hp (rs:=rs) (fun r hr=>hok r (.tail _ hr)) hn.2 with ⟨A, r, B, e1, e2, e3, e4⟩ | ⟨h1, h2⟩
      · refine .inl ⟨q :: A, r, B, by rw [e1]; rfl, e2, hf.trans e3, fun k r' hk=>?_⟩
        cases k with
        | zero=>cases hk; simp [h]
        | succ k=>rw [e4 k r' (by simpa using hk)]; simp
      · exact .inr ⟨fun r hr=>(List.mem_cons.mp hr).elim (fun x=>by rw [x]; exact h) (h1 r), hf.trans h2⟩
noncomputable def Ro.set (r:Ro) (i:Nat) (t u:Tok) (n k:Nat):Ro:={ r with i:=i, t:=t, u:=u, n:=n, k:=k }
theorem xs_set (th:Th) (A B:List Ro) (r:Ro) (i:Nat) (t u:Tok) (n k:Nat):xsOf th (A ++ r.set i t u n k :: B) = xsOf th (A ++ r :: B):=by simp [xsOf, Ro.set, Ro.rw, Rw.x]
theorem RsOk.set {th:Th} {X:Led} {A B:List Ro} {r:Ro} {i:Nat} {t u:Tok} {n k:Nat} (h:RsOk th X (A ++ r :: B)):RsOk th X (A ++ r.set i t u n k :: B):=by
  have key:∀ x ∈ A ++ r.set i t u n k :: B, ∃ y ∈ A ++ r :: B, x.p = y.p ∧ x.pv = y.pv ∧ x.ka = y.ka ∧ x.key = y.key:=fun x hx=>by
    rcases List.mem_append.mp hx with hx | hx
    · exact ⟨x, iL hx, rfl, rfl, rfl, rfl⟩
    · rcases List.mem_cons.mp hx with rfl | hx
      · exact ⟨r, iR (.head _), rfl, rfl, rfl, rfl⟩
      · exact ⟨x, iR (.tail _ hx), rfl, rfl, rfl, rfl⟩
  refine ⟨fun x hx=>?_, ?_, fun x hx=>?_, fun x hx=>?_, fun x hx=>?_⟩
  · obtain ⟨y, hy, e, _⟩:=key x hx; rw [e]; exact h.ok y hy
  · have:=h.nod; simpa [Ro.set] using this
  · obtain ⟨y, hy, e1, e2, e3, e4⟩:=key x hx; rw [e1, e4]; exact h.vin y hy
  · obtain ⟨y, hy, e1, e2, e3, e4⟩:=key x hx; rw [e1, e2]; exact h.dat y hy
  · obtain ⟨y, hy, e1, e2, e3, e4⟩:=key x hx; rw [e1, e3]; exact h.kat y hy
theorem RsOk.snoc {th:Th} {X:Led} {rs:List Ro} {r:Ro} (h:RsOk th X rs) (h1:r.p.Ok) (h2:r.p.dep ≤ 2) (hn:∀ x ∈ rs, x.p ≠ r.p) (h3:VIn th X r.key r.p) (h4:DatIn X r.pv r.p.dat) (h5:DatIn X (.ref r.ka) (r.p.cd th).dat):RsOk th X (rs ++ [r]):=by
  have key:∀ {P:Ro → Prop}, (∀ x ∈ rs, P x) → P r → ∀ x ∈ rs ++ [r], P x:=fun a b x hx=>(List.mem_append.mp hx).elim (a x) fun hx=>by rw [List.mem_singleton.mp hx]; exact b
  refine ⟨key h.ok ⟨h1, h2⟩, ?_, key h.vin h3, key h.dat h4, key h.kat h5⟩
  rw [List.map_append, List.nodup_append]
  refine ⟨h.nod, by simp, fun a ha b hb=>?_⟩
  obtain ⟨x, hx, rfl⟩:=List.mem_map.mp ha
  simp only [List.map_cons, List.map_nil, List.mem_singleton] at hb
  rw [hb]; exact hn x hx
theorem lN_cd {th:Th} {x:Str}:∀ n:Nat, (lN n (.text x)).cd th = cN n (.text x)
  | 0=>rfl
  | n + 1=>by simp only [lN, Pl.cd, cN, lN_cd n]
theorem lN_dep {x:Str}:∀ n:Nat, (lN n (.text x)).dep = n
  | 0=>rfl
  | n + 1=>by simp only [lN, Pl.dep, lN_dep n]
theorem cN_dep (c:Cd):∀ n:Nat, (cN n c).dep = c.dep + n
  | 0=>rfl
  | n + 1=>by simp only [cN, Cd.dep, cN_dep c n]; lia
theorem cN_fits {c:Cd} (h:c.Fits):∀ n:Nat, (cN n c).Fits
  | 0=>h
  | n + 1=>cN_fits h n
theorem cN_inj {a b:Cd}:∀ n:Nat, cN n a = cN n b → a = b
  | 0, h=>h
  | n + 1, h=>cN_inj n (by simpa [cN] using h)
theorem cN_ne {a b:Cd} {n m:Nat} (ha:a.dep = 0) (hb:b.dep = 0) (h:cN n a = cN m b):n = m ∧ a = b:=by
  have h1:=cN_dep a n
  have h2:=cN_dep b m
  have e:n = m:=by rw [h] at h1; lia
  subst e
  exact ⟨rfl, cN_inj n h⟩
theorem lN_h {x:Str} (hx:x ∈ syms):∀ n:Nat, (lN n (.text x)).HOk
  | 0=>hx
  | n + 1=>lN_h hx n
theorem dict_inj {es fs:List DictEntry} {n m:Nat} (h:dictOf es n = dictOf fs m):es = fs:=by
  have:=congrArg Obj.data h
  simp only [dictOf] at this
  injection this with q1 q2
  simpa using congrArg Array.toList q1
theorem inst_inj {C d e:Addr} (h:instObj C d = instObj C e):d = e:=by
  have:=congrArg Obj.dict h
  exact Option.some.inj this
theorem num_inj {es:List DictEntry} {i j:Int} {t u:Tok} (h:has "number" es (.int i t)) (k:has "number" es (.int j u)):i = j:=by
  have:=h.symm.trans k
  injection this with q
  injection q with q
  injection q
theorem nest_chain {X:Led} {lo:Int} (fn:∀ a o o', (a, o) ∈ X → (a, o') ∈ X → o = o'):∀ (k:Nat) {hi:Int} {j:Nat} {v u:Value}, Nest X lo hi (k + (j + 1)) v u →
    ∃ (a0 d0:Addr) (e0:List DictEntry) (m0:Nat) (i0:Int) (t0:Tok), (a0, instObj 82 d0) ∈ X ∧ (d0, dictOf e0 m0) ∈ X ∧ has "ident" e0 .none ∧ e0.length ≤ 30 ∧ has "number" e0 (.int i0 t0) ∧ lo < i0 ∧ i0 + k ≤ hi ∧ Chain (cutA d0 X) a0 k v ∧
      ∃ (a d:Addr) (es:List DictEntry) (m:Nat) (i:Int) (t:Tok), v = .ref a ∧ (a, instObj 82 d) ∈ X ∧ (d, dictOf es m) ∈ X ∧ has "number" es (.int i t) ∧ i0 + k ≤ i ∧ i ≤ hi
  | 0, hi, j, v, u, h=>by
    rw [Nat.zero_add] at h
    cases h with
    | succ h1 h2 h3 h4 h5 h6 h7 h8 h9 h10=>exact ⟨_, _, _, _, _, _, h1, h2, h3, h4, h5, h6, by lia, .zero, _, _, _, _, _, _, rfl, h1, h2, h5, by lia, h7⟩
  | k + 1, hi, j, v, u, h=>by
    rw [show k + 1 + (j + 1) = (k + (j + 1)) + 1 by lia] at h
    cases h with
    | succ h1 h2 h3 h4 h5 h6 h7 h8 h9 h10 =>
      refine byP fun _ q9=>?_
      obtain ⟨a0, d0, e0, m0, i0, t0, g1, g2, g3, g4, g5, g6, g7, g8, _⟩:=nest_chain fn k h10
      refine q9 ?_
      have fd:∀ o, (d0, o) ∈ X → o = dictOf e0 m0:=fun o ho=>fn _ _ _ ho g2
      refine ⟨a0, d0, e0, m0, i0, t0, g1, g2, g3, g4, g5, g6, by lia, .succ ⟨_, _, cutA_obj fd h1 inst_ne_dict, cutA_obj fd h2 (fun e=>?_)⟩ h8 (cutA_obj fd h9 list_ne_dict) g8, _, _, _, _, _, _, rfl, h1, h2, h5, by lia, h7⟩
      have e:=dict_inj e
      subst e
      have:=num_inj h5 g5
      lia
theorem chain_cv {w mx} {X:Led} {a0 d0:Addr} {e0:List DictEntry} {m0:Nat} {i0:Int} {t0:Tok} {v:Value} (h1:(a0, instObj 82 d0) ∈ X) (h2:(d0, dictOf e0 m0) ∈ X) (h3:has "number" e0 (.int i0 t0)) (hc:Chain X a0 12 v):CV w mx X v 94 (cN 12 (.thing i0)):=fun l hs=>by
  cases hc with
  | succ g1 g2 g3 g4 =>
    exact does_le (code_l1g (c₁:=cN 11 (.thing i0)) (dn:=3 * 11 + 6) (fun {l'} {t'} hs'=>chain_code ⟨d0, m0, h1, h2⟩ h3 11 (fun p hp=>hs' p (hs p hp)) ((g4.mono hs).mono hs') (by lia)) (g1.mono hs) g2 (hs _ g3) (by decide) (.inr ⟨rfl, rfl, rfl⟩)) (by lia)
theorem nest_cv {w mx} {th:Th} {X l:Led} {lo hi:Int} {n:Nat} {v u:Value} {x:Str} (fn:∀ a o o', (a, o) ∈ X → (a, o') ∈ X → o = o') (sX:∀ p ∈ X, p ∈ l) (ht:ThLed th l) (hx:PyData.strOk x = true) (N1:Nest X lo hi n v u) (V1:VIn th X v (lN n (.text x))) :
    ∃ c, CV w mx l v 94 c ∧ c.Fits ∧ c.dep ≤ 20 ∧ ((n ≤ 12 ∧ c = cN n (.text x)) ∨ (12 < n ∧ ∃ i, lo < i ∧ i ≤ hi ∧ c = cN 12 (.thing i))):=by
  by_cases hn:n ≤ 12
  · refine ⟨cN n (.text x), ?_, cN_fits (c:=.text x) hx n, by rw [cN_dep]; show 0 + n ≤ 20; lia, .inl ⟨hn, rfl⟩⟩
    rw [← lN_cd (th:=th)]
    exact pl_cv (V1.mono sX) ht (by rw [lN_dep]; exact hn) (by rw [lN_dep]; lia)
  · refine byP fun _ q9=>?_
    obtain ⟨j, rfl⟩:∃ j, n = 12 + (j + 1):=⟨n - 13, by lia⟩
    obtain ⟨a0, d0, e0, m0, i0, t0, g1, g2, g3, g4, g5, g6, g7, g8, _⟩:=nest_chain fn 12 N1
    refine q9 ?_
    refine ⟨cN 12 (.thing i0), (chain_cv g1 g2 g5 (g8.mono cutA_sub)).mono sX, cN_fits (c:=.thing i0) trivial 12, by rw [cN_dep]; show 0 + 12 ≤ 20; lia, .inr ⟨by lia, i0, g6, by lia, rfl⟩⟩
theorem deep_pair {w mx} {c:Wc} {da:List Addr} {σ:Ws} {η:Hs} {X:Led} {th:Th} {δ:Int → Addr} {v v2 u u2:Value} {lo hi hi2:Int} {n m:Nat} {x:Str} (hH:HI w c da σ η X) (T:ThH th δ da η X) (fn:∀ a o o', (a, o) ∈ X → (a, o') ∈ X → o = o') (hx:PyData.strOk x = true) (hxs:x ∈ syms)
    (N1:Nest X lo hi n v u) (V1:VIn th X v (lN n (.text x))) (N2:Nest X hi hi2 m v2 u2) (V2:VIn th X v2 (lN m (.text x))) (b:Bool) (hb:b = true ↔ n = m ∧ n ≤ 12) :
    HW w mx c da σ η X 723 100 [.ref c.wa, v, v2, .bool b] (fun r σ' _ _=>σ'.num = σ.num ∧ r = .bool true):=by
  have ht:ThLed th (Hk c η ++ X):=T.led (fun p hp=>iL (iC hp)) (fun p hp=>iR hp)
  have sX:∀ p ∈ X, p ∈ Hk c η ++ X:=fun p hp=>iR hp
  refine byP fun _ q9=>?_
  obtain ⟨c1, C1, f1, p1, e1⟩:=nest_cv (w:=w) (mx:=mx) fn sX ht hx N1 V1
  obtain ⟨c2, C2, f2, p2, e2⟩:=nest_cv (w:=w) (mx:=mx) fn sX ht hx N2 V2
  refine q9 ?_
  cases b with
  | true =>
    obtain ⟨rfl, hn⟩:=hb.mp rfl
    have e:c1 = c2:=by
      rcases e1 with ⟨_, rfl⟩ | ⟨h, _⟩
      · rcases e2 with ⟨_, rfl⟩ | ⟨h, _⟩
        · rfl
        · lia
      · lia
    exact hw_of_hp fun rest hs hg=>pair_true hH hs hg C1 C2 f1 f2 (by lia) (by lia) e (by decide)
      ((hash_ok T.x _ V1 (lN_h hxs n) (by rw [lN_dep]; lia)).le (by rw [lN_dep]; lia)) ((hash_ok T.x _ V2 (lN_h hxs n) (by rw [lN_dep]; lia)).le (by rw [lN_dep]; lia)) (fun e h k=>hS_mono e _ h k) (fun η h k h1 h2=>Option.some.inj (h1.symm.trans h2))
  | false =>
    have ne:c1 ≠ c2:=fun e=>by
      rcases e1 with ⟨h1, rfl⟩ | ⟨h1, i, l1, l2, rfl⟩
      · rcases e2 with ⟨h2, rfl⟩ | ⟨h2, j, l3, l4, rfl⟩
        · have:=(cN_ne rfl rfl e).1
          have:=hb.mpr ⟨this, h1⟩
          cases this
        · have:=(cN_ne rfl rfl e).2
          cases this
      · rcases e2 with ⟨h2, rfl⟩ | ⟨h2, j, l3, l4, rfl⟩
        · have:=(cN_ne rfl rfl e).2
          cases this
        · have:=(cN_ne rfl rfl e).2
          injection this with q
          lia
    refine hw_of_hp fun rest hs hg=>?_
    have D:=pair_false (wa:=.ref c.wa) (C1.mono (k:=Hw c σ η ++ rest) (fun p hp=>(List.mem_append.mp hp).elim (fun h=>iL (iR h)) (fun h=>iR (hs p h))))
      (C2.mono (fun p hp=>(List.mem_append.mp hp).elim (fun h=>iL (iR h)) (fun h=>iR (hs p h)))) f1 f2 (by lia) (by lia) ne (by decide)
    refine does_gt D fun r n tl hR _=>?_
    obtain ⟨hr, rfl⟩:=hR
    exact ⟨σ, η, rfl, hH, HExt.refl _, rfl, rfl, rfl, hr⟩
theorem Idn.cut {X:Led} {d0:Addr} {e0:List DictEntry} {m0:Nat} {i0 j:Int} {t0:Tok} {v:Value} (fd:∀ o, (d0, o) ∈ X → o = dictOf e0 m0) (h5:has "number" e0 (.int i0 t0)) (hne:i0 ≠ j) (h:Idn X v (.inr j)):Idn (cutA d0 X) v (.inr j):=by
  cases h with
  | thing h1 h2 h3 h4 =>
    refine .thing h1 (cutA_obj fd h2 inst_ne_dict) (cutA_obj fd h3 fun e=>?_) h4
    have e:=dict_inj e
    subst e
    exact hne (num_inj h5 h4)
theorem deep_self {w mx} {c:Wc} {da:List Addr} {σ:Ws} {η:Hs} {X M:Led} {th:Th} {δ:Int → Addr} {v v2 u:Value} {lo hi i j:Int} {n:Nat} {x:Str} (hH:HI w c da σ η X) (T:ThH th δ da η X) (fn:∀ a o o', (a, o) ∈ X → (a, o') ∈ X → o = o') (hx:PyData.strOk x = true) (hxs:x ∈ syms)
    (N1:Nest X lo hi n v u) (V1:VIn th X v (lN n (.text x))) (I1:Idn X v (.inr i)) (I2:Idn X v2 (.inr j)) (hj:hi < j) (gM:Gt (Hw c σ η) M) (gX:Gt X M) :
    Does w mx 723 100 [.ref c.wa, v, v, .bool true] (Hw c σ η ++ (M ++ X)) (fun r n' tl=>r = .bool true ∧ Idn n' v (.inr i) ∧ Idn n' v2 (.inr j)):=by
  have ht:ThLed th (Hk c η ++ X):=T.led (fun p hp=>iL (iC hp)) (fun p hp=>iR hp)
  have sX:∀ p ∈ X, p ∈ Hk c η ++ X:=fun p hp=>iR hp
  by_cases hn:n ≤ 12
  · refine byP fun _ q9=>?_
    obtain ⟨c1, C1, f1, p1, _⟩:=nest_cv (w:=w) (mx:=mx) fn sX ht hx N1 V1
    refine q9 ?_
    have H1:=(hash_ok (w:=w) (mx:=mx) (c:=c) (deep:=12) (td:=258) T.x _ V1 (lN_h hxs n) (by rw [lN_dep]; lia)).le (k:=94) (by rw [lN_dep]; lia)
    refine does_gt (pair_true hH (rest:=M ++ X) (fun p hp=>iR hp) (Gt.app gM hH.hw) C1 C1 f1 f1 (by lia) (by lia) rfl (by decide) H1 H1 (fun e h k=>hS_mono e _ h k) (fun η h k h1 h2=>Option.some.inj (h1.symm.trans h2))) fun r n' tl hR g=>?_
    refine byP fun _ q9=>?_
    obtain ⟨σ', η', rfl, _, _, _, _, _, hr⟩:=hR
    refine q9 ?_
    have sub:∀ p ∈ X, p ∈ Hw c σ' η' ++ (M ++ X):=fun p hp=>iR (iR hp)
    exact ⟨hr, I1.mono sub, I2.mono sub⟩
  · refine byP fun _ q9=>?_
    obtain ⟨k, rfl⟩:∃ k, n = 12 + (k + 1):=⟨n - 13, by lia⟩
    obtain ⟨a0, d0, e0, m0, i0, t0, g1, g2, g3, g4, g5, g6, g7, g8, a9, d9, e9, m9, i9, t9, rfl, k1, k2, k3, k4, k5⟩:=nest_chain fn 12 N1
    refine q9 ?_
    have fd:∀ o, (d0, o) ∈ X → o = dictOf e0 m0:=fun o ho=>fn _ _ _ ho g2
    have hi9:i = i9:=by
      cases I1 with
      | thing q1 q2 q3 q4 =>
        have e:=fn _ _ _ q2 k1
        have eC:=congrArg Obj.cls e
        simp only [instObj] at eC
        injection eC with eC
        subst eC
        have ed:=inst_inj e
        subst ed
        have ee:=dict_inj (fn _ _ _ q3 k2)
        subst ee
        exact num_inj q4 k3
    subst hi9
    have H':=hH.take g2 (.inl ⟨g3, g4⟩) fd
    have cut0:(a0, instObj 82 d0) ∈ cutA d0 X:=cutA_obj fd g1 inst_ne_dict
    have C1:CV w mx (Hk c { η with ds:=(d0, e0, m0) :: η.ds } ++ cutA d0 X) (.ref a9) 94 (cN 12 (.thing i0)):=by
      refine (chain_cv (X:=(d0, dictOf e0 m0) :: cutA d0 X) (.tail _ cut0) (.head _) g5 (g8.mono fun p hp=>.tail _ hp)).mono fun p hp=>?_
      rcases List.mem_cons.mp hp with rfl | hp
      · exact iL (.tail _ (.head _))
      · exact iR hp
    have H1:HC w mx c (d0 :: da) (cutA d0 X) 352 94 [.ref c.wa, .ref a9, .int 12 258] (gN d0 12):=(chain_hash cut0 (.head _) 12 g8 rfl).le (by lia)
    have gM':Gt (Hw c σ { η with ds:=(d0, e0, m0) :: η.ds }) M:=fun q hq p hp=>by
      rcases HW_take.mp hq with rfl | hq
      · exact gX _ g2 p hp
      · exact gM q hq p hp
    have P:=pair_true H' (rest:=M ++ cutA d0 X) (fun p hp=>iR hp) (Gt.app gM' H'.hw) C1 C1 (cN_fits (c:=.thing i0) trivial 12) (cN_fits (c:=.thing i0) trivial 12) (by rw [cN_dep]; show 0 + 12 ≤ 20; lia) (by rw [cN_dep]; show 0 + 12 ≤ 20; lia) rfl (by decide) H1 H1 (fun e h k=>gN_mono e 12 h k) (fun η h k h1 h2=>Option.some.inj (h1.symm.trans h2))
    refine does_perm P (fun p=>?_) fun r n' tl hR=>?_
    · simp only [List.mem_append]
      constructor
      · rintro (h | h | h)
        · rcases HW_take.mp h with rfl | h
          · exact .inr (.inr g2)
          · exact .inl h
        · exact .inr (.inl h)
        · exact .inr (.inr (cutA_sub _ h))
      · rintro (h | h | h)
        · exact .inl (HW_take.mpr (.inr h))
        · exact .inr (.inl h)
        · by_cases e:@Eq Nat p.1 d0
          · obtain ⟨a, o⟩:=p
            have e':a = d0:=e
            subst e'
            rw [fd _ h]
            exact .inl (HW_take.mpr (.inl rfl))
          · exact .inr (.inr (mem_cutA.mpr ⟨h, e⟩))
    · refine byP fun _ q9=>?_
      obtain ⟨σ', η', rfl, _, _, _, _, _, hr⟩:=hR
      refine q9 ?_
      have sub:∀ p ∈ cutA d0 X, p ∈ Hw c σ' η' ++ (M ++ cutA d0 X):=fun p hp=>iR (iR hp)
      exact ⟨_, fun p=>Iff.rfl, hr, (I1.cut fd g5 (by lia)).mono sub, (I2.cut fd g5 (by lia)).mono sub⟩
theorem nested_at {w mx} {th:Th} {c:Wc} {σ:Ws} {X:Led} {n:Nat} {i:Int} {td:Tok} {v:Value} {p:Pl} (hi:i = (n:Int)) (hI:Inv w c σ X) (hv:VIn th X v p) (hn:n ≤ 20) :
    WC w mx c σ X 716 100 [.ref c.wa, .int i td, v] (fun r σ' tl=>VIn th (X ++ tl) r (lN n p) ∧ (0 < n → ∃ k, Idn tl r (.inr k) ∧ σ.num < k ∧ k ≤ σ'.num) ∧ Nest tl σ.num σ'.num n r v):=by
  subst hi; exact nested_ok hI hv hn
theorem dn1 {nd k:Nat}:9 + (nd:Int) + (k:Int).fdiv 2 = ((9 + nd + k / 2:Nat):Int):=congrArg (9 + (nd:Int) + ·) (Int.ofNat_fdiv k 2).symm
theorem dn3 {nd k:Nat}:9 + nd + k / 2 = 9 + nd ↔ (k:Int) < 2:=⟨fun h=>Int.ofNat_lt.mpr (Nat.lt_of_div_eq_zero (by decide) (Nat.add_left_cancel h)), fun h=>congrArg (9 + nd + ·) (Nat.div_eq_of_lt (Int.ofNat_lt.mp h))⟩
theorem dn4 {nd k:Nat}:0 < 9 + nd + k / 2:=Nat.lt_of_lt_of_le (by decide:0 < 9) (Nat.le_trans (Nat.le_add_right 9 nd) (Nat.le_add_right _ _))
theorem dn2 {nd k:Nat} (h:(nd:Int) < 6) (j:(k:Int) < 3):9 + nd + k / 2 ≤ 15:=Nat.add_le_add (Nat.add_le_add_left (Nat.le_of_lt_succ (Int.ofNat_lt.mp h)) 9) (Nat.le_trans (Nat.div_le_div_right (Nat.le_of_lt_succ (Int.ofNat_lt.mp j))) (by decide:2 / 2 ≤ 1))
theorem deep_ok {w mx} {c:Wc} {da:List Addr} {σ:Ws} {η:Hs} {X:Led} {th:Th} {δ:Int → Addr} {ba:Addr} {ob:Obj} {N₁:Int} (hH:HI w c da σ η X) (hT:ThH th δ da η X) (hb:BoxObj ob N₁) (hN:N₁ + 2 < 1000000) (A0:Ap [ba] (Hw c σ η ++ X)) :
    Does w mx 735 250 [.ref c.wa, .ref ba] ((ba, ob) :: (Hw c σ η ++ X)) (fun r _ _=>r = .bool true):=by
  refine does_enter (bm:=[(ofString "box", .ref ba), (ofString "world", .ref c.wa)]) (by k_is) (by k_is) (by first | exact fun s X=>BindsTo.of_eq rfl | exact fun s X=>binds_K X rfl (by k_is) rfl rfl rfl) (by exact rfl) (by exact rfl) (by exact rfl) (by exact rfl) (by exact rfl) (by first | decide | lia) (by exact rfl) fun b m hm hcp hcs hcl hr=>?_
  have ew:∀ {A p}, Ev b m A (.Name (ofString "world") p) (.ref c.wa):=by exact Ev.loc hm rfl Kx rfl
  have eb:∀ {A p}, Ev b m A (.Name (ofString "box") p) (.ref ba):=by exact Ev.loc hm rfl Kx rfl
  have et:∀ {m A p}, Ev b m A (.Name (ofString "_law_take") p) (.ref 699):=by exact Ev.glob (by k_is) Kx rfl
  have en:∀ {m A p}, Ev b m A (.Name (ofString "_law_nested") p) (.ref 716):=by exact Ev.glob (by k_is) Kx rfl
  have ep:∀ {m A p}, Ev b m A (.Name (ofString "_law_pair_right") p) (.ref 723):=by exact Ev.glob (by k_is) Kx rfl
  have es:∀ {m A p}, Ev b m A (.Name (ofString "same") p) (.ref 244):=by exact Ev.glob (by k_is) Kx rfl
  have Y:=Hy.start hH (fun _ h=>h) hH.hw
  have off:∀ p ∈ Hw c σ η ++ X, (p.1:Nat) ≠ ba:=A0.at (.head _)
  have hh:∀ o, Gt [(ba, o)] (Hw c σ η ++ X):=fun o q hq p hp=>by rw [List.mem_singleton.mp hq]; exact Ne.symm (off p hp)
  refine Ts.tupS (xs:=[ofString "deep", ofString "more", ofString "text"]) hcp (Tv.tup (Tv.args1 (Tv.binop (Tv.cint fun t9=>Tv.take et eb Evi.const hb (by lia) (by decide) (by decide) off hr (by decide) rfl rfl rfl fun o1 d2 t2 d20 d21 hb1=>Tv.addi fun t3=>Tv.args1 (Tv.take et eb Evi.const hb1 (by lia) (by decide) (by decide) off hr (by decide) rfl rfl rfl fun o2 d3 t4 d30 d31 hb2=>Tv.args1 (Tv.htext (heads:=[(ba, o2)]) ew Y (hh o2) hr (fun a4 σ4 tl4 Y4 W4 g4 V4=>Tv.args0 (Tv.tuple (fun D hD=>⟨D, _, 0, rfl, iH, rfl, fun m1 hm1=>Ts.re (k:=[(ba, o2)] ++ (Hw c σ4 η ++ (X ++ tl4))) (fun p hp=>iC hp) ?_⟩) (Nat.le_of_ble_eq_true rfl))) (by decide) rfl) rfl) rfl)) rfl)) (all_more Kx (all_more Kx (all_one Kx))) rfl ?hw
  case hw=>show swappedStores _ _ (envX b.cn b.cs b.L b.a b.ccd b.cl) = _; rw [hcs, hcl]; rfl
  rw [hm] at hm1
  clear ew eb hm hb hb1 hN
  have ew:∀ {A p}, Ev b m1 A (.Name (ofString "world") p) (.ref c.wa):=by exact Ev.loc hm1 rfl Kx rfl
  have ed:∀ {A p}, Ev b m1 A (.Name (ofString "deep") p) (.int (9 + d2) t3):=by exact Ev.loc hm1 rfl Kx rfl
  have em:∀ {A p}, Ev b m1 A (.Name (ofString "more") p) (.int d3 t4):=by exact Ev.loc hm1 rfl Kx rfl
  have ex:∀ {A p}, Ev b m1 A (.Name (ofString "text") p) (.ref a4):=by exact Ev.loc hm1 rfl Kx rfl
  refine byP fun _ q9=>?_
  obtain ⟨nd, hnd⟩:=Int.eq_ofNat_of_zero_le d20
  obtain ⟨nm, hnm, hnm2, hnm3, hnm4⟩:∃ nm:Nat, 9 + d2 + d3.fdiv 2 = (nm:Int) ∧ nm ≤ 15 ∧ (nm = 9 + nd ↔ d3 < 2) ∧ 0 < nm:=by
    obtain ⟨k, hk⟩:=Int.eq_ofNat_of_zero_le d30
    rw [hk, hnd]
    exact ⟨9 + nd + k / 2, dn1, dn2 (hnd ▸ d21) (hk ▸ d31), dn3, dn4⟩
  refine q9 ?_
  have due:(decide (d3 < 2) && decide (9 + d2 < 13)) = true ↔ 9 + nd = nm ∧ 9 + nd ≤ 12:=by
    rw [Bool.and_eq_true, decide_eq_true_iff, decide_eq_true_iff]; lia
  have V4':=(V4 th).mono (k:=X ++ ([] ++ tl4)) fun p hp=>iR hp
  refine Ts.tupS (xs:=[ofString "one", ofString "second"]) hcp (Tv.tup (Tv.args1 (Tv.gcall en (by k_is) (Evs.cons ew (Evs.cons ed (Evs.cons ex Evs.nil rfl) rfl) rfl) (Tv.hy (hw_of_wc Y4.hi (nested_at (n:=9 + nd) (by lia) Y4.hi.inv (V4'.mono fun p hp=>iR hp) (by lia))) Y4 g4 hr (fun r6 σ6 η6 tl6 Y6 E6 W6 g6 ⟨e6, _, K6, N6⟩=>?_) (by decide)) rfl rfl) rfl)) (all_more Kx (all_one Kx)) rfl ?hw
  case hw=>show swappedStores _ _ (envX b.cn b.cs b.L b.a b.ccd b.cl) = _; rw [hcs, hcl]; rfl
  subst e6
  refine Tv.args1 (Tv.callee (en _ (Tv.with1 (by k_is) (Tv.args1 (ew _ (Tv.args1 (Tv.binop (ed _ (Tv.binop (em _ (Tv.cint fun t=>Tv.idiv (by decide) (PyProof.noPylong_small (by decide)) fun t=>Tv.addi fun t7=>Tv.args1 (Tv.htext ew Y6 g6 hr (fun a7 σ7 tl7 Y7 W7 g7 V7=>Tv.args0 ?_) (by decide) rfl) rfl))))) rfl)) rfl) rfl rfl)) rfl) rfl
  have V7':=(V7 th).mono (k:=X ++ ((([] ++ tl4) ++ tl6) ++ tl7)) fun p hp=>iR (iR hp)
  refine Tv.hy (hw_of_wc Y7.hi (nested_at (n:=nm) hnm Y7.hi.inv (V7'.mono fun p hp=>iR hp) (by lia))) Y7 g7 hr (fun r8 σ8 η8 tl8 Y8 E8 W8 g8 ⟨e8, _, K8, N8⟩=>Tv.args0 (Tv.tuple (fun D hD=>⟨D, _, 0, rfl, iH, rfl, fun m2 hm2=>?_⟩) (Nat.le_of_ble_eq_true rfl))) (by decide)
  subst e8
  refine Ts.re (k:=[(ba, o2)] ++ (Hw c σ8 η8 ++ ((((X ++ tl4) ++ tl6) ++ tl7) ++ tl8))) (fun p hp=>iC hp) ?_
  rw [hm1] at hm2
  clear ew ed em ex hm1
  have n1:σ6.num ≤ σ7.num:=W7.num
  refine byP fun _ q9=>?_
  obtain ⟨k6, hi6, hl6, hu6⟩:=K6 (by lia)
  obtain ⟨k8, hi8, hl8, hu8⟩:=K8 hnm4
  refine q9 ?_
  have q6:∀ p ∈ tl6, p ∈ X ++ (((([] ++ tl4) ++ tl6) ++ tl7) ++ tl8):=fun p hp=>iR (iL (iL (iR hp)))
  have q8:∀ p ∈ tl8, p ∈ X ++ (((([] ++ tl4) ++ tl6) ++ tl7) ++ tl8):=fun p hp=>iR (iR hp)
  have M1:=(N6.up n1).mono q6
  have M2:=N8.mono q8
  have V1:=M1.vin (V4'.mono fun p hp=>(List.mem_append.mp hp).elim (iL) fun h=>iR (iL (iL (iL h))))
  have V2:=M2.vin (V7'.mono fun p hp=>(List.mem_append.mp hp).elim (iL) fun h=>iR (iL h))
  have J6:=hi6.mono q6
  have J8:=hi8.mono q8
  have sR:∀ p ∈ X ++ (((([] ++ tl4) ++ tl6) ++ tl7) ++ tl8), p ∈ (((X ++ tl4) ++ tl6) ++ tl7) ++ tl8:=Y8.xr
  clear hi6 hi8 q6 q8 N6 N8 V4' V7' V4 V7 K6 K8 Y Y4 Y6 Y7 E6 E8 W4 W6 W7 W8 g4 g6 g7 hD off hh A0
  generalize ((((X ++ tl4) ++ tl6) ++ tl7) ++ tl8:Led) = R8 at Y8 sR g8 ⊢
  generalize (((([] ++ tl4) ++ tl6) ++ tl7) ++ tl8:Led) = T8 at Y8 sR M1 M2 V1 V2 J6 J8
  have ew:∀ {A p}, Ev b m2 A (.Name (ofString "world") p) (.ref c.wa):=by exact Ev.loc hm2 rfl Kx rfl
  have e1:∀ {A p}, Ev b m2 A (.Name (ofString "one") p) r6:=by exact Ev.loc hm2 rfl Kx rfl
  have e2:∀ {A p}, Ev b m2 A (.Name (ofString "second") p) r8:=by exact Ev.loc hm2 rfl Kx rfl
  have ed:∀ {A p}, Ev b m2 A (.Name (ofString "deep") p) (.int (9 + d2) t3):=by exact Ev.loc hm2 rfl Kx rfl
  have em:∀ {A p}, Ev b m2 A (.Name (ofString "more") p) (.int d3 t4):=by exact Ev.loc hm2 rfl Kx rfl
  have T8':ThH th δ da η8 (X ++ T8):=hT.mono fun p hp=>iL hp
  refine Ts.ite (Tv.not (Tv.plain (Tv.gcall ep (by k_is) (Evs.cons ew (Evs.cons e1 (Evs.cons e2 (Evs.cons (Ev.and2 (Ev.cmpi em (fun t A Q E s h=>lt_i rfl h) rfl) (Ev.cmpi ed (fun t A Q E s h=>lt_i rfl h) rfl)) Evs.nil rfl) rfl) rfl) rfl) (Tv.fn fun fn=>Tv.hy (deep_pair Y8.hi T8' (fun a o o' h1 h2=>fn a o o' (List.mem_append_right [(ba, o2)] (iR (sR _ h1))) (List.mem_append_right [(ba, o2)] (iR (sR _ h2)))) (by decide +kernel) (by decide +kernel) M1 V1 M2 V2 _ due) Y8 g8 hr (fun r9 σ9 η9 tl9 Y9 E9 W9 g9 ⟨_, e9⟩=>?_) (by decide)) rfl rfl) rfl))
  subst e9
  refine Tv.tbool (both_f rfl (Ts.nil (Ts.ret (Tv.and2 ?_))))
  have s9:∀ p ∈ X ++ T8, p ∈ X ++ (T8 ++ tl9):=fun p hp=>by rw [← List.append_assoc]; exact iL hp
  have mR:∀ p ∈ X ++ (T8 ++ tl9), p ∈ [(ba, o2)] ++ (Hw c σ9 η9 ++ (R8 ++ tl9)):=fun p hp=>List.mem_append_right [(ba, o2)] (iR (Y9.xr p hp))
  have gM:Gt (Hw c σ9 η9) [(ba, o2)]:=g9.symm.l
  have gX:Gt (X ++ (T8 ++ tl9)) [(ba, o2)]:=Gt.subl Y9.xr g9.symm.r
  refine Tv.gcall ep (by k_is) (Evs.cons ew (Evs.cons e1 (Evs.cons e1 (Evs.cons Ev.bool Evs.nil rfl) rfl) rfl) rfl) (Tv.fn fun fn=>Tv.re (k:=Hw c σ9 η9 ++ ([(ba, o2)] ++ (X ++ (T8 ++ tl9)))) (fun p hp=>?_) (Tv.does (deep_self (v2:=r8) Y9.hi ((T8'.ext E9).mono s9) (fun a o o' h1 h2=>fn a o o' (mR _ h1) (mR _ h2)) (by decide +kernel) (by decide +kernel) (M1.mono s9) (V1.mono s9) (J6.mono s9) (J8.mono s9) hl8 gM gX) hr (fun r n' t g ⟨e, K6, K8⟩=>⟨true, e, (fun h=>nomatch h), fun _=>?_⟩) (by decide))) rfl rfl
  · rcases List.mem_append.mp hp with h | h
    · exact List.mem_append_right [(ba, o2)] (iL h)
    · exact (List.mem_append.mp h).elim (fun h=>iL h) (mR p)
  replace K6:=K6.mono (k:=n' ++ t) fun p hp=>iL hp
  replace K8:=K8.mono (k:=n' ++ t) fun p hp=>iL hp
  exact Tv.and2 (Tv.gcall es (by k_is) (Evs.cons e1 (Evs.cons e1 Evs.nil rfl) rfl) (Tv.does0 (same_ok K6 K6 true (by simp)) hr (fun r n' tl q=>q.2) (fun r q=>⟨true, q.1, (fun h=>nomatch h), fun _=>Tv.and0v (Tv.notv (Tv.gcall es (by k_is) (Evs.cons e1 (Evs.cons e2 Evs.nil rfl) rfl) (Tv.does0 (same_ok K6 K8 false (by simp; lia)) hr (fun r n' tl q=>q.2) (fun r q=>⟨false, q.1, [], [], fun _ h=>(nomatch h), Gt.nil, rfl⟩) (by decide)) rfl rfl))⟩) (by decide)) rfl rfl)
theorem off_midL {x y:List Nat} {a:Nat} {l:Led} (nd:(x ++ a :: y).Nodup) (hl:∀ p ∈ l, (p.1:Nat) ∈ x ∨ (p.1:Nat) ∈ y):∀ p ∈ l, @Ne Nat p.1 a:=fun p hp e=>by
  have h2:=List.nodup_append.mp nd
  rcases hl p hp with h3 | h3
  · rw [e] at h3; exact h2.2.2 a h3 a iH rfl
  · rw [e] at h3; exact (List.nodup_cons.mp h2.2.1).1 h3
theorem put_any {w mx} {th:Th} {p:Pl} {rs:List Ro} {ro:Obj} {zd ta td:Addr} {FR TL X:Led} {es3:List DictEntry} {n3:Nat} {key:Value} {i:Int} {ti:Tok} (hA:th.Apart) (hok:p.Ok) (hdep:p.dep ≤ 2)
    (mta:(ta, instObj 120 td) ∈ TL) (mtd:(td, dictOf es3 n3) ∈ TL) (hr3:has "rows" es3 (.ref zd)) (lo3:(zd == sysModules) = false) (RO:RowsOf w ro (xsOf th rs)) (RK:RsOk th X rs) (hX:∀ q ∈ X, q ∈ TL) (hl5:rs.length ≤ 4)
    (C:CV w mx TL key 94 (p.cd th)) (nd:(FR.map (fun q=>(q.1:Nat)) ++ (zd:Nat) :: (ents rs).map (fun q=>(q.1:Nat))).Nodup) (hAp:∀ a ∈ FR.map (fun q=>(q.1:Nat)) ++ (zd:Nat) :: (ents rs).map (fun q=>(q.1:Nat)), ∀ q ∈ TL, @Ne Nat q.1 a) :
    Does w mx 105 98 [.ref ta, key, .int i ti] ((zd, ro) :: (FR ++ (ents rs ++ TL))) (fun v n' tl=>v = .none ∧
      ((∃ ro' ka la t2, n' = (zd, ro') :: (FR ++ (ents rs ++ TL)) ∧ RowsOf w ro' (xsOf th rs ++ [(p.cd th, ka, .ref la)]) ∧ DatIn t2 (.ref ka) (p.cd th).dat ∧ tl = (la, listOf [key, .int i ti].toArray 0) :: t2 ∧ (∀ q ∈ t2, @Ne Nat q.1 la) ∧ ∀ r ∈ rs, r.p ≠ p) ∨
       (∃ A r B n9, rs = A ++ r :: B ∧ r.p = p ∧ (∀ k r', rs[k]? = some r' → (r'.p = p ↔ k = A.length)) ∧ n' = (zd, ro) :: (FR ++ (ents A ++ ((r.la, listOf [r.key, .int i ti].toArray n9) :: (r.ra, listOf [r.pv, .int (r.i:Int) r.u].toArray r.k) :: (ents B ++ TL))))))):=by
  have sT:∀ q ∈ TL, q ∈ FR ++ (ents rs ++ TL):=fun q hq=>iR (iR hq)
  have cdep:(p.cd th).dep ≤ 3:=by rw [cd_dep]; lia
  rcases find_ro hA hok (fun r hr=>(RK.ok r hr).1) RK.nod with ⟨A, r, B, eR, hrp, hat, hidx⟩ | ⟨hno, hat⟩
  · have sT2:∀ q ∈ TL, q ∈ FR ++ (ents A ++ ((r.ra, listOf [r.pv, .int (r.i:Int) r.u].toArray r.k) :: (ents B ++ TL))):=fun q hq=>iR (iR (.tail _ (iR hq)))
    have eE:ents rs = ents A ++ ((r.la, listOf [r.key, .int (r.i:Int) r.t].toArray r.n) :: (r.ra, listOf [r.pv, .int (r.i:Int) r.u].toArray r.k) :: ents B):=by rw [eR, ents_app, ents_cons]; rfl
    have nd':((FR.map (fun q=>(q.1:Nat)) ++ (zd:Nat) :: (ents A).map (fun q=>(q.1:Nat))) ++ (r.la:Nat) :: (r.ra:Nat) :: (ents B).map (fun q=>(q.1:Nat))).Nodup:=by
      rw [eE] at nd
      simpa [List.map_append] using nd
    have mla:(r.la:Nat) ∈ FR.map (fun q=>(q.1:Nat)) ++ (zd:Nat) :: (ents rs).map (fun q=>(q.1:Nat)):=by rw [eE]; simp
    have off1:∀ q ∈ FR ++ (ents A ++ ((r.ra, listOf [r.pv, .int (r.i:Int) r.u].toArray r.k) :: (ents B ++ TL))), @Ne Nat q.1 r.la:=fun q hq=>by
      simp only [List.mem_append, List.mem_cons] at hq
      have key:=off_midL (l:=FR ++ (ents A ++ ((r.ra, listOf [r.pv, .int (r.i:Int) r.u].toArray r.k) :: ents B))) nd' (fun z hz=>by
        simp only [List.mem_append, List.mem_cons] at hz
        simp only [List.mem_append, List.mem_cons, List.mem_map]
        rcases hz with h | h | h | h
        · exact .inl (.inl ⟨z, h, rfl⟩)
        · exact .inl (.inr (.inr ⟨z, h, rfl⟩))
        · exact .inr (.inl (by rw [h]))
        · exact .inr (.inr ⟨z, h, rfl⟩))
      rcases hq with h | h | h | h | h
      · exact key q (by simp only [List.mem_append, List.mem_cons]; exact .inl h)
      · exact key q (by simp only [List.mem_append, List.mem_cons]; exact .inr (.inl h))
      · exact key q (by simp only [List.mem_append, List.mem_cons]; exact .inr (.inr (.inl h)))
      · exact key q (by simp only [List.mem_append, List.mem_cons]; exact .inr (.inr (.inr h)))
      · exact hAp _ mla q h
    have hz:@Ne Nat zd r.la:=by
      refine off_midL (l:=[(zd, ro)]) nd' (fun z hz=>?_) (zd, ro) (.head _)
      rw [List.mem_singleton.mp hz]
      exact .inl (iR (.head _))
    have K2:KeysIn (FR ++ (ents A ++ ((r.ra, listOf [r.pv, .int (r.i:Int) r.u].toArray r.k) :: (ents B ++ TL)))) (xsOf th rs):=RK.keys.mono fun q hq=>sT2 q (hX q hq)
    refine does_perm (put_old (k0:=r.key) (v0:=.int (r.i:Int) r.t) (nl:=r.n) (sT2 _ mta) (sT2 _ mtd) hr3 lo3 RO K2 (C.mono sT2) hok.fits cdep (by decide) hat off1 hz) (fun q=>?_) fun v n' tl hR=>?_
    · rw [eE]
      simp only [List.mem_append, List.mem_cons]
      constructor
      · rintro (h | h | h | h | h | h | h)
        · exact .inl h
        · exact .inr (.inr (.inl (.inr (.inl h))))
        · exact .inr (.inl h)
        · exact .inr (.inr (.inl (.inl h)))
        · exact .inr (.inr (.inl (.inr (.inr (.inl h)))))
        · exact .inr (.inr (.inl (.inr (.inr (.inr h)))))
        · exact .inr (.inr (.inr h))
      · rintro (h | h | (h | h | h | h) | h)
        · exact .inl h
        · exact .inr (.inr (.inl h))
        · exact .inr (.inr (.inr (.inl h)))
        · exact .inr (.inl h)
        · exact .inr (.inr (.inr (.inr (.inl h))))
        · exact .inr (.inr (.inr (.inr (.inr (.inl h)))))
        · exact .inr (.inr (.inr (.inr (.inr (.inr h)))))
    · obtain ⟨e1, n9, e2⟩:=hR
      refine ⟨(zd, ro) :: (FR ++ (ents A ++ ((r.la, listOf [r.key, .int i ti].toArray n9) :: (r.ra, listOf [r.pv, .int (r.i:Int) r.u].toArray r.k) :: (ents B ++ TL)))), fun q=>?_, e1, .inr ⟨A, r, B, n9, eR, hrp, hidx, rfl⟩⟩
      rw [e2]
      simp only [List.mem_append, List.mem_cons]
      constructor
      · rintro (h | h | h | h | h | h | h)
        · exact .inl h
        · exact .inr (.inr (.inl h))
        · exact .inr (.inr (.inr (.inl h)))
        · exact .inr (.inl h)
        · exact .inr (.inr (.inr (.inr (.inl h))))
        · exact .inr (.inr (.inr (.inr (.inr (.inl h)))))
        · exact .inr (.inr (.inr (.inr (.inr (.inr h)))))
      · rintro (h | h | h | h | h | h | h)
        · exact .inl h
        · exact .inr (.inr (.inr (.inl h)))
        · exact .inr (.inl h)
        · exact .inr (.inr (.inl h))
        · exact .inr (.inr (.inr (.inr (.inl h))))
        · exact .inr (.inr (.inr (.inr (.inr (.inl h)))))
        · exact .inr (.inr (.inr (.inr (.inr (.inr h)))))
  · have fz:∀ q ∈ FR ++ (ents rs ++ TL), @Ne Nat q.1 zd:=fun q hq=>by
      have key:=off_midL (l:=FR ++ ents rs) nd (fun z hz=>(List.mem_append.mp hz).elim (fun h=>.inl (List.mem_map.mpr ⟨z, h, rfl⟩)) (fun h=>.inr (List.mem_map.mpr ⟨z, h, rfl⟩)))
      rcases List.mem_append.mp hq with h | h
      · exact key q (iL h)
      · rcases List.mem_append.mp h with h | h
        · exact key q (iR h)
        · exact hAp zd (by simp) q h
    refine does_gt (put_new (sT _ mta) (sT _ mtd) hr3 lo3 RO (RK.keys.mono fun q hq=>sT q (hX q hq)) (C.mono sT) hok.fits cdep (by decide) hat (by rw [xs_len]; lia) fz) fun v n' tl hR _=>?_
    refine byP fun _ q9=>?_
    obtain ⟨e1, ro', ka, la, t2, e2, h1, h2, h3, h4⟩:=hR
    refine q9 ?_
    exact ⟨e1, .inl ⟨ro', ka, la, t2, e2, h1, h2, h3, h4, hno⟩⟩
noncomputable abbrev aE (rs:List Ro):List Nat:=(ents rs).map (fun p=>(p.1:Nat))
noncomputable def Spots (rs:List Ro) (p:Pl) (i:Nat) (ys:List Value):Prop:=(∀ k < i, ∀ r, rs[k]? = some r → r.p = p → ∃ t, ys = [.int (k:Int) t]) ∧ ((∀ k < i, ∀ r, rs[k]? = some r → r.p ≠ p) → ys = [])
theorem dict_nil_ne {w:World} {o:Obj} {es:List DictEntry} {n:Nat} {x:String} {v:Value} (h:o.IsDictOf (strKind PR w) []) (e:o = dictOf es n) (hx:has x es v):False:=by
  refine byP fun _ q9=>?_
  obtain ⟨es', ep, h1, h2, h3, h4, h5⟩:=h
  refine q9 ?_
  rw [e] at h2
  simp only [dictOf] at h2
  injection h2 with q1 q2
  have e1:es' = es.toArray:=q1.symm
  have e2:es'.toList = []:=by
    cases h4':es'.toList with
    | nil=>rfl
    | cons a r=>rw [h4'] at h4; cases h4
  rw [e1] at e2
  have e3:es = []:=by simpa using e2
  rw [e3] at hx
  exact absurd hx (by simp [getL])
theorem nod_inj {rs:List Ro} (hn:(rs.map (·.p)).Nodup) {k j:Nat} {r r':Ro} (h1:rs[k]? = some r) (h2:rs[j]? = some r') (e:r.p = r'.p):k = j:=by
  obtain ⟨a1, b1⟩:=List.getElem?_eq_some_iff.mp h1
  obtain ⟨a2, b2⟩:=List.getElem?_eq_some_iff.mp h2
  have a1':k < (rs.map (·.p)).length:=by rw [List.length_map]; exact a1
  have a2':j < (rs.map (·.p)).length:=by rw [List.length_map]; exact a2
  refine (List.getElem_inj (h₀:=a1') (h₁:=a2') hn).mp ?_
  rw [List.getElem_map, List.getElem_map, b1, b2, e]
theorem Spots.hit {rs:List Ro} {p:Pl} {j:Nat} {ys:List Value} {r:Ro} (h:Spots rs p j ys) (hn:(rs.map (·.p)).Nodup) (hj:rs[j]? = some r) (hr:r.p = p) (t:Tok):Spots rs p (j + 1) (ys ++ [.int (j:Int) t]):=by
  have e:ys = []:=h.2 fun k hk r' hr' e=>by
    have:=nod_inj hn hr' hj (by rw [e, hr])
    lia
  subst e
  refine ⟨fun k hk r' hr' e=>?_, fun hno=>absurd hr (hno j (by lia) r hj)⟩
  have:=nod_inj hn hr' hj (by rw [e, hr])
  subst this
  exact ⟨t, rfl⟩
theorem Spots.miss {rs:List Ro} {p:Pl} {j:Nat} {ys:List Value} {r:Ro} (h:Spots rs p j ys) (hj:rs[j]? = some r) (hr:r.p ≠ p):Spots rs p (j + 1) ys:=by
  refine ⟨fun k hk r' hr' e=>?_, fun hno=>h.2 fun k hk=>hno k (by lia)⟩
  rcases Nat.lt_succ_iff_lt_or_eq.mp hk with hk | hk
  · exact h.1 k hk r' hr' e
  · subst hk
    rw [hj] at hr'
    cases hr'
    exact absurd e hr
theorem aE_new {rs:List Ro} {r:Ro}:aE (rs ++ [r]) = aE rs ++ [(r.la:Nat), r.ra]:=by simp [aE, ents, Ro.ent]
theorem aE_set {A B:List Ro} {r:Ro} {i:Nat} {t u:Tok} {n k:Nat}:aE (A ++ r.set i t u n k :: B) = aE (A ++ r :: B):=by simp [aE, ents, Ro.ent, Ro.set]
theorem nod_snoc {as:List Nat} {la ra:Nat} (h:as.Nodup) (h1:∀ a ∈ as, a ≠ la) (h2:∀ a ∈ as, a ≠ ra) (h3:la ≠ ra):(as ++ [la, ra]).Nodup:=by
  rw [List.nodup_append]
  refine ⟨h, by simp [h3], fun a ha b hb=>?_⟩
  simp only [List.mem_cons, List.not_mem_nil, or_false] at hb
  rcases hb with rfl | rfl
  · exact h1 a ha
  · exact h2 a ha
theorem at_row {th:Th} (hA:th.Apart) {rs:List Ro} {X:Led} (RK:RsOk th X rs) {r:Ro} (hr:r ∈ rs):(open Classical in (atKey (xsOf th rs) (r.p.cd th)).map (·.2)).getD .none = .ref r.la:=by
  rcases find_ro hA (RK.ok r hr).1 (fun r hr=>(RK.ok r hr).1) RK.nod with ⟨A, r', B, e, hp, hat, hidx⟩ | ⟨hno, _⟩
  · obtain ⟨k, hk⟩:=List.getElem?_of_mem hr
    have h1:=(hidx k r hk).mp rfl
    have h2:rs[A.length]? = some r':=by rw [e]; simp
    rw [h1, h2] at hk
    cases hk
    rw [hat]; rfl
  · exact absurd rfl (hno r hr)
theorem PrIn.len {l:Led} {ts:List Value} {rs:List Rw} (h:PrIn l ts rs):ts.length = rs.length:=by
  induction h with
  | nil=>rfl
  | snoc _ _ _ _ ih=>simp [ih]
theorem PrIn.at {l:Led} {ts:List Value} {rs:List Rw} (h:PrIn l ts rs) {i:Nat} {v:Value} (hv:ts[i]? = some v):∃ r t o n, rs[i]? = some r ∧ v = .ref t ∧ (t, o) ∈ l ∧ o.cls = .type "tuple" ∧ o.data = .seq #[r.key, r.val] n:=by
  induction h with
  | nil=>simp at hv
  | snoc h0 h1 h2 h3 ih =>
    rename_i ts' rs' r' t' o' n'
    by_cases hi:i < ts'.length
    · rw [List.getElem?_append_left hi] at hv
      refine byP fun _ q9=>?_
      obtain ⟨r, t, o, n, g1, g2⟩:=ih hv
      refine q9 ?_
      exact ⟨r, t, o, n, by rw [List.getElem?_append_left (by rw [← h0.len]; exact hi)]; exact g1, g2⟩
    · have e:i = ts'.length:=by
        have:=(List.getElem?_eq_some_iff.mp hv).1
        simp at this
        lia
      subst e
      rw [List.getElem?_append_right (Nat.le_refl _)] at hv
      simp at hv
      exact ⟨r', t', o', n', by rw [h0.len, List.getElem?_append_right (Nat.le_refl _)]; simp, hv.symm, h1, h2, h3⟩
theorem rw_at {th:Th} {rs:List Ro} {i:Nat} {r9:Rw} (h:(rs.map (Ro.rw th))[i]? = some r9):∃ r, rs[i]? = some r ∧ r9 = r.rw th:=by
  rw [List.getElem?_map] at h
  cases hr:rs[i]? with
  | none=>rw [hr] at h; cases h
  | some r=>rw [hr] at h; exact ⟨r, rfl, (Option.some.inj h).symm⟩
theorem ints_snoc {vs:List Value} {ns:List Int} {i:Int} {t:Tok} (h:IntsAre vs ns):IntsAre (vs ++ [.int i t]) (ns ++ [i]):=by
  induction h with
  | nil=>exact .cons _ _ .nil
  | cons _ _ _ ih=>exact .cons _ _ ih
theorem datAll_snoc {l:Led} {vs:List Value} {ds:List Dat} {v:Value} {d:Dat} (h:DatAll l vs ds) (hv:DatIn l v d):DatAll l (vs ++ [v]) (ds ++ [d]):=by
  induction vs generalizing ds with
  | nil=>cases h; exact .cons hv .nil
  | cons u us ih =>
    cases h with
    | cons h1 h2=>exact .cons h1 (ih h2)
theorem datAll_mono {l k:Led} {vs:List Value} {ds:List Dat} (s:∀ p ∈ l, p ∈ k) (h:DatAll l vs ds):DatAll k vs ds:=by
  induction vs generalizing ds with
  | nil=>cases h; exact .nil
  | cons u us ih =>
    cases h with
    | cons h1 h2=>exact .cons (h1.mono s) (ih h2)
theorem take_snoc {α β:Type} {f:α → β} {rs:List α} {i:Nat} {r:α} (h:rs[i]? = some r):(rs.take (i + 1)).map f = (rs.take i).map f ++ [f r]:=by
  rw [List.take_succ, h]; simp
theorem map_dat {th:Th} (rs:List Ro):(rs.map fun r=>(r.p.cd th).dat) = (rs.map fun r=>r.p.cd th).map Cd.dat:=by simp [List.map_map]
theorem world_hi {w:World} {c:Wc} {σ:Ws} {X l n:Led} {o4:Obj} (N:WNew w l n c σ X o4) :
    ∃ η, HI w c [] σ η X ∧ (∀ p ∈ l ++ (Hw c σ η ++ X), p ∈ n) ∧ Gt l (Hw c σ η ++ X):=by
  have hW:Hw c σ ⟨o4, [], []⟩ = Wk c σ ++ [(c.sy, o4)]:=rfl
  refine ⟨⟨o4, [], []⟩, {
    inv:=N.inv
    gw:=fun q hq=>all_one (N.gg q hq _ (.head _))
    dict:=N.dict
    lo:=N.lo
    sint:=fun x v hv=>by simp [valueAt] at hv
    cnt:=(by decide +kernel:([]:List (Str × Value)).length + missS [] ≤ 4)
    ids:=fun q hq=>absurd hq List.not_mem_nil
    nod:=by simp [Hk, Dk]
    ad:=rfl
    gt:=all_one fun p hp=>Ne.symm (N.ns p (iR hp)) }, ?_, ?_⟩
  · rw [hW]
    exact all_app (fun p hp=>N.sub p (iR (.tail _ (iL hp)))) (all_app (all_app (fun p hp=>N.sub p (iL hp)) (all_one (N.sub _ (iR (.head _))))) fun p hp=>N.sub p (iR (.tail _ (iR hp))))
  · rw [hW]
    exact fun z hz=>all_app (all_app (fun p hp=>Ne.symm (N.gg p hp z (.tail _ (iL hz)))) (all_one (N.ns z (iL hz)))) fun p hp=>N.gX z hz p hp
theorem mod_at {w:World} {c:Wc} {σ:Ws} {X:Led} {x:Str} {b:Addr} (h:Inv w c σ X) (hv:valueAt σ.kvs x = some (.ref b)):∃ d es n k t, (b, instObj 228 d) ∈ X ∧ (d, dictOf es n) ∈ X ∧ has "number" es (.int k t) ∧ k ≤ σ.num ∧ IdL es:=by
  refine byP fun _ q9=>?_
  obtain ⟨_, b', eb, d, es, n, k, t, t', m1, m2, f1, f2, f3, f4, f5, f6, f7⟩:=h.mods _ _ hv
  refine q9 ?_
  cases eb
  exact ⟨d, es, n, k, t, m1, m2, f1, f7, f6⟩
noncomputable def dl3 (d0 d1 d2:Addr) (i:Int):Addr:=if i = 0 then d0 else if i = 1 then d1 else d2
theorem take3 {w:World} {c:Wc} {σ:Ws} {η:Hs} {X:Led} {a0 d0 a1 d1 a2 d2:Addr} {e0 e1 e2:List DictEntry} {m0 m1 m2:Nat} {n0 n1 n2:Int} {t0 t1 t2:Tok} (H:HI w c [] σ η X) (fn:∀ a o o', (a, o) ∈ X → (a, o') ∈ X → o = o')
    (p0:(a0, instObj 40 d0) ∈ X) (r0:(d0, dictOf e0 m0) ∈ X) (h0:has "number" e0 (.int n0 t0)) (i0:IdL e0) (p1:(a1, instObj 120 d1) ∈ X) (r1:(d1, dictOf e1 m1) ∈ X) (h1:has "number" e1 (.int n1 t1)) (i1:IdL e1) (p2:(a2, instObj 228 d2) ∈ X) (r2:(d2, dictOf e2 m2) ∈ X) (h2:has "number" e2 (.int n2 t2)) (i2:IdL e2)
    (n01:n0 ≠ n1) (n02:n0 ≠ n2) (n12:n1 ≠ n2):∃ η' X', HI w c [d2, d1, d0] σ η' X' ∧ ThH ⟨a0, a1, a2, n0, n1, n2⟩ (dl3 d0 d1 d2) [d2, d1, d0] η' X' ∧ (∀ p, p ∈ Hw c σ η' ++ X' ↔ p ∈ Hw c σ η ++ X) ∧ (∀ p ∈ X', p ∈ X) ∧ (∀ p ∈ X, (∀ es n, p.2 ≠ dictOf es n) → p ∈ X'):=by
  have idl:∀ {es:List DictEntry}, IdL es → (has "ident" es .none ∧ es.length ≤ 30) ∨ ∃ i t, has "ident" es (.int i t):=fun h=>h.2.elim (fun k=>.inl ⟨k, h.1⟩) .inr
  have dne:∀ {es fs:List DictEntry} {n k:Nat} {i j:Int} {t u:Tok}, has "number" es (.int i t) → has "number" fs (.int j u) → i ≠ j → dictOf es n ≠ dictOf fs k:=fun ha hb hne e=>by
    have e:=dict_inj e
    subst e
    exact hne (num_inj ha hb)
  have f0:∀ o, (d0, o) ∈ X → o = dictOf e0 m0:=fun o ho=>fn _ _ _ ho r0
  have H1:=H.take r0 (idl i0) f0
  have r1':(d1, dictOf e1 m1) ∈ cutA d0 X:=cutA_obj f0 r1 (dne h1 h0 (Ne.symm n01))
  have f1:∀ o, (d1, o) ∈ cutA d0 X → o = dictOf e1 m1:=fun o ho=>fn _ _ _ (cutA_sub _ ho) r1
  have H2:=H1.take r1' (idl i1) f1
  have r2':(d2, dictOf e2 m2) ∈ cutA d1 (cutA d0 X):=cutA_obj f1 (cutA_obj f0 r2 (dne h2 h0 (Ne.symm n02))) (dne h2 h1 (Ne.symm n12))
  have f2:∀ o, (d2, o) ∈ cutA d1 (cutA d0 X) → o = dictOf e2 m2:=fun o ho=>fn _ _ _ (cutA_sub _ (cutA_sub _ ho)) r2
  have H3:=H2.take r2' (idl i2) f2
  have keep:∀ p ∈ X, (∀ es n, p.2 ≠ dictOf es n) → p ∈ cutA d2 (cutA d1 (cutA d0 X)):=fun p hp hne=>cutA_obj (a:=p.1) (o:=p.2) f2 (cutA_obj f1 (cutA_obj f0 hp (hne _ _)) (hne _ _)) (hne _ _)
  have hw:∀ p, p ∈ Hw c σ ⟨η.so, η.syk, (d2, e2, m2) :: (d1, e1, m1) :: (d0, e0, m0) :: η.ds⟩ ↔ p = (d2, dictOf e2 m2) ∨ p = (d1, dictOf e1 m1) ∨ p = (d0, dictOf e0 m0) ∨ p ∈ Hw c σ η:=fun p =>
    (HW_take (η:=⟨η.so, η.syk, (d1, e1, m1) :: (d0, e0, m0) :: η.ds⟩)).trans (or_congr Iff.rfl ((HW_take (η:=⟨η.so, η.syk, (d0, e0, m0) :: η.ds⟩)).trans (or_congr Iff.rfl (HW_take (η:=η)))))
  have inst:∀ {C d:Addr} {es:List DictEntry} {n:Nat}, instObj C d ≠ dictOf es n:=inst_ne_dict
  refine ⟨_, _, H3, ⟨⟨keep _ p0 fun _ _=>inst, keep _ p1 fun _ _=>inst, keep _ p2 fun _ _=>inst, by simp [dl3], by simp [dl3], by simp [dl3]⟩, fun i ha hb=>?_, ⟨n01, n02, n12⟩⟩, fun p=>?_, fun p hp=>cutA_sub _ (cutA_sub _ (cutA_sub _ hp)), keep⟩
  · have:i = 0 ∨ i = 1 ∨ i = 2:=by lia
    rcases this with rfl | rfl | rfl
    · exact ⟨e0, m0, t0, .tail _ (.tail _ (.head _)), h0⟩
    · exact ⟨e1, m1, t1, .tail _ (.head _), h1⟩
    · exact ⟨e2, m2, t2, .head _, h2⟩
  · rw [List.mem_append, List.mem_append, hw]
    constructor
    · rintro ((h | h | h | h) | h)
      · rw [h]; exact .inr r2
      · rw [h]; exact .inr r1
      · rw [h]; exact .inr r0
      · exact .inl h
      · exact .inr (cutA_sub _ (cutA_sub _ (cutA_sub _ h)))
    · rintro (h | h)
      · exact .inl (.inr (.inr (.inr h)))
      · obtain ⟨a, o⟩:=p
        by_cases e0':@Eq Nat a d0
        · have e:a = d0:=e0'
          subst e
          rw [f0 _ h]
          exact .inl (.inr (.inr (.inl rfl)))
        · have h':=mem_cutA.mpr ⟨h, e0'⟩
          by_cases e1':@Eq Nat a d1
          · have e:a = d1:=e1'
            subst e
            rw [f1 _ h']
            exact .inl (.inr (.inl rfl))
          · have h'':=mem_cutA.mpr ⟨h', e1'⟩
            by_cases e2':@Eq Nat a d2
            · have e:a = d2:=e2'
              subst e
              rw [f2 _ h'']
              exact .inl (.inl rfl)
            · exact .inr (mem_cutA.mpr ⟨h'', e2'⟩)
theorem hi_nil {w:World} {c:Wc} {σ:Ws} {η:Hs} {X:Led} (H:HI w c [] σ η X):Dk η.ds ++ X = X:=by
  have h:=H.ad
  have e:η.ds = []:=by simpa using h
  rw [e]; rfl
theorem newF_idl {es:List DictEntry} {i:Int} (h:NewF es i):IdL es:=⟨by have:=h.len; lia, .inl h.ident⟩
structure Hold (P:Prop):Prop where
  h:P
theorem box_step {f k:Int} (h:0 ≤ f):0 ≤ f * 1000003 + (if k < 0 then -k else k).fmod (10 ^ Int.toNat 30) * 2 + (if decide (k < 0) = true then 1 else 0):=by
  have h1:(0:Int) ≤ 10 ^ Int.toNat 30:=Int.le_of_lt (Int.pow_pos (by decide))
  have h2:0 ≤ (if k < 0 then -k else k):=by split <;> lia
  have h3:0 ≤ (if k < 0 then -k else k).fmod (10 ^ Int.toNat 30):=by rw [Int.fmod_eq_emod_of_nonneg _ h1]; exact Int.emod_nonneg _ (Int.ne_of_gt (Int.pow_pos (by decide)))
  refine Int.add_nonneg (Int.add_nonneg (Int.mul_nonneg h (by decide)) (Int.mul_nonneg h3 (by decide))) ?_
  split <;> decide
theorem fr_locs {cn:Str} {cs:Scope} {L a:Addr} {cd:Value} {binds:List (Str × Value)} {h₀ h:Heap} {bm:Fm} (F:Fr h₀ L h (bindL (envOfC cn cs L a cd).kindOf binds fun _=>none)) (hb:locsOf cs.names binds [] = bm) (hk:∀ x, (envOfC cn cs L a cd).kindOf x = cs.names.lookup x):Fr h₀ L h (fm bm):=by
  rw [← hb, ← bindL_locs (k:=(envOfC cn cs L a cd).kindOf) hk]
  exact F
theorem ts_open {w mx} {body:List Stmt} {Q:Flow → Shared → Prop} {E:Value → Shared → Prop} {h:Heap} {tk k:Nat} {m:Fm} {n:Led} (b0:Amb w mx) (hE:PassesOwn (model PR w) b0.A b0.env E) (F:Fr b0.h₀ b0.L h (fm m)) (N:News b0.h₀ b0.L h n) (hr:b0.Room k) (hq:∀ h' tk' m', Fr b0.h₀ b0.L h' (fm m') → Q (.ret (.bool true)) (b0.st h' tk'))
    (hb:∀ b:Amb w mx, b.cp = b0.cp → b.cs = b0.cs → b.cl = b0.cl → b.gd = b0.gd → b.L = b0.L → b.h₀ = b0.h₀ → b.Room k → Ts b m n body (fun v _=>v = .bool true) fun _ _=>False):wpAny (model PR w) b0.A (execs body b0.env) Q E (b0.st h tk) :=
  hb b0 rfl rfl rfl rfl rfl rfl hr Q E h tk hE F N (fun v h' tk' m' n' F' _ e=>e ▸ hq h' tk' m' F') fun _ _ _ _ _ _ h=>h.elim
section
variable {w mx} {b:Amb w mx} {m:Fm} {n:Led} {R:Value → Led → Prop} {K:Fm → Led → Prop} {rest:List Stmt} {P:Value → Led → Prop}
structure Cel (C:Addr) (v:Value) (n:Led) (J:Led → Prop):Prop where
  go:∃ o l, (∀ p ∈ (C, o) :: l, p ∈ n) ∧ (∃ v0, o.data = .cell v0) ∧ (∀ p ∈ l, p.1 ≠ C) ∧ ∀ o', o'.data = .cell (some v) → J ((C, o') :: l)
theorem Cel.put {C:Addr} {v:Value} {J:Led → Prop} (h:Cel C v n J) {x:Str} (hx:Kd b x .cell) (hc:b.cl.lookup x = some C) {Q:Unit → Shared → Prop} {E:Value → Shared → Prop} {h₁:Heap} {tk:Nat} (F:Fr b.h₀ b.L h₁ (fm m)) (N:News b.h₀ b.L h₁ n)
    (ret:∀ h' tk' n', Fr b.h₀ b.L h' (fm m) → News b.h₀ b.L h' n' → J n' → Q () (b.st h' tk')):wpAny (model PR w) b.A (storeName b.env0 x v) Q E (b.st h₁ tk):=by
  refine byP fun _ q9=>?_
  obtain ⟨o, l, sub, ⟨v0, ho⟩, off, p⟩:=h.go
  refine q9 ?_
  exact storeX_C F (News.of N sub) hc (UpdF.head off) ho (fun h'' o' F'' N'' d=>ret _ _ _ F'' N'' (p o' d)) b.k hx.2
theorem Ts.tupCC {x y:Str} {C1 C2:Addr} {px py:Pos} {k:Nat} {tpos pos:Pos} {value:Expr} (hp:b.cp = none)
    (h:Tv b m n (eval value b.env) fun v n'=>∃ D u v' j, v = .ref D ∧ (D, ({ cls:=.type "tuple", data:=.seq [u, v'].toArray j }:Obj)) ∈ n' ∧ Cel C1 u n' fun n₂=>Cel C2 v' n₂ fun n₃=>Ts b m n₃ rest R K) (hx:Kd b x .cell) (hy:Kd b y .cell) (hc1:b.cl.lookup x = some C1) (hc2:b.cl.lookup y = some C2)
    (hs:swapsWithSole [.Tuple [.Name x px, .Name y py] k tpos] value pos.line b.env0 = pure false) (hw:swappedStores [.Tuple [.Name x px, .Name y py] k tpos] value b.env0 = pure none):Ts b m n (.Assign [.Tuple [.Name x px, .Name y py] k tpos] value pos :: rest) R K:=fun Q E h₁ tk hE F N r1 r2=>by
  have h':=h
  unfold Tv at h'
  rw [Amb.env_of hp] at h'
  refine wpAny_execs_cons ?_
  rw [Amb.env_of hp]
  refine Assign_Tuple (h' _ E h₁ tk F N fun v h2 tk2 n2 F2 N2 hq=>?_) hs hw
  refine byP fun _ q9=>?_
  obtain ⟨D, u, v', j, e, hm, hC⟩:=hq
  refine q9 ?_
  subst e
  refine assign_Tuple_tuple rfl ⟨_, (N2 _ hm).1, rfl, _, rfl⟩ rfl rfl fun h3 he=>?_
  refine assignInOrder_cons (wpAny_assign_Name (hC.put hx hc1 (F2.extBut he (Nat.le_refl _)) (N2.extBut he (Nat.le_refl _)) fun h4 tk4 n4 F4 N4 hC2=>?_))
  refine assignInOrder_cons (wpAny_assign_Name (hC2.put hy hc2 F4 N4 fun h5 tk5 n5 F5 N5 go=>assignInOrder_nil ?_))
  have g:=go
  unfold Ts at g
  rw [Amb.env_of hp] at g hE
  exact g Q E h5 _ hE F5 N5 r1 r2
theorem Tv.absi {i:Int} {t:Tok} (h:∀ t, P (.int (if i < 0 then -i else i) t) n):Tv b m n (call (.builtin "abs") [.int i t]) P:=fun Q E h₁ tk F N ret=>call_abs_int fun u tk'=>ret _ _ _ _ F N (h _)
theorem Tv.powi {a i:Int} {t u:Tok} (h0:0 ≤ i) (h1:i ≤ 1000000) (h2:a.natAbs < 2 ^ 64) (h:∀ t, P (.int (a ^ i.toNat) t) n):Tv b m n (binaryOp .Pow (.int a t) (.int i u)) P:=fun Q E h₁ tk F N ret=>pow_int_small h0 h1 h2 (ret _ _ _ _ F N (h _))
theorem Tv.intB {x:Bool} (h:∀ t, P (.int (if x = true then 1 else 0) t) n):Tv b m n (call (.type "int") [.bool x]) P:=fun Q E h₁ tk F N ret=>call_int_bool (ret _ _ _ _ F N (h _))
theorem Tv.upto {sa:Addr} {ws:List Value} {ns:List Int} {k:Int} {x:Str} {p0 p1 p2 p3:Pos} {q:Nat} (hs:b.h₀.IsList sa ws.toArray) (hi:IntsAre ws ns) (hl:ws.length ≤ 63) (hv:Ev b m n (.Name x p0) (.ref sa)) (h0:0 ≤ k)
    (h:∀ D us, (∀ p ∈ n, p.1 < D) → IntsAre us (ns.take k.toNat) → P (.ref D) ((D, PySem.W.listOf us.toArray 0) :: n)):Tv b m n (eval (.Subscript (.Name x p0) (.Slice none (some (.Constant (.int k) q p1)) none p2) p3) b.env) P:=fun Q E h₁ tk F N ret =>
  Subscript_ (hv (fun v n'=>v = .ref sa ∧ n' = n) ⟨rfl, rfl⟩ _ E h₁ tk F N fun v h2 tk2 n2 F2 N2 e=>by
    obtain ⟨rfl, rfl⟩:=e
    exact wpAny_Slice (evalPart_none_step (evalPart_some_step (wpAny_Constant_int (evalPart_none_step (kmk_slice_ints (h₀:=b.h₀) (L:=b.L) (m:=fm m) F2 N2 (hs.at fun o e=>F2.keep _ _ e) .none (.int ..) hi (kmk_upto hi h0) rfl (fun D us h3 F3 N3 lt hu _ _=>ret _ _ _ _ F3 N3 (h D us lt hu)) rfl (fun r=>rfl) (by rw [List.size_toArray]; exact Nat.le_trans hl (by decide))))))))
theorem Tv.enterL {f:Addr} {dn:Nat} {sa:Addr} {arr:Array Value} {args:List Value} {R:Value → Led → Led → Prop} {bm:Fm} {oc:Value} {od:Option Addr} {osl:Array (Option Value)} {name qual:Str} {params:Arguments} {body:List Stmt} {scope:Scope} {dV kV doc pm cdv ct:Value} {an:Option Addr} {binds:List (Str × Value)}
    (hs:b.h₀.IsList sa arr) (ho:(K9 w.params).lookup f = some ⟨oc, od, .func (fnOf name qual params body scope dV kV doc pm an cdv ct), osl⟩) (hcd:codeIn (K9 w.params) cdv qual = true)
    (hb:∀ s:Shared, (K9 w.params).In s.heap → BindsTo s (fnOf name qual params body scope dV kV doc pm an cdv ct) ⟨args, []⟩ binds)
    (hl:(binds.all fun x=>decide (scope.names.lookup x.1 = some .local)) = true) (hco:scope.isCoroutine = false) (hg:scope.isGenerator = false) (hk:scope.kind = .function) (hc:(scope.names.all fun x=>decide (x.2 ≠ .cell)) = true) (hd:0 < dn) (hbm:binds.reverse = bm) (hr:b.Room dn)
    (h:∀ (c:Amb w mx) (m:Fm), m = bm → c.cp = none → c.cs = scope → c.cl = [] → c.h₀.IsList sa arr → Ts c m n body (Owes n R) fun _ n'=>Owes n R .none n') (k:∀ r news' tl, Gt n tl → R r news' tl → P r (news' ++ tl)):Tv b m n (call (.ref f) args) P:=by
  intro Q E h₁ tk F N ret
  refine wpAny_call ?_
  refine code_def (A₀:=b.A₀) (base:=b.base) b.B F b.X N b.T rfl rfl b.k ho hcd (hr 0 hd).1 (hb _ (b.X.keeps F.keep)) (locs hl) (fun g' L' h' FG F' N' B' X' T'=>?_) hco hg hk (fun x hx=>by simpa using List.all_eq_true.mp hc x hx)
  have owe:∀ v h'' tk'' m'' n'', Fr g' L' h'' (fm m'') → News g' L' h'' n'' → Owes n R v n'' → LeaveK b.h₀ b.L (fm m) g' (fun r s'=>match r with | .ok (.ret v)=>Q v s' | .ok _=>False | .error e=>E e s') v (b.st h'' tk''):=fun v h'' tk'' m'' n'' F'' N'' ⟨news', tl, hs, hg, hR⟩ =>
    ⟨L', fm m'', n'', F'', N'', fun F3 N3=>ret v h'' tk'' _ F3 (News.of N3 hs) (k v news' tl hg hR)⟩
  exact h ⟨b.dp + 1, b.un + 3, b.gd, qual, scope, L', f, cdv, [], b.env0 :: b.outer, b.A, b.base, g', b.st h₁ tk, B', X', T', hk, none⟩ binds.reverse hbm rfl rfl rfl (hs.at fun o e=>FG.keep _ _ e)
    _ _ h' _ (by passes_own) F' N' (fun v h'' tk'' m'' n'' F'' N'' o=>owe v h'' tk'' m'' n'' F'' N'' o) (fun h'' tk'' m'' n'' F'' N'' o=>owe .none h'' tk'' m'' n'' F'' N'' o)
theorem ints_at:∀ {us:List Value} {ns:List Int} {i:Nat} {v:Value}, IntsAre us ns → us[i]? = some v → ∃ k t, v = .int k t
  | _, _, 0, _, .cons k t _, e=>⟨k, t, (Option.some.inj e).symm⟩
  | _, _, i + 1, _, .cons _ _ h, e=>ints_at (i:=i) h e
theorem Tv.box {sa:Addr} {ws:List Value} {ns:List Int} (hs:b.h₀.IsList sa ws.toArray) (hi:IntsAre ws ns) (hl:ws.length ≤ 63) (hr:b.Room 4) (h:∀ ba bo, (∀ p ∈ n, p.1 < ba) → BoxObj bo 0 → P (.ref ba) (n ++ [(ba, bo)])):Tv b m n (call (.ref 692) [.ref sa]) P:=by
  refine Tv.enterL (dn:=4) (bm:=[(ofString "script", .ref sa)]) (R:=fun r n' tl=>∃ ba bo, r = .ref ba ∧ n' = n ∧ tl = [(ba, bo)] ∧ (∀ p ∈ n, p.1 < ba) ∧ BoxObj bo 0) hs (by k_is) (by k_is) (by exact fun s X=>BindsTo.of_eq rfl) (by exact rfl) (by exact rfl) (by exact rfl) (by exact rfl) (by exact rfl) (by decide) (by exact rfl) hr (fun c m' hm hcp hcs hcl hs'=>?_) ?hk
  case hk =>
    rintro r n' tl _ ⟨ba, bo, rfl, rfl, rfl, h1, h2⟩
    exact h ba bo h1 h2
  refine Ts.assign (l:=m') rfl (Tv.cint fun t0 m1 hm1=>?_) Kx rfl
  refine Ts.forX hcp (Tv.upto hs' hi hl (Ev.name (by rw [hm1, hm]; rfl) Kx rfl) (by decide) fun D us lD hu=>⟨D, us, 0, fun _ m2 n2=>(D, PySem.W.listOf us.toArray 0) ∈ n2 ∧ (∀ p ∈ n, p ∈ n2) ∧ ∃ g t, 0 ≤ g ∧ m2.lookup (ofString "great") = some (.int g t), rfl, ⟨.head _, fun _ hp=>.tail _ hp, 0, t0, Int.le_refl 0, by rw [hm1]; rfl⟩, fun _ _ _ h=>h.1, fun i v m2 n2 heads hv ⟨j1, j2, g, t, hg, jg⟩ off=>?_, fun m2 n2 ⟨j1, j2, g, t, hg, jg⟩=>?_⟩) fun v=>rfl
  · obtain ⟨k, tk, rfl⟩:=ints_at hu hv
    refine Ta.name Kx ?_
    have jk:((ofString "cell", Value.int k tk) :: m2).lookup (ofString "cell") = some (.int k tk):=rfl
    have jg':((ofString "cell", Value.int k tk) :: m2).lookup (ofString "great") = some (.int g t):=jg
    have ab:∀ {A:Led} {p1 p2 p3:Pos} {P:Value → Led → Prop}, (∀ t, P (.int (if k < 0 then -k else k) t) A) → Tv c ((ofString "cell", Value.int k tk) :: m2) A (eval (.Call (.Name (ofString "abs") p1) [.Name (ofString "cell") p2] [] p3) c.env) P:=fun h=>Tv.callee (Tv.blt (by k_is) PyProof.Rows.boot_abs (by decide) (Tv.withb (Tv.args1 (Ev.name jk Kx rfl _ (Tv.args0 (Tv.absi h))) rfl) rfl rfl) Kx rfl) rfl
    have lt:∀ {A:Led} {p1 p2 p3 p4 p5:Pos} {q:Nat} {P:Value → Led → Prop}, (∀ t, P (.int (if decide (k < 0) = true then 1 else 0) t) A) → Tv c ((ofString "cell", Value.int k tk) :: m2) A (eval (.Call (.Name (ofString "int") p1) [.Compare (.Name (ofString "cell") p2) [.Lt] [.Constant (.int 0) q p3] p4] [] p5) c.env) P:=fun h=>Tv.callee (Tv.blt (by k_is) boot_int (by decide) (Tv.witht (Tv.args1 (Tv.cmpv (Ev.name jk Kx rfl _ (Tv.cint fun t11 Q E h₁ tk F N ret=>lt_int (ret _ _ _ _ F N (Tv.args0 (Tv.intB h))))) rfl) rfl) rfl rfl) Kx rfl) rfl
    have mm:∀ {a:Int} {y:Int}, y = 1000003 ∨ y = 2 → IntMulOk a y:=fun h=>h.elim (fun e=>e ▸ .of_right (PySem.intBits_le_64 (by decide) (by decide))) fun e=>e ▸ .of_right (PySem.intBits_le_64 (by decide) (by decide))
    exact Ts.assign (l:=(ofString "cell", Value.int k tk) :: m2) rfl (Tv.binop (Tv.binop (Tv.binop (Ev.name jg' Kx rfl _ (Tv.cint fun t1=>Tv.muli (mm (.inl rfl)) fun t2=>Tv.binop (Tv.binop (ab fun t3=>Tv.binop (Tv.cint fun t4=>Tv.cint fun t5=>Tv.powi (by decide) (by decide) (by decide) fun t6=>Tv.modi (Int.ne_of_gt (Int.pow_pos (by decide))) fun t7=>Tv.cint fun t8=>Tv.muli (mm (.inr rfl)) fun t9=>Tv.addi fun t10=>lt fun t12=>Tv.addi fun t13 m3 hm3=>Ts.nil ⟨n2, fun p hp=>hp, off, j1, j2, _, t13, box_step hg, look hm3 rfl⟩)))))))) Kx rfl
  · exact Ts.ret (Tv.listx (Tv.args1 (Ev.name jg Kx rfl _ (Tv.args1 (Tv.cint fun t1=>Tv.args0 (Tv.list (fun ba l=>⟨n, [(ba, PySem.W.listOf [.int g t, .int 0 t1].toArray 0)], all_app (fun p hp=>.tail _ (j2 p hp)) (all_one (.head _)), Gt.cons (fun q hq=>Nat.ne_of_lt (l q (j2 q hq))) Gt.nil, ba, _, rfl, rfl, rfl, fun p hp=>l p (j2 p hp), ⟨g, 0, t, t1, 0, rfl, hg, Int.le_refl 0, Int.le_refl 0⟩⟩) (Nat.le_of_ble_eq_true rfl))) rfl)) rfl))
end
noncomputable def LawGoal (SC:Scope) (body:List Stmt):Prop:=∀ (w:World) (mx:Mx) (b:Amb w mx) (sa ba:Addr) (ws:List Value) (bo q3 p2 p1:Obj) (c:Wc) (σ:Ws) (η:Hs) (X:Led), q3.data = .cell none → HI w c [] σ η X → (∃ a, valueAt σ.kvs Ob = some (.ref a)) →
  p1.data = .cell (some (.ref ba)) → p2.data = .cell (some (.ref c.wa)) → ws.length ≤ 63 → BoxObj bo 0 → Gt [(b.L + 1 + 1 + 1, q3), (b.L + 1 + 1, p2), (b.L + 1, p1), (ba, bo)] (Hw c σ η ++ X) → b.cp = none → b.cs = SC → b.cl = [(ofString "things", b.L + 1 + 1 + 1), (ofString "world", b.L + 1 + 1), (ofString "box", b.L + 1)] → b.gd = some [] → b.Room 300 → b.h₀.IsList sa ws.toArray → (@LT.lt Nat _ (b.L + 1 + 1 + 1) ba) →
  Ts b [(ofString "script", .ref sa)] ([(b.L + 1 + 1 + 1, q3), (b.L + 1 + 1, p2), (b.L + 1, p1), (ba, bo)] ++ (Hw c σ η ++ X)) body (fun v _=>v = .bool true) fun _ _=>False
theorem law_begin {SC:Scope} {w mx} {b:Amb w mx} {sa:Addr} {ws:List Value} {ns:List Int} {q3 q2 q1:Obj} {body:List Stmt} {px py tp p1 p2 p3 p4 p5 p6 tq pos:Pos} {k k2:Nat} (G:LawGoal SC body) (hcp:b.cp = none) (hcs:b.cs = SC) (hcl:b.cl = [(ofString "things", b.L + 1 + 1 + 1), (ofString "world", b.L + 1 + 1), (ofString "box", b.L + 1)]) (hgd:b.gd = some []) (hr:b.Room 300) (hs:b.h₀.IsList sa ws.toArray) (hi:IntsAre ws ns) (hl:ws.length ≤ 63) (e3:q3.data = .cell none) (e2:q2.data = .cell none) (e1:q1.data = .cell none)
    (kb:Kd b (ofString "box") .cell) (kw:Kd b (ofString "world") .cell) (ks:Kd b (ofString "script") .local) (kl:Kd b (ofString "_law_box") .globalImplicit) (kW:Kd b (ofString "World") .globalImplicit)
    (sw:∀ value, value = .Tuple [.Call (.Name (ofString "_law_box") p1) [.Name (ofString "script") p2] [] p3, .Call (.Name (ofString "World") p4) [.Dict [] [] p5] [] p6] k2 tq → swappedStores [.Tuple [.Name (ofString "box") px, .Name (ofString "world") py] k tp] value b.env0 = pure none) :
    Ts b [(ofString "script", .ref sa)] [(b.L + 1 + 1 + 1, q3), (b.L + 1 + 1, q2), (b.L + 1, q1)] (.Assign [.Tuple [.Name (ofString "box") px, .Name (ofString "world") py] k tp] (.Tuple [.Call (.Name (ofString "_law_box") p1) [.Name (ofString "script") p2] [] p3, .Call (.Name (ofString "World") p4) [.Dict [] [] p5] [] p6] k2 tq) pos :: body) (fun v _=>v = .bool true) fun _ _=>False:=by
  refine Ts.tupCC hcp (C1:=b.L + 1) (C2:=b.L + 1 + 1) (Tv.tup (Tv.args1 (Tv.gcall (Ev.glob (by k_is) kl rfl) (by k_is) (Evs.cons (Ev.name rfl ks rfl) Evs.nil rfl) (Tv.box hs hi hl (fun d hd=>hr d (Nat.lt_trans hd (by decide))) fun ba bo lba hbo=>Tv.args1 (Tv.callee (Ev.glob (by k_is) kW rfl _ (Tv.with1 (by k_is) (Tv.args1 (Tv.dict0 fun nat on ln lon hon=>Tv.args0 (Tv.does (world_new hon lon fun p hp=>Nat.ne_of_lt (ln p hp)) hr (fun r n' tl g z9=>Tv.args0 ?_) (by decide))) rfl) rfl rfl)) rfl) rfl) rfl rfl) rfl)) kb kw (by rw [hcl]; rfl) (by rw [hcl]; rfl) rfl (sw _ rfl)
  refine byP fun _ q9=>?_
  obtain ⟨c, σ, X, o4, rfl, rfl, N9⟩:=z9
  obtain ⟨η, hH, s, g0⟩:=world_hi N9
  refine q9 ?_
  have lb:@LT.lt Nat _ (b.L + 1 + 1 + 1) ba:=lba _ (.head _)
  have lb2:@LT.lt Nat _ (b.L + 1) ba:=lba _ (.tail _ (.tail _ (.head _)))
  have lb3:@LT.lt Nat _ (b.L + 1 + 1) ba:=lba _ (.tail _ (.head _))
  refine Tv.tuple (fun D lD=>⟨D, .ref ba, .ref c.wa, 0, rfl, .head _, q1, (b.L + 1 + 1 + 1, q3) :: (b.L + 1 + 1, q2) :: (ba, bo) :: (Hw c σ η ++ X), all_more (.tail _ (s _ (.tail _ (.tail _ (.head _))))) (all_more (.tail _ (s _ (.head _))) (all_more (.tail _ (s _ (.tail _ (.head _)))) fun p hp=>.tail _ (s p (List.mem_append_right [(b.L + 1 + 1 + 1, q3), (b.L + 1 + 1, q2), (b.L + 1, q1)] hp)))), ⟨_, e1⟩, all_more (Nat.ne_of_gt (Nat.lt_succ_of_lt (Nat.lt_succ_self _))) (all_more (Nat.ne_of_gt (Nat.lt_succ_self _)) (all_more (Nat.ne_of_gt lb2) fun p hp=>Ne.symm (g0 _ (.tail _ (.tail _ (.head _))) p hp))), fun c1 h1=>⟨q2, (b.L + 1, c1) :: (b.L + 1 + 1 + 1, q3) :: (ba, bo) :: (Hw c σ η ++ X), all_more (.tail _ (.tail _ (.head _))) (all_more (.head _) (all_more (.tail _ (.head _)) fun p hp=>.tail _ (.tail _ (.tail _ hp)))), ⟨_, e2⟩, all_more (Nat.ne_of_lt (Nat.lt_succ_self _)) (all_more (Nat.ne_of_gt (Nat.lt_succ_self _)) (all_more (Nat.ne_of_gt lb3) fun p hp=>Ne.symm (g0 _ (.tail _ (.head _)) p hp))), fun c2 h2=>?_⟩⟩) (Nat.le_of_ble_eq_true rfl)
  refine Ts.re (k:=[(b.L + 1 + 1 + 1, q3), (b.L + 1 + 1, c2), (b.L + 1, c1), (ba, bo)] ++ (Hw c σ η ++ X)) (all_more (.tail _ (.tail _ (.head _))) (all_more (.head _) (all_more (.tail _ (.head _)) fun p hp=>.tail _ (.tail _ (.tail _ hp))))) ?_
  exact G w mx b sa ba ws bo q3 c2 c1 c σ η X e3 hH N9.ob h1 h2 hl hbo (Gt.subA (all_more ⟨q3, .head _⟩ (all_more ⟨q2, .tail _ (.head _)⟩ (all_more ⟨q1, .tail _ (.tail _ (.head _))⟩ (all_one ⟨bo, .tail _ (.tail _ (.tail _ (.head _)))⟩)))) g0) hcp hcs hcl hgd hr hs lb
noncomputable def stB:(P:Prop) ×' (Hold P → PySem.Challenge.rw_nz0048_01.Holds):=by
  refine ⟨?P, ?H⟩
  case H =>
    intro hP9
    refine hd9.2 ?_
    unfold hd9
    dsimp only
    k_fill
    intro w s0 s1 mg mb G Y fa o pm cd doc dV kV ho hd hcd hD hmg hg args vals as hpre hlay hrd hwl hlo
    have KX:=kIn_of Y
    refine Ground.open G ?_
    intro T B D TE TW
    refine guard_noD D (by decide +kernel) ?_
    clear D hmg
    wrow_args hpre hlay hrd hwl hlo
    refine enter_call ?_
    refine codeAny_mono ?_ (fun _ _ g=>GoodW.toG g)
    have K0:=below_caller (Top.heap T)
    w_call any ho hd hcd hD T F
    (try k_fold)
    rename_i ns hs hlay hL1 hr1 hl2 l4 l3 sa ws l0 hL ra w1 r0 hI hr hcond tr h₁ tk o3 o2 o1 e3 e2 e1 N0 cells
    replace e3:o3.data = .cell none:=e3
    replace e2:o2.data = .cell none:=e2
    replace e1:o1.data = .cell none:=e1
    refine' ts_open (mx:=⟨_, mg, mb⟩) (k:=300) ⟨callerA.depth + 1, callerA.units + 3, some [], ofString "law", _, s1.heap.objs.size, _, _, _, [], callerA, _, T.heap, s1, K0, KX, T, rfl, none⟩ ?E ?F N0 ?R ?Q ?_
    case E=>passes_own
    case F=>exact fr_locs F rfl fun x=>rfl
    case R =>
      have c1:callerA.depth + 1 + 300 < recursionLimit:=by decide +kernel
      have c2:callerA.units + 3 + 8 * 300 < cLine:=by decide +kernel
      exact fun d hd=>⟨Nat.lt_trans (Nat.add_lt_add_left hd _) c1, Nat.lt_of_le_of_lt (Nat.add_le_add_left (Nat.mul_le_mul_left 8 (Nat.le_of_lt hd)) _) c2⟩
    case Q =>
      intro h' tk' m' F'
      refine goodW_bool F' ?hg (raisesW_false ?hn) ?hp
      case hg=>exact hg
      case hn=>wrow_none_raised
      case hp=>wrow_post
    clear_value qk ek
    intro b hcp hcs hcl hgd hbL hh hbr
    dsimp only at hcp hcs hcl hgd hbL hh
    have hs9:b.h₀.IsList sa ws.toArray:=hh ▸ hL
    have hlen:ws.length ≤ 63:=by
      rw [hI.length]
      exact Int.ofNat_le.mp (Int.not_lt.mp hcond)
    rw [← hbL] at hcl ⊢
    refine' law_begin (?hh:LawGoal _ _) hcp hcs hcl hgd hbr hs9 hI hlen e3 e2 e1 Kx Kx Kx Kx Kx (fun v h=>by rw [h]; show swappedStores _ _ (envX _ b.cs _ _ _ _) = _; rw [hcs]; rfl)
    exact hP9.h
section
variable {w mx} {b:Amb w mx} {m:Fm} {n:Led} {k:Wc} {da:List Addr} {σ0 σ:Ws} {η0 η:Hs} {X rest T R heads:Led} {Rr:Value → Led → Prop} {K:Fm → Led → Prop} {more:List Stmt}
theorem Ts.assignC {x:Str} {C:Addr} {pos pos':Pos} {e:Expr} (h:Tv b m n (eval e b.env) fun v n'=>∃ o l, (∀ p ∈ (C, o) :: l, p ∈ n') ∧ (∃ v0, o.data = .cell v0) ∧ (∀ p ∈ l, p.1 ≠ C) ∧ ∀ o', o'.data = .cell (some v) → Ts b m ((C, o') :: l) more Rr K)
    (hx:Kd b x .cell) (hc:b.cl.lookup x = some C) (hs:swapsWith e (some (.Name x pos')) pos.line b.env = pure false):Ts b m n (.Assign [.Name x pos'] e pos :: more) Rr K:=fun Q E h₁ tk hE F N r1 r2 =>
  wpAny_execs_cons (wpAny_Assign_Name (h _ _ _ _ F N fun v h' tk' n' F' N' ⟨o, l, sub, ⟨v0, ho⟩, off, p⟩=>by
    rw [Amb.env_of hx.1]
    exact storeX_C F' (News.of N' sub) hc (UpdF.head off) ho (fun h'' o' F'' N'' d=>Amb.env_of hx.1 ▸ p o' d Q E h'' _ hE F'' N'' r1 r2) b.k hx.2) hs)
theorem Ts.fn {bd:List Stmt} (h:(∀ a o o', (a, o) ∈ n → (a, o') ∈ n → o = o') → Ts b m n bd Rr K):Ts b m n bd Rr K:=fun Q E h₁ tk hE F N r1 r2=>h (fun _ _ _ h1 h2=>news_fn N h1 h2) Q E h₁ tk hE F N r1 r2
theorem wm_thing:MethOk w 681 "thing" 587:=⟨by k_is, by k_is, by k_is⟩
theorem Tv.hbt {e0:Expr} {x:Str} {q dn:Nat} {p2 p3 p4:Pos} {P:Value → Led → Prop} {pl:Sem Bool} (h0:Ev b m (heads ++ (Hw k σ η ++ R)) e0 (.ref k.wa)) (Y:Hy w k da σ0 η0 X rest σ η T R) (hh:Gt heads (Hw k σ η ++ R)) (hr:b.Room dn) (hx:x ∈ names)
    (h:∀ a σ' tl, Hy w k da σ0 η0 X rest σ' η (T ++ tl) (R ++ tl) → WX σ σ' → Gt heads (Hw k σ' η ++ (R ++ tl)) → valueAt σ'.kvs x = some (.ref a) → P (.ref a) (heads ++ (Hw k σ' η ++ (R ++ tl)))) (hd:92 < dn)
    (he:eval (Expr.Call (.Attribute e0 (ofString "builtin") p2) [.Constant (.str x) q p4] [] p3) b.env = (do let ov ← eval e0 b.env; standAt (Pos.atName p2); let fx ← holding [ov] (getMethod ov (ofString "builtin") pl); match fx with | (g, first)=>callWith p3 g first (backTo p3 (starEach [.Constant (.str x) q p4] b.env)) [])):Tv b m (heads ++ (Hw k σ η ++ R)) (eval (.Call (.Attribute e0 (ofString "builtin") p2) [.Constant (.str x) q p4] [] p3) b.env) P :=
  Tv.hmx h0 wm_builtin Y.hi.inv.ok.n_builtin (by k_is) (Tv.args1 (Tv.cstr fun t=>Tv.args0 (Tv.hy (hw_of_wc Y.hi (builtin_ok Y.hi.inv hx)) Y hh hr (fun r σ' η' tl Y' _ hW g ⟨e, a, e2, hv⟩=>by
    subst e
    subst e2
    exact h a σ' tl Y' hW g hv) hd)) rfl) he rfl rfl
theorem Ts.compR {sc:Scope} {cl:List (Str × Addr)} {elt iter:Expr} {x y:Str} {px py:Pos} {pos spos:Pos} (hp:b.cp = none) (hit:Tv b m n (eval iter b.env) fun v n1=>∃ (r:Addr) (N:Nat) (t u z:Tok), v = .ref r ∧ (r, rng N t u z) ∈ n1 ∧ N ≤ 1000 ∧ Turns b m sc cl x elt (fun i v=>∃ t, v = .int (i:Int) t) N (fun v n'=>∀ m', m' = (y, v) :: m → Ts b m' n' more Rr K) n1)
    (hclos:closureFor sc b.env0 = pure cl) (hcell:∀ y ∈ sc.names, y.2 ≠ .cell) (hkind:sc.kind = .function) (hnames:∀ y ∈ sc.names, y.2 = .local → sc.names.lookup y.1 = some .local) (hx:sc.names.lookup x = some .local) (hs:∀ v, foldedSetIterable iter b.env0 v = pure v) (hy:Kd b y .local)
    (hsw:swapsWith (.ListComp elt [⟨.Name x px, iter, [], 0⟩] sc pos) (some (.Name y py)) spos.line b.env0 = pure true):Ts b m n (.Assign [.Name y py] (.ListComp elt [⟨.Name x px, iter, [], 0⟩] sc pos) spos :: more) Rr K:=fun Q E h₁ tk hE F N r1 r2=>by
  have hit':=hit
  have hE':=hE
  unfold Tv at hit'
  rw [Amb.env_of hp] at hE' hit'
  refine wpAny_execs_cons ?_
  rw [Amb.env_of hp]
  refine LCg.Assign_ListComp_U (cl:=cl) F rfl hsw hclos hcell hkind hnames hx hy.2 (by show (b.cs.kind == .class || (b.cs.kind == .module && _)) = false; rw [b.k]; rfl) (hit' _ E h₁ tk F N fun v h' tk' n' F' N' z9=>?_) hs
  refine byP fun _ q9=>?_
  obtain ⟨r, N1, t, u, z, e1, hm, hN, J, J0, step, fin⟩:=z9
  refine q9 ?_
  have fin':=fin
  unfold Ts at fin'
  rw [Amb.env_of hp] at fin'
  subst e1
  refine LCg.CompSrc.range (n:=N1) rfl F' N' (N' _ hm).1 (small_one (by decide) (by decide) (by lia) (by lia)) ?_ (by rw [sizeLine_eq]; lia) fun g=>comp_loop J ?_ ?_ J0
  · exact range_size N1
  · intro i ys news hi hj v I oI C oC D m₂ h tk E' ⟨tv, hv⟩ hC hx2 F2 N2 off ne
    have off9:=off.mem
    rw [Int.zero_add] at hv
    have key:=step i ys news v [(I, oI), (C, oC), (D, LCg.lst ys)] C oC m₂ hi ⟨tv, hv⟩ hj (iC iH) hC hx2 (fun q hq p hp=>by
      have:=off9 p hp
      simp only [List.mem_cons, List.not_mem_nil, or_false] at hq
      rcases hq with rfl | rfl | rfl
      · exact this.1
      · exact this.2.1
      · exact this.2.2)
    exact key _ E' h tk F2 N2 fun y h' tk' f F3 N3 z9=>by refine byP fun _ q9=>?_; obtain ⟨n2, s, o, j⟩:=z9; exact q9 (LCg.CompEnd.intro F3 N3 n2 s (LCg.Off3.of fun p hp=>⟨o (I, oI) iH p hp, o (C, oC) (iC iH) p hp, o (D, LCg.lst ys) (iC (iC iH)) p hp⟩) trivial j)
  · intro ys news hj D h tk F2 N2 o1
    exact fin' D ys news hj (Ne1.of_off1 o1 fun p hp=>hp) _ rfl Q E h tk hE' (fm_set F2) N2 r1 r2
variable {P:Value → Led → Prop}
theorem Tv.lenS {sa:Addr} {ws:List Value} (hs:b.h₀.IsList sa ws.toArray) (hl:ws.length ≤ 63) (h:∀ t, P (.int (ws.length:Int) t) n):Tv b m n (call (.builtin "len") [.ref sa]) P:=fun Q E h₁ tk F N ret =>
  call_len_list (hs.at fun o e=>F.keep _ _ e) (by rw [List.size_toArray]; lia) (by rw [List.size_toArray]; exact ret _ _ _ _ F N (h _))
theorem Tv.min3 {i:Int} {t u:Tok} (h:∀ t, P (.int (if i < 3 then i else 3) t) n):Tv b m n (call (.builtin "min") [.int 3 t, .int i u]) P:=fun Q E h₁ tk F N ret=>by
  walk1
  by_cases e:i < 3
  · rw [if_pos e] at h ⊢
    exact ret _ _ _ _ ‹_› ‹_› (h _)
  · rw [if_neg e] at h ⊢
    exact ret _ _ _ _ ‹_› ‹_› (h _)
end
structure Lw (w:World) (c:Wc) (da:List Addr) (th:Th) (δ:Int → Addr) (lt:Addr) (hd:Led) (σ:Ws) (η:Hs) (X:Led):Prop where
  hi:HI w c da σ η X
  ht:ThH th δ da η X
  ml:(lt, listOf [.ref th.a0, .ref th.a1, .ref th.a2].toArray 0) ∈ X
  gh:Gt hd (Hw c σ η ++ X)
  nm:∀ i, 0 ≤ i → i < 3 → th.num i ≤ σ.num
noncomputable abbrev hd4 (L ba:Addr) (bo o3 p2 p1:Obj):Led:=[(ba, bo), (L + 1 + 1 + 1, o3), (L + 1 + 1, p2), (L + 1, p1)]
structure Lf {w mx} (SC:Scope) (b:Amb w mx) (sa ba lt:Addr) (ws:List Value) (c:Wc) (o3 p2 p1:Obj):Prop where
  cp:b.cp = none
  cs:b.cs = SC
  cl:b.cl = [(ofString "things", b.L + 1 + 1 + 1), (ofString "world", b.L + 1 + 1), (ofString "box", b.L + 1)]
  gd:b.gd = some []
  hr:b.Room 300
  hs:b.h₀.IsList sa ws.toArray
  hl:ws.length ≤ 63
  h3:o3.data = .cell (some (.ref lt))
  h2:p2.data = .cell (some (.ref c.wa))
  h1:p1.data = .cell (some (.ref ba))
  lb:@LT.lt Nat _ (b.L + 1 + 1 + 1) ba
theorem Lf.off {w mx} {SC:Scope} {b:Amb w mx} {sa ba lt:Addr} {ws:List Value} {c:Wc} {o3 p2 p1 bo:Obj} {l:Led} (F:Lf SC b sa ba lt ws c o3 p2 p1) (g:Gt (hd4 b.L ba bo o3 p2 p1) l):∀ p ∈ [(b.L + 1 + 1 + 1, o3), (b.L + 1 + 1, p2), (b.L + 1, p1)] ++ l, (p.1:Nat) ≠ ba :=
  all_app (all_more (Nat.ne_of_lt F.lb) (all_more (Nat.ne_of_lt (Nat.lt_trans (Nat.lt_succ_self _) F.lb)) (all_one (Nat.ne_of_lt (Nat.lt_trans (Nat.lt_succ_of_lt (Nat.lt_succ_self _)) F.lb))))) fun p hp=>Ne.symm (g _ iH p hp)
noncomputable def LawGoal2 (SC:Scope) (body:List Stmt):Prop:=∀ (w:World) (mx:Mx) (b:Amb w mx) (sa ba lt:Addr) (ws:List Value) (bo o3 p2 p1:Obj) (c:Wc) (da:List Addr) (th:Th) (δ:Int → Addr) (σ:Ws) (η:Hs) (X:Led) (m:Fm),
  Lf SC b sa ba lt ws c o3 p2 p1 → Lw w c da th δ lt (hd4 b.L ba bo o3 p2 p1) σ η X → BoxObj bo 0 → m.lookup (ofString "script") = some (.ref sa) → Ts b m (hd4 b.L ba bo o3 p2 p1 ++ (Hw c σ η ++ X)) body (fun v _=>v = .bool true) fun _ _=>False
noncomputable def stC:(P:Prop) ×' (Hold P → stB.1):=by
  refine ⟨?P, ?H⟩
  case H =>
  intro hP9
  unfold stB LawGoal
  dsimp only
  intro w mx b sa ba ws bo q3 p2 p1 c σ η X e3 hH hOb hp1 hp2 hlen hbox hg hcp hcs hcl hgd hr hs hba
  have ew:∀ {m A p}, Ev b m ([(b.L + 1 + 1 + 1, q3), (b.L + 1 + 1, p2), (b.L + 1, p1), (ba, bo)] ++ A) (.Name (ofString "world") p) (.ref c.wa):=fun {m A p}=>Ev.cell (by rw [hcl]; rfl) (iC iH) hp2 Kx rfl
  have Y:=Hy.start hH (fun _ h=>h) hH.hw
  refine Ts.assignC (C:=b.L + 1 + 1 + 1) (Tv.listx (Tv.args1 (Tv.hmx ew wm_thing Y.hi.inv.ok.n_thing (by k_is) (Tv.args1 (Tv.hbt ew Y hg hr (by decide +kernel) (fun b2 σ2 tl2 Y2 W2 g2 hv2=>Tv.args0 (Tv.hy (hw_of_wc Y2.hi (thing_obj Y2.hi.inv hv2)) Y2 g2 hr (fun r3 σ3 η3 tl3 Y3 E3 W3 g3 z9=>?_) (by decide))) (by decide) rfl) rfl) rfl rfl rfl) rfl)) Kx (by rw [hcl]; rfl) rfl
  refine byP fun _ q9=>?_
  obtain ⟨ee, a0, d0, es0, e3', et3, hF3, hn3, hk3⟩:=z9
  refine q9 ?_
  subst ee
  subst e3'
  subst et3
  refine Tv.args1 (Tv.hmx ew wm_thing Y3.hi.inv.ok.n_thing (by k_is) (Tv.args1 (Tv.hbt ew Y3 g3 hr (by decide +kernel) (fun b4 σ4 tl4 Y4 W4 g4 hv4=>Tv.args0 (Tv.hy (hw_of_wc Y4.hi (thing_hash Y4.hi.inv hv4)) Y4 g4 hr (fun r5 σ5 η5 tl5 Y5 E5 W5 g5 z9=>?_) (by decide))) (by decide) rfl) rfl) rfl rfl rfl) rfl
  refine byP fun _ q9=>?_
  obtain ⟨ee, a1, d1, z5, oz5, es1, e5', et5, hF5, hn5, hk5, hr5, lo5, hz5, _⟩:=z9
  refine q9 ?_
  subst ee
  subst e5'
  subst et5
  refine Tv.args1 (Tv.hbt ew Y5 g5 hr (by decide +kernel) (fun b6 σ6 tl6 Y6 W6 g6 hv6=>Tv.args0 (Tv.list (fun lt hlt=>?_) (Nat.le_of_ble_eq_true rfl))) (by decide) rfl) rfl
  have e26:b6 = b2:=by
    have:=W6.kvs _ _ (W5.kvs _ _ (W4.kvs _ _ (W3.kvs _ _ hv2)))
    rw [hv6] at this
    exact Value.ref.inj (Option.some.inj this)
  subst e26
  refine byP fun _ q9=>?_
  obtain ⟨d2, es2, m2', k2, t2', g1, g2', g3', g4', g5'⟩:=mod_at Y2.hi.inv hv2
  refine q9 ?_
  rw [hi_nil Y2.hi] at g1 g2'
  obtain ⟨u0, hu0⟩:=hF3.number
  obtain ⟨u1, hu1⟩:=hF5.number
  have w4:=W4.num
  have w6:=W6.num
  have s2:∀ p ∈ X ++ ([] ++ tl2), p ∈ X ++ ((((([] ++ tl2) ++ [(a0, instObj 40 d0), (d0, dictOf es0 6)]) ++ tl4) ++ [(z5, oz5), (a1, instObj 120 d1), (d1, dictOf es1 8)]) ++ tl6):=fun p hp=>(List.mem_append.mp hp).elim (iL) fun h=>iR (iL (iL (iL (iL h))))
  have s3:∀ p ∈ [(a0, instObj 40 d0), (d0, dictOf es0 6)], p ∈ X ++ ((((([] ++ tl2) ++ [(a0, instObj 40 d0), (d0, dictOf es0 6)]) ++ tl4) ++ [(z5, oz5), (a1, instObj 120 d1), (d1, dictOf es1 8)]) ++ tl6):=fun p hp=>iR (iL (iL (iL (iR hp))))
  have s5:∀ p ∈ [(z5, oz5), (a1, instObj 120 d1), (d1, dictOf es1 8)], p ∈ X ++ ((((([] ++ tl2) ++ [(a0, instObj 40 d0), (d0, dictOf es0 6)]) ++ tl4) ++ [(z5, oz5), (a1, instObj 120 d1), (d1, dictOf es1 8)]) ++ tl6):=fun p hp=>iR (iL (iR hp))
  have H6:=Y6.hi
  have x6:=Y6.xr
  have q1:=s3 _ iH
  have q2:=s3 _ (iC iH)
  have q3':=s5 _ (iC iH)
  have q4:=s5 _ (iC (iC iH))
  have q5:=s2 _ g1
  have q6:=s2 _ g2'
  clear s2 s3 s5 g1 g2' Y Y2 Y3 Y4 Y5 Y6 W2 W3 W4 W5 W6 E3 E5 g2 g3 g4 g5 hv2 hv4 hv6 hH hg hOb ew
  generalize X ++ ((((([] ++ tl2) ++ [(a0, instObj 40 d0), (d0, dictOf es0 6)]) ++ tl4) ++ [(z5, oz5), (a1, instObj 120 d1), (d1, dictOf es1 8)]) ++ tl6) = X6 at H6 x6 q1 q2 q3' q4 q5 q6
  generalize (((((X ++ tl2) ++ [(a0, instObj 40 d0), (d0, dictOf es0 6)]) ++ tl4) ++ [(z5, oz5), (a1, instObj 120 d1), (d1, dictOf es1 8)]) ++ tl6:Led) = R6 at x6 g6 hlt ⊢
  have lC:∀ q ∈ [(b.L + 1 + 1 + 1, q3), (b.L + 1 + 1, p2), (b.L + 1, p1), (ba, bo)], (q.1:Nat) < lt:=fun q hq=>hlt q (iL hq)
  have G:Gt [(b.L + 1 + 1 + 1, q3), (b.L + 1 + 1, p2), (b.L + 1, p1), (ba, bo)] ((lt, listOf [.ref a0, .ref a1, .ref b6].toArray 0) :: (Hw c σ6 η5 ++ R6)):=Gt.cons (fun q hq=>Nat.ne_of_lt (lC q hq)) g6
  refine ⟨q3, (ba, bo) :: (b.L + 1 + 1, p2) :: (b.L + 1, p1) :: (lt, listOf [.ref a0, .ref a1, .ref b6].toArray 0) :: (Hw c σ6 η5 ++ R6), fun p hp=>?_, ⟨_, e3⟩, ?_, fun o3 h3=>Ts.fn fun fn=>?_⟩
  · simp only [List.mem_append, List.mem_cons, List.not_mem_nil, or_false] at hp ⊢
    rcases hp with h | h | h | h | h | h
    · exact .inr (.inl (.inl h))
    · exact .inr (.inl (.inr (.inr (.inr h))))
    · exact .inr (.inl (.inr (.inl h)))
    · exact .inr (.inl (.inr (.inr (.inl h))))
    · exact .inl h
    · exact .inr (.inr h)
  · exact all_more (Nat.ne_of_gt hba) (all_more (Nat.ne_of_lt (Nat.lt_succ_self _)) (all_more (Nat.ne_of_lt (Nat.lt_succ_of_lt (Nat.lt_succ_self _))) fun p hp=>Ne.symm (G _ iH p hp)))
  refine byP fun _ q9=>?_
  obtain ⟨η, Xt, H7, hT, hiff, hsub, hkeep⟩:=take3 (a0:=a0) (d0:=d0) (a1:=a1) (d1:=d1) (a2:=b6) (d2:=d2) H6 (fun a o o' h1 h2=>fn a o o' (.tail _ (.tail _ (.tail _ (.tail _ (.tail _ (iR (x6 _ h1))))))) (.tail _ (.tail _ (.tail _ (.tail _ (.tail _ (iR (x6 _ h2))))))))
    q1 q2 hu0 (newF_idl hF3) q3' q4 hu1 (newF_idl hF5) q5 q6 g3' g5' (by lia) (by lia) (by lia)
  refine q9 ?_
  have sub:∀ p ∈ Hw c σ6 η ++ ((lt, listOf [.ref a0, .ref a1, .ref b6].toArray 0) :: Xt), p ∈ (lt, listOf [.ref a0, .ref a1, .ref b6].toArray 0) :: (Hw c σ6 η5 ++ R6):=by
    have key:∀ p ∈ Hw c σ6 η ++ Xt, p ∈ (lt, listOf [.ref a0, .ref a1, .ref b6].toArray 0) :: (Hw c σ6 η5 ++ R6):=fun p hp=>iC ((List.mem_append.mp ((hiff p).mp hp)).elim (iL) fun h=>iR (x6 p h))
    exact all_app (fun p hp=>key p (iL hp)) (all_more iH fun p hp=>key p (iR hp))
  have G2:Gt (hd4 b.L ba bo o3 p2 p1) (Hw c σ6 η ++ ((lt, listOf [.ref a0, .ref a1, .ref b6].toArray 0) :: Xt)):=Gt.subR (Gt.subA (all_more ⟨bo, .tail _ (.tail _ (.tail _ (.head _)))⟩ (all_more ⟨q3, .head _⟩ (all_more ⟨p2, .tail _ (.head _)⟩ (all_one ⟨p1, .tail _ (.tail _ (.head _))⟩)))) G) sub
  have gl:Gt (Hw c σ6 η) ((lt, listOf [.ref a0, .ref a1, .ref b6].toArray 0) :: Xt):=Gt.cons (fun q hq=>Nat.ne_of_lt (hlt q (iR ((List.mem_append.mp ((hiff q).mp (iL hq))).elim (iL) fun h=>iR (x6 q h))))) H7.hw
  refine Ts.re (k:=hd4 b.L ba bo o3 p2 p1 ++ (Hw c σ6 η ++ ((lt, listOf [.ref a0, .ref a1, .ref b6].toArray 0) :: Xt))) (all_app (all_more (.tail _ (.head _)) (all_more (.head _) (all_more (.tail _ (.tail _ (.head _))) (all_one (.tail _ (.tail _ (.tail _ (.head _)))))))) fun p hp=>.tail _ (.tail _ (.tail _ (.tail _ (sub p hp))))) ?_
  refine' (?hh:LawGoal2 _ _) w mx b sa ba lt ws bo o3 p2 p1 c _ _ _ _ _ _ _ ⟨hcp, hcs, hcl, hgd, hr, hs, hlen, h3, hp2, hp1, hba⟩ ⟨H7.to (fun _ h=>.tail _ h) gl, hT.mono fun _ h=>.tail _ h, .head _, G2, fun i i0 i3=>?nm⟩ hbox rfl
  case nm =>
    have:i = 0 ∨ i = 1 ∨ i = 2:=by lia
    rcases this with rfl | rfl | rfl
    · show σ2.num + 1 ≤ σ6.num; lia
    · show σ4.num + 1 ≤ σ6.num; lia
    · show k2 ≤ σ6.num; lia
  exact hP9.h
section
variable {w:World} {c:Wc} {da:List Addr} {th:Th} {δ:Int → Addr} {lt:Addr} {hd hd':Led} {σ σ':Ws} {η η':Hs} {X t:Led}
theorem Lw.heads (L:Lw w c da th δ lt hd σ η X) (s:∀ q ∈ hd', ∃ o, (q.1, o) ∈ hd):Lw w c da th δ lt hd' σ η X:={ L with gh:=Gt.subA s L.gh }
theorem Lw.step (L:Lw w c da th δ lt hd σ η X) (hI:HI w c da σ' η' (X ++ t)) (hE:HExt η η') (hW:σ.num ≤ σ'.num) (g:Gt hd (Hw c σ' η' ++ (X ++ t))):Lw w c da th δ lt hd σ' η' (X ++ t) :=
  ⟨hI, (L.ht.ext hE).mono fun _ h=>iL h, iL L.ml, g, fun i h0 h3=>Int.le_trans (L.nm i h0 h3) hW⟩
theorem Lw.lay (L:Lw w c da th δ lt hd σ η X) (g:Gt (Hw c σ η) t) (g2:Gt hd t):Lw w c da th δ lt hd σ η (X ++ t) :=
  L.step (L.hi.grow g) (HExt.refl _) (Int.le_refl _) (by rw [← List.append_assoc]; exact Gt.app L.gh g2)
end
noncomputable def IsPl (X:Led) (y:Value):Prop:=∃ p:Pl, p.Ok ∧ p.dep ≤ 2 ∧ DatIn X y p.dat
theorem IsPl.mono {X Y:Led} {y:Value} (h:IsPl X y) (s:∀ p ∈ X, p ∈ Y):IsPl Y y:=h.elim fun p h=>⟨p, h.1, h.2.1, h.2.2.mono s⟩
noncomputable def LawGoal3 (SC:Scope) (body:List Stmt):Prop:=∀ (w:World) (mx:Mx) (b:Amb w mx) (sa ba lt lp:Addr) (ws pvs:List Value) (bo o3 p2 p1:Obj) (c:Wc) (da:List Addr) (th:Th) (δ:Int → Addr) (σ:Ws) (η:Hs) (X:Led) (m:Fm),
  Lf SC b sa ba lt ws c o3 p2 p1 → Lw w c da th δ lt ((lp, LCg.lst pvs) :: hd4 b.L ba bo o3 p2 p1) σ η X → (∀ q ∈ hd4 b.L ba bo o3 p2 p1, (q.1:Nat) ≠ lp) → BoxObj bo 150 → m.lookup (ofString "script") = some (.ref sa) → m.lookup (ofString "plans") = some (.ref lp) → 2 ≤ pvs.length → pvs.length ≤ 5 → (∀ y ∈ pvs, IsPl X y) →
  Ts b m ((lp, LCg.lst pvs) :: (hd4 b.L ba bo o3 p2 p1 ++ (Hw c σ η ++ X))) body (fun v _=>v = .bool true) fun _ _=>False
noncomputable def stD:(P:Prop) ×' (Hold P → stC.1):=by
  refine ⟨?P, ?H⟩
  case H =>
  intro hP9
  unfold stC LawGoal2
  dsimp only
  intro w mx b sa ba lt ws bo o3 p2 p1 c da th δ σ η X m FF L hbox hsc
  refine byP fun _ q9=>?_
  obtain ⟨hcp, hcs, hcl, hgd, hr, hs, hl, h3, h2, h1, lb⟩:=FF
  refine q9 ?_
  have FF:Lf _ b sa ba lt ws c o3 p2 p1:=⟨hcp, hcs, hcl, hgd, hr, hs, hl, h3, h2, h1, lb⟩
  have es:∀ {A p}, Ev b m A (.Name (ofString "script") p) (.ref sa):=Ev.name hsc Kx rfl
  refine byP fun _ q9=>?_
  obtain ⟨mn, hmn, hmn3⟩:∃ mn:Nat, (if (ws.length:Int) < 3 then (ws.length:Int) else 3) = (mn:Int) ∧ mn ≤ 3:=by
    split
    · exact ⟨ws.length, rfl, by lia⟩
    · exact ⟨3, rfl, by lia⟩
  refine q9 ?_
  refine Ts.compR (cl:=[(ofString "box", b.L + 1)]) hcp (Tv.callee (Tv.blt range_bt (by boot_fast) (by decide) (Tv.witht (Tv.args1 (Tv.binop (Tv.cint fun t1=>Tv.callee (Tv.blt (show nsIn (K9 w.params) mainGlobals (ofString "min") = some none by k_is) (by boot_fast) (by decide) (Tv.withb (Tv.args1 (Tv.cint fun t2=>Tv.args1 (Tv.callee (Tv.blt (show nsIn (K9 w.params) mainGlobals (ofString "len") = some none by k_is) (by boot_fast) (by decide) (Tv.withb (Tv.args1 (es _ (Tv.args0 (Tv.lenS hs hl fun t3=>Tv.args0 (Tv.min3 fun t4=>Tv.addi fun t5=>Tv.args0 ?_)))) rfl) rfl rfl) Kx rfl) rfl) rfl) rfl) rfl rfl) Kx rfl) rfl)) rfl) rfl rfl) Kx rfl) rfl) ?clos ?cell rfl ?names rfl (fun v=>rfl) Kx ?hsw
  case clos =>
    show closureFor _ (envX b.cn b.cs b.L b.a b.ccd b.cl) = _
    rw [hcs, hcl]
    rfl
  case cell=>decide
  case names=>decide
  case hsw =>
    show swapsWith _ _ _ (envX b.cn b.cs b.L b.a b.ccd b.cl) = _
    rw [hcs, hcl]
    rfl
  rw [hmn, show (2 + (mn:Int)) = ((2 + mn:Nat):Int) by lia]
  refine Tv.range fun D u z hD=>⟨D, 2 + mn, _, _, _, rfl, iH, by lia, fun i ys n'=>∃ bo' X', (∀ p ∈ hd4 b.L ba bo' o3 p2 p1 ++ (Hw c σ η ++ X'), p ∈ n') ∧ Lw w c da th δ lt (hd4 b.L ba bo' o3 p2 p1) σ η X' ∧ BoxObj bo' (30 * (i:Int)) ∧ ys.length = i ∧ ∀ y ∈ ys, IsPl X' y, ⟨bo, X, fun p hp=>iC hp, L, hbox.mono (by decide), rfl, fun _ h=>nomatch h⟩, ?step, ?fin⟩
  case step =>
    intro i ys n' v heads C oC m₂ hi _ z9 hC hN hx off
    refine byP fun _ q9=>?_
    obtain ⟨bo', X', sn, L', hb', hl', hys⟩:=z9
    refine q9 ?_
    have ub:=UpdF.pre (.head (o:=bo') (FF.off L'.gh)) fun q hq=>Ne.symm (off q hq (ba, bo') (sn _ iH))
    refine Tv.re (k:=heads ++ (hd4 b.L ba bo' o3 p2 p1 ++ (Hw c σ η ++ X'))) (fun p hp=>(List.mem_append.mp hp).elim (iL) fun h=>iR (sn p h)) ?_
    refine Tv.callee (Ev.cglob (by k_is) (Kc.of hcs rfl rfl) rfl _ (Tv.with1 (by k_is) (Tv.args1 (Ev.ccell rfl (iR (.tail _ (.tail _ (.tail _ (.head _))))) h1 (Kc.of hcs rfl rfl) rfl _ (Tv.args1 (Tv.cint fun t=>Tv.args0 (Tv.does (plan2 ub hb' (by lia)) hr (fun r n2 t g q=>?_) (by decide))) rfl)) rfl) rfl rfl)) rfl
    refine byP fun _ q9=>?_
    obtain ⟨o2', ⟨p, q1, q2, q3, q4⟩, rfl⟩:=q
    refine q9 ?_
    have gh:=Gt.subl (b:=hd4 b.L ba bo' o3 p2 p1) (fun p hp=>List.mem_append_right heads (iL hp)) g
    have gw:=Gt.subl (b:=Hw c σ η) (fun p hp=>List.mem_append_right heads (List.mem_append_right (hd4 b.L ba bo' o3 p2 p1) (iL hp))) g
    refine ⟨hd4 b.L ba o2' o3 p2 p1 ++ (Hw c σ η ++ (X' ++ t)), fun q hq=>?_, fun q hq=>?_, o2', X' ++ t, fun _ h=>h, (L'.lay gw gh).heads (all_more ⟨bo', .head _⟩ fun q hq=>⟨q.2, .tail _ hq⟩), q3.mono (by push_cast; lia), by rw [List.length_append, hl']; rfl, fun y hy=>(List.mem_append.mp hy).elim (fun h=>(hys y h).mono fun _ h=>iL h) fun h=>by rw [List.mem_singleton.mp h]; exact ⟨p, q1, by lia, q4.mono fun _ h=>iR h⟩⟩
    · rw [← List.append_assoc (Hw c σ η), ← List.append_assoc (hd4 b.L ba o2' o3 p2 p1), ← List.append_assoc] at hq
      exact hq
    · have base:∀ p ∈ hd4 b.L ba bo' o3 p2 p1 ++ (Hw c σ η ++ X'), (p.1:Nat) ≠ q.1:=fun p hp=>off q hq p (sn p hp)
      exact all_app (all_more (base (ba, bo') iH) fun p hp=>base p (iL (.tail _ hp))) (all_app (fun p hp=>base p (iR (iL hp))) (all_app (fun p hp=>base p (iR (iR hp))) fun p hp=>Ne.symm (g q (iL hq) p hp)))
  case fin =>
    intro D2 ys n' z9 o1 m' hm'
    refine byP fun _ q9=>?_
    obtain ⟨bo', X', sn, L', hb', hl', hys⟩:=z9
    refine q9 ?_
    have o2:∀ p ∈ hd4 b.L ba bo' o3 p2 p1 ++ (Hw c σ η ++ X'), (p.1:Nat) ≠ D2:=fun p hp=>o1 p (sn p hp)
    refine Ts.re (k:=(D2, LCg.lst ys) :: (hd4 b.L ba bo' o3 p2 p1 ++ (Hw c σ η ++ X'))) (all_more (.head _) fun p hp=>.tail _ (sn p hp)) ?_
    refine' (?hh:LawGoal3 _ _) w mx b sa ba lt D2 ws ys bo' o3 p2 p1 c da th δ σ η X' m' FF { L' with gh:=Gt.appl (a:=[(D2, LCg.lst ys)]) (fun q hq p hp=>by rw [List.mem_singleton.mp hq]; exact Ne.symm (o2 p (iR hp))) L'.gh } (fun q hq=>o2 q (iL hq)) (hb'.mono (by lia)) (by rw [hm']; exact hsc) (by rw [hm']; rfl) (by lia) (by lia) hys
    exact hP9.h
theorem setL_some:∀ (l:List Value) (k:Nat) (v:Value), k < l.length → ki_setL l k v = some (l.set k v)
  | [], k, v, h=>absurd h (Nat.not_lt_zero _)
  | x :: r, 0, v, h=>rfl
  | x :: r, k + 1, v, h=>by
    unfold ki_setL
    rw [setL_some r k v (Nat.lt_of_succ_lt_succ h)]
    rfl
theorem seqI_neg (n:Nat):seqIndex? (-1) (n + 1) = some n:=by
  have:=PySem.seqIndex_neg (k:=-1) (n:=n + 1) (by decide) (by lia)
  rw [this]
  congr 1
  lia
theorem neg_at {prog:Program} {w:World} {A:Around} {E:Value → Shared → Prop} {s:Shared} {h₀:Heap} {L l:Addr} {news:Led} {value slice:PySem.Expr} {vs:List Value} {n k:Nat} {u:Tok} {v:Value} {Q:Value → Shared → Prop} (N:News h₀ L s.heap news) (hm:(l, listOf vs.toArray n) ∈ news) (hk:vs.length = k + 1) (hx:vs[k]? = some v) (h:Q v s)
    (hs:subscripted slice false (.ref l) (.int (-1) u) = operate [.ref l, .int (-1) u] (getItem (.ref l) (.int (-1) u))):wpAny (model prog w) A (subscriptTail value slice (.ref l) (.int (-1) u)) Q E s :=
  kde_neg (News.isList N hm) (by decide) (by decide) (by rw [hk]; exact seqI_neg k) hx h hs
section
variable {w mx} {b:Amb w mx} {m:Fm} {n:Led}
theorem Tv.neg1 {q:Nat} {p1 p2:Pos} {P:Value → Led → Prop} (h:∀ t, P (.int (-1) t) n):Tv b m n (eval (.UnaryOp .USub (.Constant (.int 1) q p1) p2) b.env) P:=fun Q E h₁ tk F N ret=>wpAny_UnaryOp (wpAny_Constant_int (by
  walk1
  exact ret _ _ _ _ ‹_› ‹_› (h _)))
theorem Tv.setNeg {lp:Addr} {vs:List Value} {nq j:Nat} {t:Tok} {v:Value} {l:Led} {P:Unit → Led → Prop} (hj:vs.length = j + 1) (off:∀ p ∈ l, p.1 ≠ lp) (h:P () ((lp, PySem.W.listOf (vs.set j v).toArray nq) :: l)):Tv b m ((lp, PySem.W.listOf vs.toArray nq) :: l) (setItem (.ref lp) (.int (-1) t) v) P:=fun Q E h₁ tk F N ret =>
  ki_setNeg (its:=vs.toArray) (n:=nq) (j:=j) (q:=vs.set j v) F N (by decide) (by decide) (by rw [List.size_toArray, hj]; exact seqI_neg j) (setL_some vs j v (by lia)) (Upd.head off) fun h' F' N'=>ret _ _ _ _ F' N' h
end
noncomputable def LawGoal4 (SC:Scope) (body:List Stmt):Prop:=∀ (w:World) (mx:Mx) (b:Amb w mx) (sa ba lt lp:Addr) (ws pvs:List Value) (nq:Nat) (bo o3 p2 p1:Obj) (c:Wc) (da:List Addr) (th:Th) (δ:Int → Addr) (σ:Ws) (η:Hs) (X:Led) (m:Fm),
  Lf SC b sa ba lt ws c o3 p2 p1 → Lw w c da th δ lt (hd4 b.L ba bo o3 p2 p1) σ η X → (lp, listOf pvs.toArray nq) ∈ X → BoxObj bo 151 → m.lookup (ofString "script") = some (.ref sa) → m.lookup (ofString "plans") = some (.ref lp) → 2 ≤ pvs.length → pvs.length ≤ 5 → (∀ y ∈ pvs, IsPl X y) →
  Ts b m (hd4 b.L ba bo o3 p2 p1 ++ (Hw c σ η ++ X)) body (fun v _=>v = .bool true) fun _ _=>False
noncomputable def stE:(P:Prop) ×' (Hold P → stD.1):=by
  refine ⟨?P, ?H⟩
  case H =>
  intro hP9
  unfold stD LawGoal3
  dsimp only
  intro w mx b sa ba lt lp ws pvs bo o3 p2 p1 c da th δ σ η X m FF L hlp hbox hsc hpl hn2 hn5 hps
  refine byP fun _ q9=>?_
  obtain ⟨hcp, hcs, hcl, hgd, hr, hs, hl, h3, h2, h1, lb⟩:=FF
  refine q9 ?_
  have FF:Lf _ b sa ba lt ws c o3 p2 p1:=⟨hcp, hcs, hcl, hgd, hr, hs, hl, h3, h2, h1, lb⟩
  have ep:∀ {A p}, Ev b m A (.Name (ofString "plans") p) (.ref lp):=Ev.name hpl Kx rfl
  have et:∀ {A p}, Ev b m A (.Name (ofString "_law_take") p) (.ref 699):=by exact Ev.glob (by k_is) Kx rfl
  have glp:∀ p ∈ Hw c σ η ++ X, (p.1:Nat) ≠ lp:=fun p hp=>Ne.symm (L.gh _ (.head _) p hp)
  have L4:=L.heads (hd':=hd4 b.L ba bo o3 p2 p1) fun q hq=>⟨q.2, .tail _ hq⟩
  obtain ⟨j, hj⟩:∃ j, pvs.length = j + 1:=⟨pvs.length - 1, by lia⟩
  have hi0:pvs[0]? = some (pvs[0]'(by lia)):=List.getElem?_eq_getElem _
  have hij:pvs[j]? = some (pvs[j]'(by lia)):=List.getElem?_eq_getElem _
  have eb:∀ {l p}, Ev b m ((ba, bo) :: (lp, LCg.lst pvs) :: (b.L + 1 + 1 + 1, o3) :: (b.L + 1 + 1, p2) :: (b.L + 1, p1) :: l) (.Name (ofString "box") p) (.ref ba):=fun {l p}=>Ev.cell (by rw [hcl]; rfl) (.tail _ (.tail _ (.tail _ (.tail _ (.head _))))) h1 Kx rfl
  refine Ts.setitem (Tv.mono (P:=fun v n'=>v ∈ pvs ∧ ∃ bo2, BoxObj bo2 151 ∧ n' = (ba, bo2) :: (lp, LCg.lst pvs) :: ([(b.L + 1 + 1 + 1, o3), (b.L + 1 + 1, p2), (b.L + 1, p1)] ++ (Hw c σ η ++ X))) (Tv.re (k:=(ba, bo) :: (lp, LCg.lst pvs) :: ([(b.L + 1 + 1 + 1, o3), (b.L + 1 + 1, p2), (b.L + 1, p1)] ++ (Hw c σ η ++ X))) (all_more (.tail _ (.head _)) (all_more (.head _) fun p hp=>.tail _ (.tail _ hp))) (Tv.ifexp (Tv.cmp1 (Tv.take et eb Evi.const hbox (by decide) (by decide) (by decide) (all_more (Ne.symm (hlp _ (.head _))) (FF.off L4.gh)) hr (by decide) rfl rfl rfl fun bo2 d2 t2 d20 d21 hb2=>Tv.cint fun t0 Q E h₁ tk F N ret=>eq_i rfl (ret _ _ _ _ F N (Tv.tbool ⟨fun _=>Ev.item ep (.tail _ (.head _)) hi0 ⟨by decide, by decide⟩ (fun _=>rfl) _ ⟨List.getElem_mem _, bo2, hb2, rfl⟩, fun _=>Tv.sub (ep _ (Tv.neg1 fun t Q E h₁ tk F N ret=>neg_at (k:=j) N (.tail _ (.head _)) hj hij (ret _ _ _ _ F N ⟨List.getElem_mem _, bo2, hb2, rfl⟩) rfl))⟩))) rfl))) fun v n' z9=>?_) rfl
  refine byP fun _ q9=>?_
  obtain ⟨hv, bo2, hb2, e⟩:=z9
  refine q9 ?_
  subst e
  refine ep _ (Tv.neg1 fun t=>Tv.re (k:=(lp, LCg.lst pvs) :: (hd4 b.L ba bo2 o3 p2 p1 ++ (Hw c σ η ++ X))) (all_more (.tail _ (.head _)) (all_more (.head _) fun p hp=>.tail _ (.tail _ hp))) (Tv.setNeg hj (all_more (hlp (ba, bo) (.head _)) (all_app (fun p hp=>hlp p (.tail _ hp)) glp)) ?_))
  have L5:=(L.heads (hd':=hd4 b.L ba bo2 o3 p2 p1) (all_more ⟨bo, .tail _ (.head _)⟩ fun q hq=>⟨q.2, .tail _ (.tail _ hq)⟩)).lay (t:=[(lp, listOf (pvs.set j v).toArray pvs.length)]) (fun q hq p hp=>by rw [List.mem_singleton.mp hp]; exact glp q (iL hq)) (fun q hq p hp=>by
    rw [List.mem_singleton.mp hp]
    rcases List.mem_cons.mp hq with e | hq
    · rw [e]; exact hlp (ba, bo) (.head _)
    · exact hlp q (.tail _ hq))
  refine Ts.re (k:=hd4 b.L ba bo2 o3 p2 p1 ++ (Hw c σ η ++ (X ++ [(lp, listOf (pvs.set j v).toArray pvs.length)]))) (all_app (fun p hp=>.tail _ (iL hp)) (all_app (fun p hp=>.tail _ (iR (iL hp))) (all_app (fun p hp=>.tail _ (iR (iR hp))) (all_one (.head _))))) ?_
  refine' (?hh:LawGoal4 _ _) w mx b sa ba lt lp ws (pvs.set j v) pvs.length bo2 o3 p2 p1 c da th δ σ η _ m FF L5 (iR (.head _)) hb2 hsc hpl (by rw [List.length_set]; exact hn2) (by rw [List.length_set]; exact hn5) fun y hy=>(((List.mem_or_eq_of_mem_set hy).elim (hps y) fun e=>e ▸ hps v hv).mono fun _ h=>iL h)
  exact hP9.h
theorem Vn.mono {th:Th} {t Y:Led} {r:Value} {p:Pl} {lo lo' hi hi':Int} (h:Vn th t r p lo hi) (s:∀ q ∈ t, q ∈ Y) (h1:lo' ≤ lo) (h2:hi ≤ hi'):Vn th Y r p lo' hi' :=
  ⟨h.1.mono s, fun f=>let ⟨k, a, b, c⟩:=h.2 f; ⟨k, a.mono s, by lia, by lia⟩⟩
noncomputable def Itm (th:Th) (X Y:Led) (qs:List Value) (j:Nat) (v:Value) (lo hi:Int):Prop:=∃ pv p, qs[j]? = some pv ∧ DatIn X pv p.dat ∧ p.Ok ∧ p.dep ≤ 2 ∧ Vn th Y v p lo hi
theorem Itm.mono {th:Th} {X Y Z:Led} {qs:List Value} {j:Nat} {v:Value} {lo hi hi':Int} (h:Itm th X Y qs j v lo hi) (s:∀ q ∈ Y, q ∈ Z) (h2:hi ≤ hi'):Itm th X Z qs j v lo hi' :=
  let ⟨pv, p, a, b, c, d, e⟩:=h; ⟨pv, p, a, b, c, d, e.mono s (Int.le_refl _) h2⟩
theorem vn_idn {th:Th} {X l:Led} {v:Value} {p:Pl} {lo hi:Int} (h:Vn th X v p lo hi) (T:ThLed th l) (s:∀ q ∈ X, q ∈ l):∃ i, Idn l v i ∧ (∀ pv, p = .plain pv → i = .inl pv) ∧ (∀ n, p = .thing n → i = .inr (th.num n)) ∧ (p.fresh = true → ∃ k, i = .inr k ∧ lo < k ∧ k ≤ hi):=by
  obtain ⟨hv, hf⟩:=h
  cases hv with
  | plain h=>exact ⟨_, .plain h, fun _ e=>(by cases e; rfl), fun _ e=>(nomatch e), fun e=>(nomatch e)⟩
  | thing h1 h2 =>
    rename_i n
    have key:∃ a C, th.at n = a ∧ C ∈ ([40, 62, 82, 120, 140, 228]:List Nat) ∧ ∃ es t, Ins l a C es ∧ has "number" es (.int (th.num n) t):=by
      rcases (by lia:n = 0 ∨ n = 1 ∨ n = 2) with rfl | rfl | rfl
      · exact ⟨_, 40, rfl, by decide, T.i0⟩
      · exact ⟨_, 120, rfl, by decide, T.i1⟩
      · exact ⟨_, 228, rfl, by decide, T.i2⟩
    refine byP fun _ q9=>?_
    obtain ⟨a, C, e, hC, es, t, ⟨d, k, m1, m2⟩, h5⟩:=key
    refine q9 ?_
    rw [e]
    exact ⟨_, .thing hC m1 m2 h5, fun _ e=>(nomatch e), fun _ e=>(by cases e; rfl), fun e=>(nomatch e)⟩
  | text h1 h2=>obtain ⟨k, a, b⟩:=hf rfl; exact ⟨_, a.mono s, fun _ e=>(nomatch e), fun _ e=>(nomatch e), fun _=>⟨k, rfl, b⟩⟩
  | l0 h1 h2 h3=>obtain ⟨k, a, b⟩:=hf rfl; exact ⟨_, a.mono s, fun _ e=>(nomatch e), fun _ e=>(nomatch e), fun _=>⟨k, rfl, b⟩⟩
  | l1 h1 h2 h3 h4=>obtain ⟨k, a, b⟩:=hf rfl; exact ⟨_, a.mono s, fun _ e=>(nomatch e), fun _ e=>(nomatch e), fun _=>⟨k, rfl, b⟩⟩
  | l2 h1 h2 h3 h4 h5=>obtain ⟨k, a, b⟩:=hf rfl; exact ⟨_, a.mono s, fun _ e=>(nomatch e), fun _ e=>(nomatch e), fun _=>⟨k, rfl, b⟩⟩
  | range h1 h2 h3 h4 h5=>obtain ⟨k, a, b⟩:=hf rfl; exact ⟨_, a.mono s, fun _ e=>(nomatch e), fun _ e=>(nomatch e), fun _=>⟨k, rfl, b⟩⟩
theorem idn_new {th:Th} {X Y l:Led} {v u:Value} {p q:Pl} {lo mid hi:Int} (hA:th.Apart) (hp:p.Ok) (hq:q.Ok) (hn:∀ i, 0 ≤ i → i < 3 → th.num i ≤ lo) (hlm:lo ≤ mid) (h1:Vn th X v p lo mid) (h2:Vn th Y u q mid hi) (T:ThLed th l) (s:∀ q ∈ X, q ∈ l) (s2:∀ q ∈ Y, q ∈ l) :
    ∃ i j, Idn l v i ∧ Idn l u j ∧ (i = j ↔ p.fresh = false ∧ p = q):=by
  refine byP fun _ q9=>?_
  obtain ⟨i, a1, a2, a3, a4⟩:=vn_idn h1 T s
  obtain ⟨j, b1, b2, b3, b4⟩:=vn_idn h2 T s2
  refine q9 ?_
  refine ⟨i, j, a1, b1, ?_⟩
  cases hpf:p.fresh with
  | true =>
    refine byP fun _ q9=>?_
    obtain ⟨k, rfl, k1, k2⟩:=a4 hpf
    refine q9 ?_
    refine ⟨fun e=>?_, fun e=>by cases e.1⟩
    exfalso
    cases hqf:q.fresh with
    | true =>
      refine byP fun _ q9=>?_
      obtain ⟨k', e', k3, k4⟩:=b4 hqf
      refine q9 ?_
      rw [e'] at e
      cases e
      lia
    | false =>
      cases q with
      | plain pv=>rw [b2 _ rfl] at e; cases e
      | thing n =>
        rw [b3 _ rfl] at e
        cases e
        have:=hn n hq.1 hq.2
        lia
      | _=>cases hqf
  | false =>
    refine ⟨fun e=>⟨rfl, ?_⟩, fun e=>?_⟩
    · cases p with
      | plain pv =>
        rw [a2 _ rfl] at e
        cases hqf:q.fresh with
        | true=>obtain ⟨k', e', k3, k4⟩:=b4 hqf; rw [e'] at e; cases e
        | false =>
          cases q with
          | plain pu=>rw [b2 _ rfl] at e; cases e; rfl
          | thing n=>rw [b3 _ rfl] at e; cases e
          | _=>cases hqf
      | thing n =>
        rw [a3 _ rfl] at e
        cases hqf:q.fresh with
        | true =>
          refine byP fun _ q9=>?_
          obtain ⟨k', e', k3, k4⟩:=b4 hqf
          refine q9 ?_
          rw [e'] at e
          cases e
          have:=hn n hp.1 hp.2
          lia
        | false =>
          cases q with
          | plain pu=>rw [b2 _ rfl] at e; cases e
          | thing n' =>
            rw [b3 _ rfl] at e
            have e2:th.num n = th.num n':=Sum.inr.inj e
            rw [Th.num_inj hA hp hq e2]
          | _=>cases hqf
      | _=>cases hpf
    · obtain ⟨_, rfl⟩:=e
      cases p with
      | plain pv=>rw [a2 _ rfl, b2 _ rfl]
      | thing n=>rw [a3 _ rfl, b3 _ rfl]
      | _=>cases hpf
section
variable {w mx} {b:Amb w mx} {m:Fm} {n:Led} {c:Wc} {da:List Addr} {th:Th} {δ:Int → Addr} {lt:Addr} {hd pre:Led} {σ:Ws} {η:Hs} {X:Led}
theorem Tv.lw {f:Addr} {d dn:Nat} {args:List Value} {P':Value → Ws → Hs → Led → Prop} {P:Value → Led → Prop} (C:HW w mx c da σ η X f d args P') (L:Lw w c da th δ lt hd σ η X) (gp:Gt pre (Hw c σ η ++ X)) (hr:b.Room dn)
    (h:∀ r σ' η' tl, Lw w c da th δ lt hd σ' η' (X ++ tl) → Gt pre (Hw c σ' η' ++ (X ++ tl)) → WX σ σ' → HExt η η' → P' r σ' η' tl → P r (pre ++ (hd ++ (Hw c σ' η' ++ (X ++ tl))))) (hd':d < dn):Tv b m (pre ++ (hd ++ (Hw c σ η ++ X))) (call (.ref f) args) P:=by
  rw [← List.append_assoc]
  refine Tv.hy (T:=[]) (X:=X) (by rw [List.append_nil]; exact C) (Hy.start L.hi (fun _ h=>h) L.hi.hw) (Gt.appl gp L.gh) hr (fun r σ' η' tl Y hE hW g hP=>?_) hd'
  rw [List.append_assoc]
  exact h r σ' η' tl (L.step Y.hi hE hW.num fun q hq=>g q (iR hq)) (fun q hq=>g q (iL hq)) hW hE hP
end
noncomputable def LawGoal5 (SC:Scope) (body:List Stmt):Prop:=∀ (w:World) (mx:Mx) (b:Amb w mx) (sa ba lt lp li:Addr) (ws pvs ivs:List Value) (nq:Nat) (bo o3 p2 p1:Obj) (c:Wc) (da:List Addr) (th:Th) (δ:Int → Addr) (σ0 σ:Ws) (η:Hs) (X0 X:Led) (m:Fm),
  Lf SC b sa ba lt ws c o3 p2 p1 → Lw w c da th δ lt (hd4 b.L ba bo o3 p2 p1) σ η X → (lp, listOf pvs.toArray nq) ∈ X0 → (∀ p ∈ X0, p ∈ X) → (li, LCg.lst ivs) ∈ X → BoxObj bo 151 → m.lookup (ofString "script") = some (.ref sa) → m.lookup (ofString "plans") = some (.ref lp) → m.lookup (ofString "items") = some (.ref li) → 2 ≤ pvs.length → pvs.length ≤ 5 → (∀ y ∈ pvs, IsPl X0 y) →
  ivs.length = pvs.length → (∀ j v, ivs[j]? = some v → Itm th X0 X pvs j v σ0.num σ.num) → (∀ i, 0 ≤ i → i < 3 → th.num i ≤ σ0.num) → σ0.num ≤ σ.num → Ts b m (hd4 b.L ba bo o3 p2 p1 ++ (Hw c σ η ++ X)) body (fun v _=>v = .bool true) fun _ _=>False
noncomputable def stF:(P:Prop) ×' (Hold P → stE.1):=by
  refine ⟨?P, ?H⟩
  case H =>
  intro hP9
  unfold stE LawGoal4
  dsimp only
  intro w mx b sa ba lt lp ws pvs nq bo o3 p2 p1 c da th δ σ η X m FF L mlp hbox hsc hpl hn2 hn5 hps
  refine byP fun _ q9=>?_
  obtain ⟨hcp, hcs, hcl, hgd, hr, hs, hl, h3, h2, h1, lb⟩:=FF
  refine q9 ?_
  have FF:Lf _ b sa ba lt ws c o3 p2 p1:=⟨hcp, hcs, hcl, hgd, hr, hs, hl, h3, h2, h1, lb⟩
  refine Ts.comp (cl:=[(ofString "world", b.L + 1 + 1), (ofString "things", b.L + 1 + 1 + 1)]) (ax:=lp) (its:=pvs.toArray) (k:=nq) (fun i ys n'=>∃ σ' η' X', (∀ p ∈ hd4 b.L ba bo o3 p2 p1 ++ (Hw c σ' η' ++ X'), p ∈ n') ∧ Lw w c da th δ lt (hd4 b.L ba bo o3 p2 p1) σ' η' X' ∧ (∀ p ∈ X, p ∈ X') ∧ σ.num ≤ σ'.num ∧ ys.length = i ∧ ∀ j v, ys[j]? = some v → Itm th X X' pvs j v σ.num σ'.num) hcp (Ev.name hpl Kx rfl) (iR (iR mlp)) (by rw [List.size_toArray, sizeLine_eq]; lia) ?clos ?cell rfl ?names rfl (fun v=>rfl) ⟨σ, η, X, fun _ h=>h, L, fun _ h=>h, Int.le_refl _, rfl, fun j v e=>nomatch e⟩ (fun i ys n' z9=>by refine byP fun _ q9=>?_; obtain ⟨σ', η', X', sn, L', sX, _⟩:=z9; exact q9 (sn _ (iR (iR (sX _ mlp))))) ?step ?fin Kx ?hsw
  case clos =>
    show closureFor _ (envX b.cn b.cs b.L b.a b.ccd b.cl) = _
    rw [hcs, hcl]
    rfl
  case cell=>decide
  case names=>decide
  case hsw =>
    show swapsWith _ _ _ (envX b.cn b.cs b.L b.a b.ccd b.cl) = _
    rw [hcs, hcl]
    rfl
  case step =>
    intro i ys n' v heads C oC m₂ hv z9 hC hN hx off
    refine byP fun _ q9=>?_
    obtain ⟨σ', η', X', sn, L', sX, hnm, hlen, hys⟩:=z9
    refine q9 ?_
    have hvq:pvs[i]? = some v:=by simpa using hv
    refine byP fun _ q9=>?_
    obtain ⟨p, hok, hdep, hd⟩:=hps v (List.mem_of_getElem? hvq)
    refine q9 ?_
    refine Tv.re (k:=heads ++ (hd4 b.L ba bo o3 p2 p1 ++ (Hw c σ' η' ++ X'))) (fun p hp=>(List.mem_append.mp hp).elim (iL) fun h=>iR (sn p h)) ?_
    have gp:Gt heads (Hw c σ' η' ++ X'):=fun q hq p hp=>Ne.symm (off q hq p (sn p (iR hp)))
    refine Tv.callee (Ev.cglob (by k_is) (Kc.of hcs rfl rfl) rfl _ (Tv.with1 (by k_is) (Evs.cons (Ev.ccell rfl (iR (.tail _ (.tail _ (.head _)))) h2 (Kc.of hcs rfl rfl) rfl) (Evs.cons (Ev.own (iL hC) hN hx (Kc.of hcs rfl rfl) rfl) (Evs.cons (Ev.ccell rfl (iR (.tail _ (.head _))) h3 (Kc.of hcs rfl rfl) rfl) Evs.nil rfl) rfl) rfl _ _ (Tv.lw (made_H L'.hi (hd.mono sX) L'.ml hok hdep) L' gp hr (fun r σ2 η2 tl L2 gp2 hW hE ⟨_, hVn⟩=>?_) (by decide))) rfl rfl)) rfl
    have hw:=hW.num
    refine ⟨hd4 b.L ba bo o3 p2 p1 ++ (Hw c σ2 η2 ++ (X' ++ tl)), fun _ h=>h, fun q hq=>all_app (fun p hp=>off q hq p (sn p (iL hp))) fun p hp=>Ne.symm (gp2 q hq p hp), σ2, η2, X' ++ tl, fun _ h=>h, L2, fun p hp=>iL (sX p hp), Int.le_trans hnm hw, by rw [List.length_append, hlen]; rfl, fun j y hy=>?_⟩
    rw [List.getElem?_append] at hy
    split at hy
    · exact (hys j y hy).mono (fun _ h=>iL h) hw
    · rename_i hj9
      have ej:j = i:=by
        false_or_by_contra
        rw [List.getElem?_eq_none (by simp; lia)] at hy
        cases hy
      subst ej
      rw [hlen, Nat.sub_self] at hy
      cases hy
      exact ⟨v, p, hvq, hd, hok, hdep, hVn.mono (fun _ h=>iR h) hnm (Int.le_refl _)⟩
  case fin =>
    intro D ys n' z9 o1 m' hm'
    refine byP fun _ q9=>?_
    obtain ⟨σ', η', X', sn, L', sX, hnm, hlen, hys⟩:=z9
    refine q9 ?_
    rw [List.size_toArray] at hlen
    have o2:∀ p ∈ hd4 b.L ba bo o3 p2 p1 ++ (Hw c σ' η' ++ X'), (p.1:Nat) ≠ D:=fun p hp=>o1 p (sn p hp)
    have L2:=L'.lay (t:=[(D, LCg.lst ys)]) (fun q hq p hp=>by rw [List.mem_singleton.mp hp]; exact o2 q (iR (iL hq))) (fun q hq p hp=>by rw [List.mem_singleton.mp hp]; exact o2 q (iL hq))
    refine Ts.re (k:=hd4 b.L ba bo o3 p2 p1 ++ (Hw c σ' η' ++ (X' ++ [(D, LCg.lst ys)]))) (all_app (fun p hp=>.tail _ (sn p (iL hp))) (all_app (fun p hp=>.tail _ (sn p (iR (iL hp)))) (all_app (fun p hp=>.tail _ (sn p (iR (iR hp)))) (all_one (.head _))))) ?_
    refine' (?hh:LawGoal5 _ _) w mx b sa ba lt lp D ws pvs ys nq bo o3 p2 p1 c da th δ σ σ' η' X _ m' FF L2 mlp (fun p hp=>iL (sX p hp)) (iR (.head _)) hbox (by rw [hm']; exact hsc) (by rw [hm']; exact hpl) (by rw [hm']; rfl) hn2 hn5 hps hlen (fun j v e=>(hys j v e).mono (fun _ h=>iL h) (Int.le_refl _)) L.nm hnm
    exact hP9.h
section
variable {w mx} {b:Amb w mx} {m:Fm} {n:Led}
theorem len_bt {w:World}:nsIn (K9 w.params) mainGlobals (ofString "len") = some none:=by k_is
theorem repr_bt {w:World}:nsIn (K9 w.params) mainGlobals (ofString "repr") = some none:=by k_is
theorem Tv.lenL {la:Addr} {vs:List Value} {q:Nat} {P:Value → Led → Prop} (hm:(la, PySem.W.listOf vs.toArray q) ∈ n) (hz:vs.length ≤ 1000) (h:∀ t, P (.int (vs.length:Int) t) n):Tv b m n (call (.builtin "len") [.ref la]) P:=fun Q E h₁ tk F N ret =>
  call_len_list (News.isList N hm) (by rw [List.size_toArray]; lia) (by rw [List.size_toArray]; exact ret _ _ _ _ F N (h _))
theorem Tv.rlen {x:Str} {lp:Addr} {vs:List Value} {q:Nat} {P:Value → Led → Prop} {pa pb pc pd pe:Pos} (hx:Ev b m n (.Name x pc) (.ref lp)) (hm:(lp, PySem.W.listOf vs.toArray q) ∈ n) (hz:vs.length ≤ 1000) (kr:Kd b (ofString "range") .globalImplicit) (kl:Kd b (ofString "len") .globalImplicit)
    (h:∀ D t u z, (∀ p ∈ n, p.1 < D) → P (.ref D) ((D, rng (vs.length:Nat) t u z) :: n)):Tv b m n (eval (.Call (.Name (ofString "range") pa) [.Call (.Name (ofString "len") pb) [.Name x pc] [] pd] [] pe) b.env) P :=
  Tv.callee (Tv.blt range_bt (by boot_fast) (by decide) (Tv.witht (Tv.args1 (Tv.callee (Tv.blt len_bt (by boot_fast) (by decide) (Tv.withb (Tv.args1 (hx _ (Tv.args0 (Tv.lenL hm hz fun t=>Tv.args0 (Tv.range fun D u z hD=>h D u t z hD)))) rfl) rfl rfl) kl rfl) rfl) rfl) rfl rfl) kr rfl) rfl
theorem Ev.reprs {e1 e2:Expr} {v1 v2:Value} {p q:Pl} {p1 p2 p3 p4 p5:Pos} (hg:b.gd = some []) (hr:b.Room 10) (h1:Ev b m n e1 v1) (h2:Ev b m n e2 v2) (d1:DatIn n v1 p.dat) (d2:DatIn n v2 q.dat) (o1:p.Ok) (o2:q.Ok) (z1:p.dep ≤ 2) (z2:q.dep ≤ 2) {x:Bool} (hx:x = true ↔ p = q) (hk:Kd b (ofString "repr") .globalImplicit) (hs1:starEach [e1] b.env = (false, eval e1 b.env) :: starEach [] b.env) (hs2:starEach [e2] b.env = (false, eval e2 b.env) :: starEach [] b.env) :
    Ev b m n (.Compare (.Call (.Name (ofString "repr") p1) [e1] [] p2) [.Eq] [.Call (.Name (ofString "repr") p3) [e2] [] p4] p5) (.bool x):=fun P h=>by
  have hu:b.A.units + 20 < cLine:=by have:=(hr 9 (by decide)).2; show b.un + 20 < cLine; lia
  refine Tv.cmpv (Tv.callee (Tv.blt repr_bt (by boot_fast) (by decide) (Tv.withb (Tv.args1 (h1 _ (Tv.args0 fun Q E h₁ tk F N ret=>repr_pl F N d1 o1 z1 hg hu fun h' u tk' F' N'=>ret _ _ _ _ F' N' ?_)) hs1) hs1 rfl) hk rfl) rfl) rfl
  refine Tv.callee (Tv.blt repr_bt (by boot_fast) (by decide) (Tv.withb (Tv.args1 (h2 _ (Tv.args0 fun Q E h₁ tk F N ret=>repr_pl F N d2 o2 z2 hg hu fun h' u' tk' F' N'=>ret _ _ _ _ F' N' fun Q E h₁ tk F N ret=>eq_str (ret _ _ _ _ F N ?_))) hs2) hs2 rfl) hk rfl) rfl
  have e:((kqdP p.dat).shown == (kqdP q.dat).shown) = x:=by
    rw [Bool.eq_iff_iff, beq_iff_eq, hx]
    exact Rp_inj o1 o2
  rw [e]
  exact h
theorem Tv.in2 {e0:Expr} {x A B:Str} {t:Tok} {q1 q2 q3:Nat} {p1 p2 p3 p4:Pos} {P:Value → Led → Prop} (h0:Ev b m n e0 (.str x t)) (h:∀ D o, P (.bool ([A, B].any (· == x))) ((D, o) :: n)):Tv b m n (eval (.Compare e0 [.In] [.Tuple [.Constant (.str A) q1 p1, .Constant (.str B) q2 p2] q3 p3] p4) b.env) P :=
  Tv.cmpv (h0 _ (Tv.tup (Tv.args1 (Tv.cstr fun t1=>Tv.args1 (Tv.cstr fun t2=>Tv.args0 (Tv.tuple (fun D hD Q E h₁ tk F N ret=>in_tuple_strs (News.isTup N (.head _)) (.cons _ _ (.cons _ _ .nil)) (ret _ _ _ _ F N (h _ _))) (Nat.le_of_ble_eq_true rfl))) rfl) rfl))) rfl
end
noncomputable def Pl.kind:Pl → Str
  | .plain _=>ofString "plain" | .text _=>ofString "text" | .thing _=>ofString "thing" | .range _ _ _=>ofString "range" | _=>ofString "list"
theorem Pl.kind_dat:∀ p:Pl, ∃ ds, p.dat = .list (.str p.kind :: ds)
  | .plain _=>⟨_, rfl⟩ | .text _=>⟨_, rfl⟩ | .thing _=>⟨_, rfl⟩ | .range _ _ _=>⟨_, rfl⟩ | .l0=>⟨_, rfl⟩ | .l1 _=>⟨_, rfl⟩ | .l2 _ _=>⟨_, rfl⟩
theorem Pl.kind_fresh:∀ p:Pl, [ofString "plain", ofString "thing"].any (· == p.kind) = !p.fresh:=by
  have a:[ofString "plain", ofString "thing"].any (· == ofString "plain") = true:=by decide +kernel
  have b:[ofString "plain", ofString "thing"].any (· == ofString "thing") = true:=by decide +kernel
  have c:[ofString "plain", ofString "thing"].any (· == ofString "text") = false:=by decide +kernel
  have d:[ofString "plain", ofString "thing"].any (· == ofString "list") = false:=by decide +kernel
  have e:[ofString "plain", ofString "thing"].any (· == ofString "range") = false:=by decide +kernel
  intro p
  cases p with
  | plain=>exact a
  | text=>exact c
  | thing=>exact b
  | range=>exact e
  | l0=>exact d
  | l1=>exact d
  | l2=>exact d
theorem plan_kind {l:Led} {v:Value} {p:Pl} (h:DatIn l v p.dat):∃ a, ∃ vs:List Value, ∃ n t, v = .ref a ∧ (a, listOf vs.toArray n) ∈ l ∧ vs[0]? = some (.str p.kind t):=by
  obtain ⟨ds, e⟩:=p.kind_dat
  rw [e] at h
  refine byP fun _ q9=>?_
  obtain ⟨a, vs, n, rfl, hm, hA⟩:=dat_list h
  obtain ⟨u, r, rfl, hu, _⟩:=all_cons hA
  obtain ⟨t, rfl⟩:=dat_str hu
  refine q9 ?_
  exact ⟨a, _, n, t, rfl, hm, rfl⟩
structure Two (th:Th) (X:Led) (v u:Value) (p q:Pl) (kj:Prop):Prop where
  hv:VIn th X v p
  hu:VIn th X u q
  id:∀ l, ThLed th l → (∀ r ∈ X, r ∈ l) → ∃ i i', Idn l v i ∧ Idn l u i' ∧ (i = i' ↔ (kj ∨ (p.fresh = false ∧ p = q)))
theorem Two.mono {th:Th} {X Y:Led} {v u:Value} {p q:Pl} {kj:Prop} (h:Two th X v u p q kj) (s:∀ r ∈ X, r ∈ Y):Two th Y v u p q kj:=⟨h.hv.mono s, h.hu.mono s, fun l t s2=>h.id l t fun r hr=>s2 r (s r hr)⟩
theorem Two.same {th:Th} {X:Led} {v:Value} {p:Pl} {kj:Prop} {lo hi:Int} (h:Vn th X v p lo hi) (hk:kj):Two th X v v p p kj:=⟨h.1, h.1, fun l t s=>(vn_idn h t s).elim fun i h=>⟨i, i, h.1, h.1, iff_of_true rfl (.inl hk)⟩⟩
theorem Two.new {th:Th} {X:Led} {v u:Value} {p q:Pl} {kj:Prop} {lo mid hi:Int} (hA:th.Apart) (hp:p.Ok) (hq:q.Ok) (hn:∀ i, 0 ≤ i → i < 3 → th.num i ≤ lo) (hlm:lo ≤ mid) (h1:Vn th X v p lo mid) (h2:Vn th X u q mid hi) (hk:¬kj):Two th X v u p q kj:=⟨h1.1, h2.1, fun l t s=>by
  refine byP fun _ q9=>?_
  obtain ⟨i, i', a, b, e⟩:=idn_new hA hp hq hn hlm h1 h2 t s s
  refine q9 ?_
  exact ⟨i, i', a, b, e.trans ⟨.inr, fun h=>h.elim (fun h=>absurd h hk) fun h=>h⟩⟩⟩
noncomputable def LawGoal6 (SC:Scope) (body:List Stmt):Prop:=∀ (w:World) (mx:Mx) (b:Amb w mx) (sa ba lt lp:Addr) (ws pvs:List Value) (nq:Nat) (bo o3 p2 p1:Obj) (c:Wc) (da:List Addr) (th:Th) (δ:Int → Addr) (σ:Ws) (η:Hs) (X:Led) (m:Fm),
  Lf SC b sa ba lt ws c o3 p2 p1 → Lw w c da th δ lt (hd4 b.L ba bo o3 p2 p1) σ η X → (lp, listOf pvs.toArray nq) ∈ X → BoxObj bo 151 → m.lookup (ofString "script") = some (.ref sa) → m.lookup (ofString "plans") = some (.ref lp) → 2 ≤ pvs.length → pvs.length ≤ 5 → (∀ y ∈ pvs, IsPl X y) →
  Ts b m (hd4 b.L ba bo o3 p2 p1 ++ (Hw c σ η ++ X)) body (fun v _=>v = .bool true) fun _ _=>False
structure Lj (w:World) (c:Wc) (da:List Addr) (th:Th) (δ:Int → Addr) (lt:Addr) (hd:Led) (σ:Ws) (X:Led) (sa lp li:Addr) (m:Fm) (n:Led):Prop where
  st:∃ σ' η' X', (∀ p ∈ hd ++ (Hw c σ' η' ++ X'), p ∈ n) ∧ Lw w c da th δ lt hd σ' η' X' ∧ (∀ p ∈ X, p ∈ X') ∧ σ.num ≤ σ'.num
  s:m.lookup (ofString "script") = some (.ref sa)
  p:m.lookup (ofString "plans") = some (.ref lp)
  i:m.lookup (ofString "items") = some (.ref li)
noncomputable def stG:(P:Prop) ×' (Hold P → stF.1):=by
  refine ⟨?P, ?H⟩
  case H =>
  intro hP9
  unfold stF LawGoal5
  dsimp only
  intro w mx b sa ba lt lp li ws pvs ivs nq bo o3 p2 p1 c da th δ σ0 σ η X0 X m FF L mlp sX0 mli hbox hsc hpl hit hn2 hn5 hps hiv hIt hth hlm
  refine byP fun _ q9=>?_
  obtain ⟨hcp, hcs, hcl, hgd, hr, hs, hl, h3, h2, h1, lb⟩:=FF
  refine q9 ?_
  have FF:Lf _ b sa ba lt ws c o3 p2 p1:=⟨hcp, hcs, hcl, hgd, hr, hs, hl, h3, h2, h1, lb⟩
  have kr:Kd b (ofString "range") .globalImplicit:=Kx
  have kl:Kd b (ofString "len") .globalImplicit:=Kx
  have kpl:Kd b (ofString "plans") .local:=Kx
  refine Ts.forR hcp Kx (Tv.rlen (Ev.name hpl kpl rfl) (iR (iR (sX0 _ mlp))) (by lia) kr kl fun D t u z hD=>⟨D, pvs.length, t, u, z, fun _=>Lj w c da th δ lt (hd4 b.L ba bo o3 p2 p1) σ X sa lp li, rfl, iH, by lia, ⟨⟨σ, η, X, fun p hp=>iC hp, L, fun _ h=>h, Int.le_refl _⟩, hsc, hpl, hit⟩, ?step, ?fin⟩) (fun _=>rfl)
  case fin =>
    intro m2 n2 z9
    refine byP fun _ q9=>?_
    obtain ⟨⟨σ2, η2, X2, sn, L2, sX, hw⟩, js, jp, ji⟩:=z9
    refine q9 ?_
    refine Ts.rek (hd4 b.L ba bo o3 p2 p1 ++ (Hw c σ2 η2 ++ X2)) (fun p hp=>sn p hp) ?_
    refine' (?hh:LawGoal6 _ _) w mx b sa ba lt lp ws pvs nq bo o3 p2 p1 c da th δ σ2 η2 X2 m2 FF L2 (sX _ (sX0 _ mlp)) hbox js jp hn2 hn5 (fun y hy=>(hps y hy).mono fun p hp=>sX p (sX0 p hp))
    exact hP9.h
  case step =>
    intro k tk m2 n2 heads hk z9 off
    refine byP fun _ q9=>?_
    obtain ⟨⟨σ2, η2, X2, sn, L2, sX, hw⟩, js, jp, ji⟩:=z9
    refine q9 ?_
    refine Ts.forR hcp Kx (Tv.rlen (Ev.name (m:=(ofString "k", .int (k:Int) tk) :: m2) jp kpl rfl) (iR (sn _ (iR (iR (sX _ (sX0 _ mlp)))))) (by lia) kr kl fun D t u z hD=>⟨D, pvs.length, t, u, z, fun _ m' n'=>∃ n1, (∀ p ∈ heads ++ n1, p ∈ n') ∧ (∀ q ∈ heads, ∀ p ∈ n1, (p.1:Nat) ≠ q.1) ∧ Lj w c da th δ lt (hd4 b.L ba bo o3 p2 p1) σ X sa lp li m' n1 ∧ m'.lookup (ofString "k") = some (.int (k:Int) tk), rfl, iH, by lia, ⟨n2, fun p hp=>iC hp, off, ⟨⟨σ2, η2, X2, sn, L2, sX, hw⟩, js, jp, ji⟩, rfl⟩, ?step2, ?fin2⟩) (fun _=>rfl)
    case fin2 =>
      intro m3 n3 z9
      refine byP fun _ q9=>?_
      obtain ⟨n1, s1, o1, j1, _⟩:=z9
      refine q9 ?_
      exact Ts.nil ⟨n1, s1, o1, j1⟩
    case step2 =>
      intro j tj m3 n3 heads2 hj z9 off2
      refine byP fun _ q9=>?_
      obtain ⟨n1, s1, o1, ⟨⟨σ3, η3, X3, sn3, L3, sX3, hw3⟩, js3, jp3, ji3⟩, jk3⟩:=z9
      refine q9 ?_
      have hvk:ivs[k]? = some (ivs[k]'(by lia)):=List.getElem?_eq_getElem _
      have hvj:ivs[j]? = some (ivs[j]'(by lia)):=List.getElem?_eq_getElem _
      refine byP fun _ q9=>?_
      obtain ⟨pk, p, hpk, dk, okp, zp, Vk⟩:=hIt k _ hvk
      refine q9 ?_
      have Hj:=hIt j _ hvj
      generalize ivs[k]'(by lia) = v at hvk Vk
      generalize ivs[j]'(by lia) = v' at hvj Hj
      refine byP fun _ q9=>?_
      obtain ⟨pj, q0, hpj, dj, okq, zq, Vj⟩:=Hj
      obtain ⟨m4, hm4⟩:∃ m4:Fm, m4 = (ofString "j", Value.int (j:Int) tj) :: m3:=⟨_, rfl⟩
      refine q9 ?_
      have ks:m4.lookup (ofString "script") = some (.ref sa):=by rw [hm4]; exact js3
      have kp:m4.lookup (ofString "plans") = some (.ref lp):=by rw [hm4]; exact jp3
      have ki:m4.lookup (ofString "items") = some (.ref li):=by rw [hm4]; exact ji3
      have kk:m4.lookup (ofString "k") = some (.int (k:Int) tk):=by rw [hm4]; exact jk3
      have kj:m4.lookup (ofString "j") = some (.int (j:Int) tj):=by rw [hm4]; rfl
      rw [← hm4]
      clear hm4 js js3 jp jp3 ji ji3 jk3
      have gp:Gt (heads2 ++ heads) (Hw c σ3 η3 ++ X3):=Gt.appl (fun q hq p hp=>Ne.symm (off2 q hq p (s1 p (iR (sn3 p (iR hp)))))) fun q hq p hp=>Ne.symm (o1 q hq p (sn3 p (iR hp)))
      have g4:∀ q ∈ heads2, ∀ p ∈ heads ++ hd4 b.L ba bo o3 p2 p1, (p.1:Nat) ≠ q.1:=fun q hq=>all_app (fun p hp=>off2 q hq p (s1 p (iL hp))) fun p hp=>off2 q hq p (s1 p (iR (sn3 p (iL hp))))
      have g5:∀ q ∈ heads, ∀ p ∈ hd4 b.L ba bo o3 p2 p1, (p.1:Nat) ≠ q.1:=fun q hq p hp=>o1 q hq p (sn3 p (iL hp))
      refine Ts.rek ((heads2 ++ heads) ++ (hd4 b.L ba bo o3 p2 p1 ++ (Hw c σ3 η3 ++ X3))) (fun p hp=>?_) ?_
      · rw [List.append_assoc] at hp
        exact (List.mem_append.mp hp).elim (iL) fun h=>iR (s1 p ((List.mem_append.mp h).elim (iL) fun h=>iR (sn3 p h)))
      clear off off2 s1 o1 sn sn3 L2 sX hw
      have ek:∀ {A pa}, Ev b m4 A (.Name (ofString "k") pa) (.int (k:Int) tk):=Ev.name kk Kx rfl
      have ej:∀ {A pa}, Ev b m4 A (.Name (ofString "j") pa) (.int (j:Int) tj):=Ev.name kj Kx rfl
      have x0:∀ r ∈ X0, r ∈ X3:=fun r hr=>sX3 r (sX0 r hr)
      have hk9:(k:Int) < 2 ^ 63:=by lia
      have hj9:(j:Int) < 2 ^ 63:=by lia
      have inL:∀ {σ':Ws} {η':Hs} {X':Led} {r}, r ∈ X' → r ∈ (heads2 ++ heads) ++ (hd4 b.L ba bo o3 p2 p1 ++ (Hw c σ' η' ++ X')):=fun h=>iR (iR (iR h))
      have ew:∀ {m A pa}, Ev b m ((heads2 ++ heads) ++ (hd4 b.L ba bo o3 p2 p1 ++ A)) (.Name (ofString "world") pa) (.ref c.wa):=fun {m A pa}=>Ev.cell (by rw [hcl]; rfl) (iR (.tail _ (.tail _ (.head _)))) h2 Kx rfl
      have eth:∀ {m A pa}, Ev b m ((heads2 ++ heads) ++ (hd4 b.L ba bo o3 p2 p1 ++ A)) (.Name (ofString "things") pa) (.ref lt):=fun {m A pa}=>Ev.cell (by rw [hcl]; rfl) (iR (.tail _ (.head _))) h3 Kx rfl
      have emd:∀ {m A pa}, Ev b m A (.Name (ofString "_law_made") pa) (.ref 709):=by exact Ev.glob (by k_is) Kx rfl
      have epr:∀ {m A pa}, Ev b m A (.Name (ofString "_law_pair_right") pa) (.ref 723):=by exact Ev.glob (by k_is) Kx rfl
      have esm:∀ {m A pa}, Ev b m A (.Name (ofString "same") pa) (.ref 244):=by exact Ev.glob (by k_is) Kx rfl
      have eos:∀ {m A pa}, Ev b m A (.Name (ofString "object_same") pa) (.ref 338):=by exact Ev.glob (by k_is) Kx rfl
      have krp:Kd b (ofString "repr") .globalImplicit:=Kx
      have kit:Kd b (ofString "items") .local:=Kx
      refine Ts.assign rfl (Tv.mono (P:=fun u n'=>∃ σ4 η4 X4 q, n' = (heads2 ++ heads) ++ (hd4 b.L ba bo o3 p2 p1 ++ (Hw c σ4 η4 ++ X4)) ∧ Lw w c da th δ lt (hd4 b.L ba bo o3 p2 p1) σ4 η4 X4 ∧ Gt (heads2 ++ heads) (Hw c σ4 η4 ++ X4) ∧ (∀ r ∈ X3, r ∈ X4) ∧ σ3.num ≤ σ4.num ∧ DatIn X0 pj q.dat ∧ q.Ok ∧ q.dep ≤ 2 ∧ Two th X4 v u p q (k = j)) (Tv.ifexp (Te.cmp ek ej (fun P h Q E h₁ t F N ret=>eq_i rfl (ret _ _ _ _ F N (h 0))) rfl _ ⟨fun e=>?eqc, fun e=>?nec⟩)) fun u n' hu=>?_) Kx rfl
      case eqc =>
        have ekj:k = j:=by have:=of_decide_eq_true e; lia
        subst ekj
        have ev:v' = v:=Option.some.inj (hvj.symm.trans hvk)
        have ep:pj = pk:=Option.some.inj (hpj.symm.trans hpk)
        subst ev
        subst ep
        exact Ev.itemE (Ev.name ki kit rfl) ej (inL (sX3 _ mli)) hvj ⟨Int.natCast_nonneg _, hj9⟩ rfl _ ⟨σ3, η3, X3, p, rfl, L3, gp, fun _ h=>h, Int.le_refl _, dk, okp, zp, Two.same (Vk.mono sX3 (Int.le_refl _) (Int.le_refl _)) rfl⟩
      case nec =>
        have ekj:¬k = j:=by have:=of_decide_eq_false e; lia
        exact Tv.gcall emd (by k_is) (Evs.cons ew (Evs.cons (Ev.itemE (Ev.name kp kpl rfl) ej (inL (x0 _ mlp)) hpj ⟨Int.natCast_nonneg _, hj9⟩ rfl) (Evs.cons eth Evs.nil rfl) rfl) rfl) (Tv.lw (made_H L3.hi (dj.mono x0) L3.ml okq zq) L3 gp hr (fun r σ4 η4 tl L4 g4' hW hE ⟨_, hV⟩=>⟨σ4, η4, X3 ++ tl, q0, rfl, L4, g4', fun _ h=>iL h, hW.num, dj, okq, zq, Two.new L3.ht.apart okp okq hth (Int.le_trans hlm hw3) (Vk.mono (fun r hr=>iL (sX3 r hr)) (Int.le_refl _) hw3) (hV.mono (fun _ h=>iR h) (Int.le_refl _) (Int.le_refl _)) ekj⟩) (by decide)) rfl rfl
      refine byP fun _ q9=>?_
      obtain ⟨σ4, η4, X4, q, e4, L4, g4', s4, hw4, dq, oq, zq', tw⟩:=hu
      refine q9 ?_
      subst e4
      intro m5 hm5
      have ks5:m5.lookup (ofString "script") = some (.ref sa):=by rw [hm5]; exact ks
      have kp5:m5.lookup (ofString "plans") = some (.ref lp):=by rw [hm5]; exact kp
      have ki5:m5.lookup (ofString "items") = some (.ref li):=by rw [hm5]; exact ki
      have kk5:m5.lookup (ofString "k") = some (.int (k:Int) tk):=by rw [hm5]; exact kk
      have kj5:m5.lookup (ofString "j") = some (.int (j:Int) tj):=by rw [hm5]; exact kj
      have ku5:m5.lookup (ofString "second") = some u:=by rw [hm5]; rfl
      clear hm5 ks kp ki kk kj ek ej gp L3 hvj Vj dj okq zq Vk hIt
      obtain ⟨x, hx⟩:∃ x:Bool, x = true ↔ p = q:=by
        by_cases h:p = q
        · exact ⟨true, by simp [h]⟩
        · exact ⟨false, by simp [h]⟩
      have y0:∀ r ∈ X0, r ∈ X4:=fun r hr=>s4 r (x0 r hr)
      have ksd:Kd b (ofString "second") .local:=Kx
      have kkd:Kd b (ofString "k") .local:=Kx
      have kjd:Kd b (ofString "j") .local:=Kx
      have r10:b.Room 10:=fun d hd=>hr d (by lia)
      refine Ts.ite (Tv.not (Tv.plain (Tv.gcall epr (by k_is) (Evs.cons ew (Evs.cons (Ev.itemE (Ev.name ki5 kit rfl) (Ev.name kk5 kkd rfl) (inL (s4 _ (sX3 _ mli))) hvk ⟨Int.natCast_nonneg _, hk9⟩ rfl) (Evs.cons (Ev.name ku5 ksd rfl) (Evs.cons (Ev.reprs hgd r10 (Ev.itemE (Ev.name kp5 kpl rfl) (Ev.name kk5 kkd rfl) (inL (y0 _ mlp)) hpk ⟨Int.natCast_nonneg _, hk9⟩ rfl) (Ev.itemE (Ev.name kp5 kpl rfl) (Ev.name kj5 kjd rfl) (inL (y0 _ mlp)) hpj ⟨Int.natCast_nonneg _, hj9⟩ rfl) (dk.mono fun r hr=>inL (y0 r hr)) (dq.mono fun r hr=>inL (y0 r hr)) okp oq zp zq' hx krp rfl rfl) Evs.nil rfl) rfl) rfl) rfl) (Tv.lw (pair_H L4.hi L4.ht tw.hv tw.hu okp oq (by lia) (by lia) x hx) L4 g4' hr (fun r σ5 η5 tl L5 g5' hW5 hE5 ⟨hn5, er⟩=>?_) (by decide)) rfl rfl) rfl))
      subst er
      refine Tv.tbool (both_f rfl (Ts.nil ?_))
      have tw5:=tw.mono (Y:=X4 ++ tl) fun _ h=>iL h
      have z0:∀ r ∈ X0, r ∈ X4 ++ tl:=fun r hr=>iL (y0 r hr)
      have w5:=hW5.num
      refine byP fun _ q9=>?_
      obtain ⟨a0, vs0, n0, t0, e0, ma, hv0⟩:=plan_kind dk
      refine q9 ?_
      have kis:Kd b (ofString "is_one") .local:=Kx
      refine Ts.assign rfl (Tv.mono (P:=fun v' n'=>v' = .bool (decide (k = j) || (!p.fresh && x)) ∧ ∀ r ∈ (heads2 ++ heads) ++ (hd4 b.L ba bo o3 p2 p1 ++ (Hw c σ5 η5 ++ (X4 ++ tl))), r ∈ n') (Tv.or2v (x:=decide (k = j)) (Ev.cmp (Ev.name kk5 kkd rfl) (Ev.name kj5 kjd rfl) (fun P h Q E h₁ t F N ret=>eq_i (by rw [decide_eq_decide]; lia) (ret _ _ _ _ F N (h 0))) rfl) (fun e=>⟨by rw [e]; rfl, fun _ h=>h⟩) (fun e=>Tv.and2 (Tv.in2 (Ev.item (Ev.itemE (Ev.name kp5 kpl rfl) (Ev.name kk5 kkd rfl) (inL (z0 _ mlp)) (by rw [← e0]; exact hpk) ⟨Int.natCast_nonneg _, hk9⟩ rfl) (inL (z0 _ ma)) hv0 ⟨by decide, by decide⟩ (fun _=>rfl)) fun D o=>⟨_, rfl, fun h=>⟨by rw [Pl.kind_fresh] at h; rw [e, h]; rfl, fun _ h=>.tail _ h⟩, fun h=>Tv.and0v (Ev.reprs hgd r10 (Ev.itemE (Ev.name kp5 kpl rfl) (Ev.name kk5 kkd rfl) (.tail _ (inL (z0 _ mlp))) hpk ⟨Int.natCast_nonneg _, hk9⟩ rfl) (Ev.itemE (Ev.name kp5 kpl rfl) (Ev.name kj5 kjd rfl) (.tail _ (inL (z0 _ mlp))) hpj ⟨Int.natCast_nonneg _, hj9⟩ rfl) (dk.mono fun r hr=>.tail _ (inL (z0 r hr))) (dq.mono fun r hr=>.tail _ (inL (z0 r hr))) okp oq zp zq' hx krp rfl rfl _ ⟨by rw [Pl.kind_fresh] at h; rw [e, h]; rfl, fun _ h=>.tail _ h⟩)⟩))) fun v' n' ⟨ev, sub⟩=>?_) kis rfl
      subst ev
      intro m6 hm6
      have ks6:m6.lookup (ofString "script") = some (.ref sa):=by rw [hm6]; exact ks5
      have kp6:m6.lookup (ofString "plans") = some (.ref lp):=by rw [hm6]; exact kp5
      have ki6:m6.lookup (ofString "items") = some (.ref li):=by rw [hm6]; exact ki5
      have kk6:m6.lookup (ofString "k") = some (.int (k:Int) tk):=by rw [hm6]; exact kk5
      have ku6:m6.lookup (ofString "second") = some u:=by rw [hm6]; exact ku5
      have ko6:m6.lookup (ofString "is_one") = some (.bool (decide (k = j) || (!p.fresh && x))):=by rw [hm6]; rfl
      refine Ts.rek _ sub ?_
      refine byP fun _ q9=>?_
      obtain ⟨i1, i2, d1, d2, hi12⟩:=tw5.id ((heads2 ++ heads) ++ (hd4 b.L ba bo o3 p2 p1 ++ (Hw c σ5 η5 ++ (X4 ++ tl)))) (L5.ht.led (fun r hr=>iR (iR (iL (hw_mem.mpr (.inr (.tail _ hr)))))) fun r hr=>inL hr) fun r hr=>inL hr
      refine q9 ?_
      have hy:(decide (k = j) || (!p.fresh && x)) = true ↔ i1 = i2:=by
        rw [hi12, Bool.or_eq_true, decide_eq_true_iff, Bool.and_eq_true, hx]
        simp
      generalize (decide (k = j) || (!p.fresh && x)) = y at ko6 hy
      clear hm6 sub ks5 kp5 ki5 kk5 kj5 ku5 hi12 tw tw5 hx
      refine Ts.ite (Tv.or1 (Tv.notis (Tv.gcall esm (by k_is) (Evs.cons (Ev.itemE (Ev.name ki6 kit rfl) (Ev.name kk6 kkd rfl) (inL (iL (s4 _ (sX3 _ mli)))) hvk ⟨Int.natCast_nonneg _, hk9⟩ rfl) (Evs.cons (Ev.name ku6 ksd rfl) Evs.nil rfl) rfl) (Tv.does0 (same_ok d1 d2 y hy) hr (fun r n' tl q=>q.2) (fun r q=>⟨q.1, Ev.name ko6 kis rfl, both_f rfl (Tv.or1 (Tv.notis (x:=y) ?ob rfl))⟩) (by decide)) rfl rfl) rfl))
      case ob =>
        refine Tv.callee (eos _ (Tv.with1 (by k_is) (Tv.args1 (ew _ (Tv.args1 (Ev.itemE (Ev.name ki6 kit rfl) (Ev.name kk6 kkd rfl) (inL (iL (s4 _ (sX3 _ mli)))) hvk ⟨Int.natCast_nonneg _, hk9⟩ rfl _ (Tv.args1 (Tv.listx (Evs.cons (Ev.name ku6 ksd rfl) Evs.nil rfl _ _ (Tv.list (fun la hla=>Tv.args0 (Tv.does0 (object_same (.head _) (same_ok (d1.mono fun r hr=>.tail _ hr) (d2.mono fun r hr=>.tail _ hr) y hy)) hr (fun r n' tl q=>q.2) (fun r q=>⟨q.1, Ev.name ko6 kis rfl, both_f rfl (Tv.or0 (both_f rfl (Ts.nil ?tn)))⟩) (by decide))) (Nat.le_of_ble_eq_true rfl)))) rfl)) rfl)) rfl) rfl rfl)) rfl
        have g6:∀ q ∈ heads2 ++ heads, ∀ r ∈ Hw c σ5 η5 ++ (X4 ++ tl), (r.1:Nat) ≠ q.1:=fun q hq r hr=>Ne.symm (g5' q hq r hr)
        exact Ts.nil ⟨heads ++ (hd4 b.L ba bo o3 p2 p1 ++ (Hw c σ5 η5 ++ (X4 ++ tl))), fun r hr=>.tail _ (by rw [List.append_assoc]; exact hr), fun q hq=>all_app (fun r hr=>g4 q hq r (iL hr)) (all_app (fun r hr=>g4 q hq r (iR hr)) (g6 q (iL hq))), hd4 b.L ba bo o3 p2 p1 ++ (Hw c σ5 η5 ++ (X4 ++ tl)), fun _ h=>h, fun q hq=>all_app (g5 q hq) (g6 q (iR hq)), ⟨⟨σ5, η5, X4 ++ tl, fun _ h=>h, L5, fun r hr=>iL (s4 _ (sX3 r hr)), Int.le_trans hw3 (Int.le_trans hw4 w5)⟩, ks6, kp6, ki6⟩, kk6⟩
section
variable {w mx} {b:Amb w mx} {m:Fm} {n:Led} {K:Fm → Led → Prop}
theorem Ta.tup2 {x y:Str} {q:Nat} {p1 p2 p3:Pos} {T:Addr} {u v:Value} {j:Nat} (hp:b.cp = none) (hm:(T, ({ cls:=.type "tuple", data:=.seq [u, v].toArray j }:Obj)) ∈ n) (hx:Kd b x .local) (hy:Kd b y .local) (h:K ((y, v) :: (x, u) :: m) n):Ta b m n (.Tuple [.Name x p1, .Name y p2] q p3) (.ref T) K:=fun Q E h₁ tk F N ret=>by
  rw [Amb.env_of hp]
  refine assign_Tuple_tuple rfl ⟨_, (N _ hm).1, rfl, _, rfl⟩ rfl rfl fun h' he=>?_
  have F':=F.extBut he (Nat.le_refl _)
  have N':=N.extBut he (Nat.le_refl _)
  refine assignInOrder_cons (wpAny_assign_Name (storeX_L F' N' (fun h2 F2 N2=>?_) b.k hx.2))
  refine assignInOrder_cons (wpAny_assign_Name (storeX_L (fm_set F2) N2 (fun h3 F3 N3=>?_) b.k hy.2))
  exact assignInOrder_nil (ret _ _ _ _ (fm_set F3) N3 h)
variable {c:Wc} {da:List Addr} {th:Th} {δ:Int → Addr} {lt:Addr} {hd:Led} {σ:Ws} {η:Hs} {X:Led}
theorem lw_one {D:Addr} {o:Obj} (L:Lw w c da th δ lt hd σ η X) (hD:∀ p ∈ hd ++ (Hw c σ η ++ X), p.1 < D):Lw w c da th δ lt hd σ η (X ++ [(D, o)]) ∧ ∀ p ∈ hd ++ (Hw c σ η ++ (X ++ [(D, o)])), p ∈ (D, o) :: (hd ++ (Hw c σ η ++ X)) :=
  ⟨L.lay (lt_gt fun p hp=>hD p (iR (iL hp))) (lt_gt fun p hp=>hD p (iL hp)),
   all_app (fun p hp=>.tail _ (iL hp)) (all_app (fun p hp=>.tail _ (iR (iL hp))) (all_app (fun p hp=>.tail _ (iR (iR hp))) (all_one (.head _))))⟩
theorem Tv.lwT {vs:List Value} {P:Value → Led → Prop} (L:Lw w c da th δ lt hd σ η X) (hz:vs.length ≤ sizeLine) (hre:∀ r n n', (∀ p ∈ n', p ∈ n) → P r n' → P r n) (h:∀ D, Lw w c da th δ lt hd σ η (X ++ [(D, { cls:=.type "tuple", data:=.seq vs.toArray })]) → P (.ref D) (hd ++ (Hw c σ η ++ (X ++ [(D, { cls:=.type "tuple", data:=.seq vs.toArray })])))):Tv b m (hd ++ (Hw c σ η ++ X)) (newTuple vs) P :=
  Tv.tuple (fun D hD=>hre _ _ _ (lw_one L hD).2 (h D (lw_one L hD).1)) hz
theorem Tv.lwL {vs:List Value} {P:Value → Led → Prop} (L:Lw w c da th δ lt hd σ η X) (hz:vs.length ≤ sizeLine) (hre:∀ r n n', (∀ p ∈ n', p ∈ n) → P r n' → P r n) (h:∀ D, Lw w c da th δ lt hd σ η (X ++ [(D, PySem.W.listOf vs.toArray 0)]) → P (.ref D) (hd ++ (Hw c σ η ++ (X ++ [(D, PySem.W.listOf vs.toArray 0)])))):Tv b m (hd ++ (Hw c σ η ++ X)) (newList vs) P :=
  Tv.list (fun D hD=>hre _ _ _ (lw_one L hD).2 (h D (lw_one L hD).1)) hz
end
section
variable {w mx} {b:Amb w mx} {m:Fm} {n:Led} {R:Value → Led → Prop} {K:Fm → Led → Prop} {rest:List Stmt} {P:Value → Led → Prop}
theorem Ts.tup2C {x y:Str} {C:Addr} {px py:Pos} {k:Nat} {tpos pos:Pos} {value:Expr} (hp:b.cp = none)
    (h:Tv b m n (eval value b.env) fun v n'=>∃ D u v' j, v = .ref D ∧ (D, ({ cls:=.type "tuple", data:=.seq [u, v'].toArray j }:Obj)) ∈ n' ∧ Cel C v' n' fun n₂=>∀ m', m' = (x, u) :: m → Ts b m' n₂ rest R K) (hx:Kd b x .local) (hy:Kd b y .cell) (hc:b.cl.lookup y = some C)
    (hs:swapsWithSole [.Tuple [.Name x px, .Name y py] k tpos] value pos.line b.env0 = pure false) (hw:swappedStores [.Tuple [.Name x px, .Name y py] k tpos] value b.env0 = pure none):Ts b m n (.Assign [.Tuple [.Name x px, .Name y py] k tpos] value pos :: rest) R K:=fun Q E h₁ tk hE F N r1 r2=>by
  have h':=h
  unfold Tv at h'
  rw [Amb.env_of hp] at h'
  refine wpAny_execs_cons ?_
  rw [Amb.env_of hp]
  refine Assign_Tuple (h' _ E h₁ tk F N fun v h2 tk2 n2 F2 N2 hq=>?_) hs hw
  refine byP fun _ q9=>?_
  obtain ⟨D, u, v', j, e, hm, hC⟩:=hq
  refine q9 ?_
  subst e
  refine assign_Tuple_tuple rfl ⟨_, (N2 _ hm).1, rfl, _, rfl⟩ rfl rfl fun h3 he=>?_
  refine assignInOrder_cons (wpAny_assign_Name (storeX_L (F2.extBut he (Nat.le_refl _)) (N2.extBut he (Nat.le_refl _)) (fun h4 F4 N4=>?_) b.k hx.2))
  refine assignInOrder_cons (wpAny_assign_Name (hC.put hy hc (fm_set F4) N4 fun h5 tk5 n5 F5 N5 go=>assignInOrder_nil ?_))
  have g:=go _ rfl
  unfold Ts at g
  rw [Amb.env_of hp] at g hE
  exact g Q E h5 _ hE F5 N5 r1 r2
structure ForE (b:Amb w mx) (x:Str) (C:Addr) (body rest:List Stmt) (R:Value → Led → Prop) (K:Fm → Led → Prop) (ax:Addr) (xs:List Value) (q:Nat) (J:Nat → Fm → Led → Prop):Prop where
  hJ:∀ i m n, J i m n → (ax, PySem.W.listOf xs.toArray q) ∈ n
  step:∀ i v t m n heads, xs[i]? = some v → J i m n → (∀ q ∈ heads, ∀ p ∈ n, (p.1:Nat) ≠ q.1) → Cel C v (heads ++ n) fun n₂=>∀ m', m' = (x, .int (i:Int) t) :: m → Ts b m' n₂ body R (Tn heads (J (i + 1)))
  fin:∀ m n, J xs.length m n → Ts b m n rest R K
theorem enum_ts (hp:b.cp = none) {x y:Str} {px py tp:Pos} {kk:Nat} {C:Addr} {body:List Stmt} {I1 I2 ax:Addr} {c1 c2:String} {xs:List Value} {q:Nat} {Q:Flow → Shared → Prop} {E:Value → Shared → Prop} {h₁:Heap} {tk:Nat} (hx:Kd b x .local) (hy:Kd b y .cell) (hc:b.cl.lookup y = some C) {J:Nat → Fm → Led → Prop} (FE:ForE b x C body rest R K ax xs q J) (hE:PassesOwn (model PR w) b.A b.env E)
    (r1:∀ v h' tk' m' n', Fr b.h₀ b.L h' (fm m') → News b.h₀ b.L h' n' → R v n' → Q (.ret v) (b.st h' tk')) (r2:∀ h' tk' m' n', Fr b.h₀ b.L h' (fm m') → News b.h₀ b.L h' n' → J xs.length m' n' → Q .next (b.st h' tk')) :
    ∀ (k i:Nat), xs.length - i = k → ∀ m n, J i m n → (∀ p ∈ n, (p.1:Nat) ≠ I1) → (∀ p ∈ n, (p.1:Nat) ≠ I2) → i ≤ xs.length → ItemsRest PR w b.A E b.h₀ b.env0 (.Tuple [.Name x px, .Name y py] kk tp) body Q (b.st h₁ tk) [(I1, c1), (I2, c2)] [(ax, PySem.W.listOf xs.toArray q)] (enumItems i (xs.drop i)) (fm m) n:=by
  intro k
  induction k with
  | zero =>
    intro i hi m n hj _ _ hle
    have e:i = xs.length:=Nat.le_antisymm hle (Nat.sub_eq_zero_iff_le.mp hi)
    subst e
    rw [List.drop_length]
    exact fun h tk F N=>r2 h tk m n F N hj
  | succ k ih =>
    intro i hi m n hj o1 o2 hle
    have hlt:i < xs.length:=Nat.lt_of_sub_eq_succ hi
    rw [List.drop_eq_getElem_cons hlt]
    refine ItemsRest.pair fun T t h tk2 hT F=>AllObj.cons fun q1 _=>AllObj.cons fun q2 _=>AllObj.nil fun N=>?_
    have st:=FE.step i xs[i] t m n [(I1, q1), (I2, q2)] (List.getElem?_eq_getElem hlt) hj (fun q hq p hp=>(List.mem_cons.mp hq).elim (fun e=>e ▸ o1 p hp) fun hq=>List.mem_singleton.mp hq ▸ o2 p hp)
    refine assign_Tuple_tuple rfl hT rfl rfl fun h' he=>?_
    refine assignInOrder_cons (wpAny_assign_Name (storeX_L (F.extBut he (Nat.le_refl _)) (N.extBut he (Nat.le_refl _)) (fun h2 F2 N2=>?_) b.k hx.2))
    refine assignInOrder_cons (wpAny_assign_Name (st.put hy hc (fm_set F2) N2 fun h3 tk3 n3 F3 N3 go=>assignInOrder_nil ?_))
    have go:=go _ rfl
    unfold Ts at go
    rw [Amb.env_of hp] at go hE
    refine go _ E h3 tk3 hE F3 N3 (fun v h3 tk3 m3 n3 F3 N3 r=>r1 v h3 tk3 m3 n3 F3 N3 r) (fun h3 tk3 m3 n3 F3 N3 tn=>?_)
    refine byP fun _ q9=>?_
    obtain ⟨n4, sub, off4, j4⟩:=tn
    refine q9 ?_
    exact ⟨h3, tk3, fm m3, n4, rfl, F3, fun p hp=>N3 p (sub p hp), fun p hp q hq=>off4 q hq p hp, And.intro (FE.hJ _ _ _ j4) trivial, ih (i + 1) (by rw [Nat.sub_succ, hi]; rfl) m3 n4 j4 (fun p hp=>off4 _ (.head _) p hp) (fun p hp=>off4 _ (.tail _ (.head _)) p hp) hlt⟩
theorem Ts.forE {x y z:Str} {px py pz tp p1 p2 pos:Pos} {kk:Nat} {C ax:Addr} {xs:List Value} {q:Nat} {body:List Stmt} {J:Nat → Fm → Led → Prop} (hp:b.cp = none) (hz:Ev b m n (.Name z pz) (.ref ax)) (j0:J 0 m n) (FE:ForE b x C body rest R K ax xs q J) (hx:Kd b x .local) (hy:Kd b y .cell) (hc:b.cl.lookup y = some C) (hk:Kd b (ofString "enumerate") .globalImplicit) (hn:nsIn (K9 w.params) mainGlobals (ofString "enumerate") = some none)
    (hs:∀ v, foldedSetIterable (.Call (.Name (ofString "enumerate") p1) [.Name z pz] [] p2) b.env0 v = pure v):Ts b m n (.For (.Tuple [.Name x px, .Name y py] kk tp) (.Call (.Name (ofString "enumerate") p1) [.Name z pz] [] p2) body [] pos :: rest) R K:=fun Q E h₁ tk hE F N r1 r2=>by
  have e1:=(Tv.blt (c:=b) (m:=m) (n:=n) (pos:=p1) (P:=fun v n'=>v = .type "enumerate" ∧ n' = n) hn (by boot_fast) (by decide) ⟨rfl, rfl⟩ hk rfl)
  have e2:=hz (fun v n'=>v = .ref ax ∧ n' = n) ⟨rfl, rfl⟩
  have fin':=FE.fin
  have hE':=hE
  unfold Tv at e1 e2
  unfold Ts at fin'
  rw [Amb.env_of hp] at e1 e2 hE' fin'
  refine wpAny_execs_cons ?_
  rw [Amb.env_of hp]
  refine For_turns F (Call_ (e1 _ E h₁ tk F N fun v h2 tk2 n2 F2 N2 ⟨e, e'⟩=>?_) rfl) hs hE'
  subst e
  subst e'
  refine callWith_type1 (args_cons (e2 _ E h2 tk2 F2 N2 fun v h3 tk3 n3 F3 N3 ⟨e, e'⟩=>args_nil ?_) rfl) rfl rfl
  subst e
  subst e'
  refine ktu_enum rfl F3 N3 (FE.hJ _ _ _ j0) rfl rfl rfl fun I l=>?_
  have key:=enum_ts (px:=px) (py:=py) (tp:=tp) (kk:=kk) (I1:=I + 1) (I2:=I) (c1:="enumerate") (c2:="list_iterator") (h₁:=h3) (tk:=tk3) (Q:=fun f s=>match f with | .next=>wpAny (model PR w) b.A (execs rest b.env0) Q E s | f=>Q f s) hp hx hy hc FE hE (fun v h3 tk3 m3 n3 F3 N3 r=>r1 v h3 tk3 m3 n3 F3 N3 r) (fun h3 tk3 m3 n3 F3 N3 j=>fin' m3 n3 j Q E h3 tk3 hE' F3 N3 r1 r2) xs.length 0 rfl m n3 j0 (fun p hp=>Nat.ne_of_lt (Nat.lt_succ_of_lt (l p hp))) (fun p hp=>Nat.ne_of_lt (l p hp)) (Nat.zero_le _)
  rw [List.drop_zero] at key
  exact key
theorem Ta.pairC {x y:Str} {q:Nat} {p1 p2 p3:Pos} {T C:Addr} {u v:Value} {j:Nat} (hp:b.cp = none) (hm:(T, PySem.W.listOf [u, v].toArray j) ∈ n) (hx:Kd b x .cell) (hc:b.cl.lookup x = some C) (hy:Kd b y .local) (h:Cel C u n fun n₂=>∀ m', m' = (y, v) :: m → K m' n₂):Ta b m n (.Tuple [.Name x p1, .Name y p2] q p3) (.ref T) K:=fun Q E h₁ tk F N ret=>by
  rw [Amb.env_of hp]
  refine assign_pair rfl (News.isList N hm) rfl rfl fun h' he=>?_
  have up:∀ c o, h₁.get? c = some o → h'.get? c = some o:=fun c o e=>he c o (Nat.ne_of_lt (Heap.lt_size e)) e
  refine assignInOrder_cons (wpAny_assign_Name (h.put hx hc (F.keeps up) (N.grown up) fun h2 tk2 n2 F2 N2 go=>?_))
  exact assignInOrder_cons (wpAny_assign_Name (storeX_L F2 N2 (fun h3 F3 N3=>assignInOrder_nil (ret _ _ _ _ (fm_set F3) N3 (go _ rfl))) b.k hy.2))
structure CompQ (b:Amb w mx) (m:Fm) (sc:Scope) (cl:List (Str × Addr)) (ct elt:Expr) (x:Str) (N:Nat) (n:Led) (J:Nat → List Value → Prop) (P:Value → Led → Prop):Prop where
  j0:J 0 []
  step:∀ i ys t heads C oC m₂, i < N → J i ys → (C, oC) ∈ heads → LCg.NsObj oC m₂ → m₂ x = some (.int (i:Int) t) → ∃ ok y, Te (b.inC sc cl C) m (heads ++ n) ct ok ∧ Ev (b.inC sc cl C) m (heads ++ n) elt y ∧ J (i + 1) (if ok then ys ++ [y] else ys)
  fin:∀ D ys, J N ys → (∀ p ∈ n, (p.1:Nat) ≠ D) → P (.ref D) ((D, LCg.lst ys) :: n)
theorem Ts.compRT {sc:Scope} {cl:List (Str × Addr)} {ct elt iter:Expr} {x y:Str} {px py:Pos} {pos spos:Pos} (hp:b.cp = none) (hit:Tv b m n (eval iter b.env) fun v n1=>∃ (r:Addr) (N:Nat) (t u z:Tok), v = .ref r ∧ (r, rng N t u z) ∈ n1 ∧ N ≤ 1000 ∧ ∃ J, CompQ b m sc cl ct elt x N n1 J (fun v n'=>∀ m', m' = (y, v) :: m → Ts b m' n' rest R K))
    (hclos:closureFor sc b.env0 = pure cl) (hcell:∀ y ∈ sc.names, y.2 ≠ .cell) (hkind:sc.kind = .function) (hnames:∀ y ∈ sc.names, y.2 = .local → sc.names.lookup y.1 = some .local) (hx:sc.names.lookup x = some .local) (hs:∀ v, foldedSetIterable iter b.env0 v = pure v) (hy:Kd b y .local)
    (hsw:swapsWith (.ListComp elt [⟨.Name x px, iter, [ct], 0⟩] sc pos) (some (.Name y py)) spos.line b.env0 = pure true):Ts b m n (.Assign [.Name y py] (.ListComp elt [⟨.Name x px, iter, [ct], 0⟩] sc pos) spos :: rest) R K:=fun Q E h₁ tk hE F N r1 r2=>by
  have hit':=hit
  have hE':=hE
  unfold Tv at hit'
  rw [Amb.env_of hp] at hE' hit'
  refine wpAny_execs_cons ?_
  rw [Amb.env_of hp]
  refine LCt.Assign_ListComp_T (cl:=cl) F rfl hsw hclos hcell hkind hnames hx hy.2 (by show (b.cs.kind == .class || (b.cs.kind == .module && _)) = false; rw [b.k]; rfl) (hit' _ E h₁ tk F N fun v h' tk' n' F' N' z9=>?_) hs
  refine byP fun _ q9=>?_
  obtain ⟨r, N1, t, u, z, e1, hm, hN, J, J0, step, fin⟩:=z9
  refine q9 ?_
  subst e1
  refine LCt.CompSrcT.range (n:=N1) rfl F' N' (N' _ hm).1 (small_one (by decide) (by decide) (by lia) (by lia)) (range_size N1) (by rw [sizeLine_eq]; lia) fun g=>comp_loopT (fun i ys news=>news = n' ∧ J i ys) ?_ ?_ ⟨rfl, J0⟩
  · intro i ys news hi hj v I oI C oC D m₂ h tk E' ⟨tv, hv⟩ hC hx2 F2 N2 off ne
    obtain ⟨e, hj⟩:=hj
    subst e
    rw [hv, Int.zero_add] at hx2
    refine byP fun _ q9=>?_
    obtain ⟨ok, y1, ht, he, hj'⟩:=step i ys tv [(I, oI), (C, oC), (D, LCg.lst ys)] C oC m₂ hi hj (.tail _ (.head _)) hC hx2
    refine q9 ?_
    refine ht (fun o f=>o = ok ∧ f = [(I, oI), (C, oC), (D, LCg.lst ys)] ++ news) ⟨rfl, rfl⟩ _ E' h tk F2 N2 fun o h3 tk3 f F3 N3 ⟨e1, e2⟩=>?_
    subst e1
    subst e2
    cases o with
    | true =>
      refine he (fun v f=>v = y1 ∧ f = [(I, oI), (C, oC), (D, LCg.lst ys)] ++ news) ⟨rfl, rfl⟩ _ E' h3 tk3 F3 N3 fun y h4 tk4 f F4 N4 ⟨e1, e2⟩=>?_
      subst e1
      subst e2
      exact LCg.CompEnd.intro F4 N4 news (fun _ h=>h) off trivial ⟨rfl, hj'⟩
    | false =>
      dsimp only
      rw [if_neg Bool.false_ne_true]
      exact LCg.CompEnd.intro F3 N3 news (fun _ h=>h) off trivial ⟨rfl, hj'⟩
  · intro ys news hj D h tk F2 N2 o1
    obtain ⟨e, hj⟩:=hj
    subst e
    have go:=fin D ys hj (Ne1.of_off1 o1 fun p hp=>hp) _ rfl
    unfold Ts at go
    rw [Amb.env_of hp] at go
    exact go Q E h tk hE' (fm_set F2) N2 r1 r2
structure CompP (b:Amb w mx) (m:Fm) (sc:Scope) (cl:List (Str × Addr)) (elt:Expr) (x x₂:Str) (P:Value → Led → Prop) (pr:Obj → Value → Value → Nat → Prop) (ax:Addr) (q:Nat) (its:List Value) (n:Led) (J:Nat → List Value → Led → Prop):Prop where
  sz:its.length ≤ sizeLine
  j0:J 0 [] n
  hl:∀ i ys n', J i ys n' → (ax, PySem.W.listOf its.toArray q) ∈ n'
  step:∀ i ys n' v, its[i]? = some v → J i ys n' → ∃ t ot v₁ v₂ nt, v = .ref t ∧ (t, ot) ∈ n' ∧ pr ot v₁ v₂ nt ∧ ∀ heads C oC m₂, (C, oC) ∈ heads → LCg.NsObj oC m₂ → m₂ x = some v₁ → m₂ x₂ = some v₂ → (∀ q ∈ heads, ∀ p ∈ n', (p.1:Nat) ≠ q.1) →
      Tv (b.inC sc cl C) m (heads ++ n') (eval elt (b.inC sc cl C).env) fun y f=>∃ n'', (∀ p ∈ heads ++ n'', p ∈ f) ∧ (∀ q ∈ heads, ∀ p ∈ n'', (p.1:Nat) ≠ q.1) ∧ J (i + 1) (ys ++ [y]) n''
  fin:∀ D ys n', J its.length ys n' → (∀ p ∈ n', (p.1:Nat) ≠ D) → P (.ref D) ((D, LCg.lst ys) :: n')
noncomputable def tupP (o:Obj) (a b:Value) (q:Nat):Prop:=o.cls = .type "tuple" ∧ o.data = .seq #[a, b] q
noncomputable def lisP (o:Obj) (a b:Value) (q:Nat):Prop:=o = PySem.W.listOf [a, b].toArray q
theorem Tv.compP {sc:Scope} {cl:List (Str × Addr)} {elt iter:Expr} {x x₂:Str} {px px₂ tp:Pos} {k:Nat} {pos:Pos} (hp:b.cp = none) (hit:Tv b m n (eval iter b.env) fun v n1=>∃ ax q its J, v = .ref ax ∧ CompP b m sc cl elt x x₂ P tupP ax q its n1 J)
    (hclos:closureFor sc b.env = pure cl) (hcell:∀ y ∈ sc.names, y.2 ≠ .cell) (hkind:sc.kind = .function) (hnames:∀ y ∈ sc.names, y.2 = .local → sc.names.lookup y.1 = some .local) (hx:sc.names.lookup x = some .local) (hx₂:sc.names.lookup x₂ = some .local) (hxx:x ≠ x₂) (hs:∀ v, foldedSetIterable iter b.env v = pure v) :
    Tv b m n (eval (.ListComp elt [⟨.Tuple [.Name x px, .Name x₂ px₂] k tp, iter, [], 0⟩] sc pos) b.env) P:=by
  intro Q E h₁ tk F N ret
  refine LCp.ListComp_P (cl:=cl) F hclos hcell hkind hnames hx hx₂ hxx (hit _ E h₁ tk F N fun v h' tk' n' F' N' z9=>?_) hs
  refine byP fun _ q9=>?_
  obtain ⟨ax, q, its, J, e1, hsz, J0, hl, step, fin⟩:=z9
  refine q9 ?_
  subst e1
  refine LCp.SrcLP.ledger (its:=its.toArray) (k:=q) rfl F' N' (hl _ _ _ J0) (by rw [List.size_toArray]; exact hsz) fun g=>comp_loopP J ?_ ?_ J0
  · intro i ys news hi hj v hv
    refine byP fun _ q9=>?_
    obtain ⟨t, ot, v1, v2, nt, e, hm, hq, go⟩:=step i ys news v (by simpa using hv) hj
    refine q9 ?_
    refine ⟨t, ot, v1, v2, nt, e, hm, hq.1, hq.2, fun I oI C oC D m₂ h tk E' hC hx1 hx2 F2 N2 off ne=>?_⟩
    have off9:=off.mem
    have key:=go [(I, oI), (C, oC), (D, LCg.lst ys)] C oC m₂ (.tail _ (.head _)) hC hx1 hx2 (all_more (fun p hp=>(off9 p hp).1) (all_more (fun p hp=>(off9 p hp).2.1) (all_one fun p hp=>(off9 p hp).2.2)))
    rw [Amb.env_of hp]
    exact key _ E' h tk F2 N2 fun y h' tk' f F3 N3 z9=>by refine byP fun _ q9=>?_; obtain ⟨n2, s, o, j⟩:=z9; exact q9 (LCg.CompEnd.intro F3 N3 n2 s (LCg.Off3.of fun p hp=>⟨o (I, oI) (.head _) p hp, o (C, oC) (.tail _ (.head _)) p hp, o (D, LCg.lst ys) (.tail _ (.tail _ (.head _))) p hp⟩) (.inr ⟨_, hl _ _ _ j, rfl, _, rfl⟩) j)
  · intro ys news hj D h tk F2 N2 o1
    rw [List.size_toArray] at hj
    exact ret _ _ _ _ F2 N2 (fin D ys news hj (Ne1.of_off1 o1 fun p hp=>hp))
theorem Tv.compL {sc:Scope} {cl:List (Str × Addr)} {elt iter:Expr} {x x₂:Str} {px px₂ tp:Pos} {k:Nat} {pos:Pos} (hp:b.cp = none) (hit:Tv b m n (eval iter b.env) fun v n1=>∃ ax q its J, v = .ref ax ∧ CompP b m sc cl elt x x₂ P lisP ax q its n1 J)
    (hclos:closureFor sc b.env = pure cl) (hcell:∀ y ∈ sc.names, y.2 ≠ .cell) (hkind:sc.kind = .function) (hnames:∀ y ∈ sc.names, y.2 = .local → sc.names.lookup y.1 = some .local) (hx:sc.names.lookup x = some .local) (hx₂:sc.names.lookup x₂ = some .local) (hxx:x ≠ x₂) (hs:∀ v, foldedSetIterable iter b.env v = pure v) :
    Tv b m n (eval (.ListComp elt [⟨.Tuple [.Name x px, .Name x₂ px₂] k tp, iter, [], 0⟩] sc pos) b.env) P:=by
  intro Q E h₁ tk F N ret
  refine ListComp_L (cl:=cl) F hclos hcell hkind hnames hx hx₂ hxx (hit _ E h₁ tk F N fun v h' tk' n' F' N' z9=>?_) hs
  refine byP fun _ q9=>?_
  obtain ⟨ax, q, its, J, e1, hsz, J0, hl, step, fin⟩:=z9
  refine q9 ?_
  subst e1
  refine ⟨ax, its, J, n', rfl, rfl, F', N', hsz, J0, fun i ys nw hj=>.inr ⟨_, hl _ _ _ hj, rfl, _, rfl⟩, fun i ys nw v hj hv=>?_, fun ys nw D h tk hj F2 N2 o1=>ret _ _ _ _ F2 N2 (fin D ys nw hj (Ne1.of_off1 o1 fun p hp=>hp))⟩
  refine byP fun _ q9=>?_
  obtain ⟨t, ot, v1, v2, nt, e, hm, hq, go⟩:=step i ys nw v hv hj
  refine q9 ?_
  refine ⟨t, v1, v2, nt, e, hq ▸ hm, fun I oI C oC D m₂ h tk E' hC hx1 hx2 F2 N2 off ne=>?_⟩
  have off9:=off.mem
  have key:=go [(I, oI), (C, oC), (D, LCg.lst ys)] C oC m₂ (.tail _ (.head _)) hC hx1 hx2 (all_more (fun p hp=>(off9 p hp).1) (all_more (fun p hp=>(off9 p hp).2.1) (all_one fun p hp=>(off9 p hp).2.2)))
  rw [Amb.env_of hp]
  exact key _ E' h tk F2 N2 fun y h' tk' f F3 N3 z9=>by refine byP fun _ q9=>?_; obtain ⟨n2, s, o, j⟩:=z9; exact q9 (⟨h', tk', n2, rfl, F3, fun p hp=>N3 p (s p hp), LCg.Off3.of fun p hp=>⟨o (I, oI) (.head _) p hp, o (C, oC) (.tail _ (.head _)) p hp, o (D, LCg.lst ys) (.tail _ (.tail _ (.head _))) p hp⟩, j⟩)
theorem Cp.eqI {a a':Addr} {xs ys:List Value} {q q':Nat} {ns ms:List Int} {r:Bool} (hr:b.Room 12) (ha:(a, PySem.W.listOf xs.toArray q) ∈ n) (hb:(a', PySem.W.listOf ys.toArray q') ∈ n) (hi:IntsAre xs ns) (hj:IntsAre ys ms) (e:decide (ns = ms) = r):Cp b m n .Eq (.ref a) (.ref a') (.bool r):=fun P h Q E h₁ tk F N ret =>
  ke_eq_ints (News.isList N ha) (News.isList N hb) hi hj (by have:=(hr 8 (by decide)).2; show b.un + 64 < cLine; lia) (e ▸ ret _ _ _ _ F N (h tk))
theorem Cp.neI {a a':Addr} {xs ys:List Value} {q q':Nat} {ns ms:List Int} {r:Bool} (hr:b.Room 12) (ha:(a, PySem.W.listOf xs.toArray q) ∈ n) (hb:(a', PySem.W.listOf ys.toArray q') ∈ n) (hi:IntsAre xs ns) (hj:IntsAre ys ms) (e:(!decide (ns = ms)) = r):Cp b m n .NotEq (.ref a) (.ref a') (.bool r):=fun P h Q E h₁ tk F N ret =>
  ke_ne_ints (News.isList N ha) (News.isList N hb) hi hj (by have:=(hr 8 (by decide)).2; show b.un + 64 < cLine; lia) (e ▸ ret _ _ _ _ F N (h tk))
theorem Tv.append {x:Str} {e:Expr} {p1 p2 p3:Pos} {a:Addr} {vs:List Value} {q:Nat} {pl:Sem Bool} (hx:Ev b m n (.Name x p1) (.ref a)) (hm:(a, PySem.W.listOf vs.toArray q) ∈ n)
    (h:Tv b m n (eval e b.env) fun v n'=>∃ l, (∀ p ∈ (a, PySem.W.listOf vs.toArray q) :: l, p ∈ n') ∧ (∀ p ∈ l, p.1 ≠ a) ∧ P .none ((a, PySem.W.listOf (vs ++ [v]).toArray (q + 1)) :: l)) (hz:vs.length ≤ sizeLine) (hs:starEach [e] b.env = (false, eval e b.env) :: starEach [] b.env)
    (he:eval (Expr.Call (.Attribute (.Name x p1) (ofString "append") p2) [e] [] p3) b.env = (do let ov ← eval (.Name x p1) b.env; standAt (Pos.atName p2); let z ← holding [ov] (getMethod ov (ofString "append") pl); match z with | (g, first)=>callWith p3 g first (backTo p3 (starEach [e] b.env)) [])):Tv b m n (eval (.Call (.Attribute (.Name x p1) (ofString "append") p2) [e] [] p3) b.env) P :=
  Tv.meth (hx _ fun Q E h₁ tk F N ret=>getMethod_list_append (N.get hm) rfl rfl (ret (.builtin "list.append", [.ref a]) _ _ _ F N (Tv.withm1 (Tv.args1 (h.mono fun v n' z9=>by refine byP fun _ q9=>?_; obtain ⟨l, s, off, hP⟩:=z9; exact q9 (Tv.args0 fun Q E h₁ tk F N ret=>append_K F (News.of N s) (Upd.head off) (fun h' F' N'=>ret _ _ _ _ F' (by simpa using N') hP) (by rw [List.size_toArray]; exact hz))) hs) hs rfl))) he
end
section
variable {w mx} {b:Amb w mx} {m:Fm} {n:Led}
theorem Ev.cblt {sc:Scope} {cl:List (Str × Addr)} {C:Addr} {x:Str} {pos:Pos} {v:Value} (hv:nsIn (K9 w.params) mainGlobals x = some Option.none) (hb:bootBuiltins x = some v) (hn:x ≠ ofString "__name__") (hx:Kc b sc x .globalImplicit) (hd:(x == ("__debug__":Str)) = false):Ev (b.inC sc cl C) m n (.Name x pos) v:=fun P h Q E h₁ tk F N ret =>
  LCgL.ld_built (env:=b.env0) F b.X b.T hv hb hn (ret _ _ _ _ F N h) rfl rfl hx.fn hx.kd hd
theorem Te.reprs {f1 f2 e1 e2:Expr} {v1 v2:Value} {p q:Pl} {p2 p4 p5:Pos} (g1:Ev b m n f1 (.builtin "repr")) (g2:Ev b m n f2 (.builtin "repr")) (hg:b.gd = some []) (hr:b.Room 10) (h1:Ev b m n e1 v1) (h2:Ev b m n e2 v2) (d1:DatIn n v1 p.dat) (d2:DatIn n v2 q.dat) (o1:p.Ok) (o2:q.Ok) (z1:p.dep ≤ 2) (z2:q.dep ≤ 2) {x:Bool} (hx:x = true ↔ p = q) (hs1:starEach [e1] b.env = (false, eval e1 b.env) :: starEach [] b.env) (hs2:starEach [e2] b.env = (false, eval e2 b.env) :: starEach [] b.env)
    (c1:eval (Expr.Call f1 [e1] [] p2) b.env = (do let f' ← eval f1 b.env; callWith p2 f' [] (backTo p2 (starEach [e1] b.env)) (backToKw p2 (keywordEach [] b.env)))) (c2:eval (Expr.Call f2 [e2] [] p4) b.env = (do let f' ← eval f2 b.env; callWith p4 f' [] (backTo p4 (starEach [e2] b.env)) (backToKw p4 (keywordEach [] b.env)))) (hm:behindInMarks .Eq (.Call f2 [e2] [] p4) = false) :
    Te b m n (.Compare (.Call f1 [e1] [] p2) [.Eq] [.Call f2 [e2] [] p4] p5) x:=fun P h=>by
  have hu:b.A.units + 20 < cLine:=by have:=(hr 9 (by decide)).2; show b.un + 20 < cLine; lia
  refine Tv.cmp1 (Tv.callee (g1 _ (Tv.withb (Tv.args1 (h1 _ (Tv.args0 fun Q E h₁ tk F N ret=>repr_pl F N d1 o1 z1 hg hu fun h' u tk' F' N'=>ret _ _ _ _ F' N' ?_)) hs1) hs1 rfl)) c1) hm
  refine Tv.callee (g2 _ (Tv.withb (Tv.args1 (h2 _ (Tv.args0 fun Q E h₁ tk F N ret=>repr_pl F N d2 o2 z2 hg hu fun h' u' tk' F' N'=>ret _ _ _ _ F' N' fun Q E h₁ tk F N ret=>eq_str (ret _ _ _ _ F N (Tv.tbool ?_)))) hs2) hs2 rfl)) c2
  have e:((kqdP p.dat).shown == (kqdP q.dat).shown) = x:=by
    rw [Bool.eq_iff_iff, beq_iff_eq, hx]
    exact Rp_inj o1 o2
  rw [e]
  exact h
section
variable {name qual:Str} {params:Arguments} {body:List Stmt} {scope:Scope} {dV kV doc pm cdv ct oc:Value} {an od:Option Addr} {osl:Array (Option Value)} {f:Addr} {args:List Value} {binds:List (Str × Value)} {dn:Nat} {news:Led} {R:Value → Led → Led → Prop} {bm:Fm}
theorem doesR_enterC (ho:(K9 w.params).lookup f = some ⟨oc, od, .func (fnOf name qual params body scope dV kV doc pm an cdv ct), osl⟩) (hcd:codeIn (K9 w.params) cdv qual = true)
    (hb:∀ s:Shared, (K9 w.params).In s.heap → BindsTo s (fnOf name qual params body scope dV kV doc pm an cdv ct) ⟨args, []⟩ binds)
    (hl:(binds.all fun y=>scope.names.lookup y.1 == some .local || scope.names.lookup y.1 == some .cell) = true) (hnd:((cellsFrom 0 scope.names []).map (·.1)).Nodup) (hco:scope.isCoroutine = false) (hg:scope.isGenerator = false) (hk:scope.kind = .function) (hd:0 < dn) (hbm:locsOf scope.names binds [] = bm)
    (h:∀ (c:Amb w mx) (m:Fm) (cells:Led), m = bm → c.cp = none → c.cs = scope → c.cl = cellsFrom (c.L + 1) scope.names [] → CellsAre (bindC (fun x=>scope.names.lookup x) binds fun _=>none) (cellsFrom (c.L + 1) scope.names []) cells → (∀ p ∈ news, p.1 < c.L) → c.Room dn → c.gd = some [] → Ts c m (cells ++ news) body (Owes news R) fun _ n=>Owes news R .none n):DoesR w mx f dn args news R:=by
  intro dp un cn cs a ccd cl outer A₀ base h₀ L m s Q E B F X N T hkd hdd hu hret
  refine wpAny_call ?_
  refine code_defC (A₀:=A₀) (base:=base) B F X N T rfl rfl hkd ho hcd (by show dp < recursionLimit; lia) (hb s (X.keeps F.keep)) hl hnd (fun g' L' h' tk' cells FG F' N' Y B' X' T' lt=>?_) hco hg hk
  have owe:∀ v h'' tk'' m'' n'', Fr g' L' h'' (fm m'') → News g' L' h'' n'' → Owes news R v n'' → LeaveK h₀ L m g' (fun r s'=>match r with | .ok (.ret v)=>Q v s' | .ok _=>False | .error e=>E e s') v { s with heap:=h'', toks:=tk'' }:=fun v h'' tk'' m'' n'' F'' N'' ⟨news', tl, hs, hg, hR⟩ =>
    ⟨L', fm m'', n'', F'', N'', fun F3 N3=>hret v news' tl h'' tk'' F3 (News.of N3 hs) hg hR⟩
  have F2:Fr g' L' h' (fm (locsOf scope.names binds [])):=by
    rw [← bindL_locs (k:=(envOfC qual scope L' f cdv).kindOf) (names:=scope.names) (fun x=>rfl)]
    exact F'
  exact h ⟨dp + 1, un + 3, some [], qual, scope, L', f, cdv, cellsFrom (L' + 1) scope.names [], envX cn cs L a ccd cl :: outer, ktrTop dp un (some []) cn cs L a ccd cl outer, base, g', s, B', X', T', hk, none⟩ (locsOf scope.names binds []) cells hbm rfl rfl rfl Y lt
    (fun d hd=>⟨by show dp + 1 + d < _; lia, by show un + 3 + 8 * d < _; lia⟩) rfl _ _ h' _ (by passes_own) F2 N' (fun v h'' tk'' m'' n'' F'' N'' o=>owe v h'' tk'' m'' n'' F'' N'' o) (fun h'' tk'' m'' n'' F'' N'' o=>owe .none h'' tk'' m'' n'' F'' N'' o)
end
end
theorem Hy.lay {w:World} {k:Wc} {da:List Addr} {σ0 σ:Ws} {η0 η:Hs} {X rest T R t:Led} (Y:Hy w k da σ0 η0 X rest σ η T R) (g:Gt (Hw k σ η ++ R) t):Hy w k da σ0 η0 X rest σ η (T ++ t) (R ++ t) :=
  Y.call (Y.hi.grow (Gt.subl (fun p hp=>iL hp) g)) (HExt.refl _) (WX.refl _) g
theorem Hy.drop {w:World} {k:Wc} {da:List Addr} {σ0 σ σ':Ws} {η0 η:Hs} {X rest T R t:Led} {z:Addr × Obj} (Y2:Hy w k da σ0 η0 X rest σ η T R) (Y3:Hy w k da σ0 η0 X rest σ' η (T ++ z :: t) (R ++ z :: t)) (hk:σ'.kvs = σ.kvs) (hn:σ.num ≤ σ'.num):Hy w k da σ0 η0 X rest σ' η (T ++ t) (R ++ t):=by
  have st:∀ {A:Led}, ∀ p ∈ A ++ t, p ∈ A ++ z :: t:=fun p hp=>(List.mem_append.mp hp).elim (iL) fun h=>iR (.tail _ h)
  refine ⟨Y2.hi.drop Y3.hi hk hn (fun p hp=>?_) (fun p hp=>?_), Y3.xs, fun p hp=>?_, Gt.subR Y3.gr st, Gt.subR Y3.gt st, Y3.he, Y3.wx⟩
  · exact (List.mem_append.mp hp).elim (iL) fun h=>iR (iL h)
  · exact (List.mem_append.mp hp).elim (iL) fun h=>iR (st _ h)
  · rw [← List.append_assoc] at hp
    exact (List.mem_append.mp hp).elim (fun h=>iL (Y2.sub _ h)) (iR)
section
variable {w mx} {b:Amb w mx} {m:Fm} {n:Led} {k:Wc} {da:List Addr} {σ0 σ:Ws} {η0 η:Hs} {X rest T R heads:Led}
theorem Tv.hyg {f:Addr} {d dn:Nat} {args:List Value} {P':Value → Ws → Hs → Led → Prop} {P:Value → Led → Prop} (C:HW w mx k da σ η (X ++ T) f d args P') (Y:Hy w k da σ0 η0 X rest σ η T R) (hh:Gt heads (Hw k σ η ++ R)) (hr:b.Room dn)
    (h:∀ r σ' η' tl, Hy w k da σ0 η0 X rest σ' η' (T ++ tl) (R ++ tl) → HExt η η' → WX σ σ' → Gt heads (Hw k σ' η' ++ (R ++ tl)) → Gt R tl → P' r σ' η' tl → P r (heads ++ (Hw k σ' η' ++ (R ++ tl)))) (hd:d < dn):Tv b m (heads ++ (Hw k σ η ++ R)) (call (.ref f) args) P:=fun Q E h₁ tk F N ret=>by
  have perm:∀ {a b c:Led}, ∀ p ∈ a ++ (b ++ c), p ∈ b ++ (a ++ c):=fun p hp=>(List.mem_append.mp hp).elim (fun h=>iR (iL h)) fun h=>(List.mem_append.mp h).elim (iL) fun h=>iR (iR h)
  refine does_use (C (heads ++ R) (fun p hp=>iR (Y.xr p hp)) (Gt.app (fun q hq p hp=>Ne.symm (hh p hp q (iL hq))) Y.gr)) b.B F b.X (News.of N perm) b.T b.k (hr d hd).1 (hr d hd).2 fun r n' tl h' tk' F' N' g z9=>?_
  refine byP fun _ q9=>?_
  obtain ⟨σ', η', e, hI, hE, hW, _, hP⟩:=z9
  refine q9 ?_
  subst e
  have g2:Gt (Hw k σ η ++ R) tl:=Gt.subl (fun p hp=>(List.mem_append.mp hp).elim (iL) fun h=>iR (iR h)) g
  refine ret _ _ _ _ F' (News.of N' fun p hp=>?_) (h r σ' η' tl (Y.call hI hE hW g2) hE hW (Gt.app (Gt.hwr hE fun q hq p hp=>hh q hq p (iL hp)) (Gt.app (fun q hq p hp=>hh q hq p (iR hp)) (Gt.subl (fun p hp=>iR (iL hp)) g))) (Gt.subl (fun p hp=>iR hp) g2) hP)
  rw [List.append_assoc, List.append_assoc]
  exact perm p hp
end
noncomputable abbrev rowL (rs:List Ro) (q:Nat):Obj:=listOf (rs.map fun r=>Value.ref r.ra).toArray q
noncomputable abbrev aT (lR zd:Addr) (rs:List Ro):List Nat:=(lR:Nat) :: zd :: aE rs
noncomputable abbrev tab (zd:Addr) (ro:Obj) (rs:List Ro):Led:=(zd, ro) :: ents rs
noncomputable abbrev cel4 (L:Addr) (o1 o2 o3 o4:Obj):Led:=[(L + 1 + 1 + 1 + 1, o1), (L + 1 + 1 + 1, o2), (L + 1 + 1, o3), (L + 1, o4)]
structure Tb (w:World) (c:Wc) (da:List Addr) (th:Th) (σ0:Ws) (η0:Hs) (X rest C:Led) (lR zd ta td:Addr) (es3:List DictEntry) (σ:Ws) (η:Hs) (T R:Led) (rs:List Ro) (ro:Obj):Prop where
  y:Hy w c da σ0 η0 X rest σ η T R
  gc:Gt C (Hw c σ η ++ R)
  nd:(aT lR zd rs).Nodup
  ap:Ap (aT lR zd rs) (C ++ (Hw c σ η ++ R))
  ro:RowsOf w ro (xsOf th rs)
  rk:RsOk th (X ++ T) rs
  mta:(ta, instObj 120 td) ∈ R
  mtd:(td, dictOf es3 8) ∈ R
theorem Ap.l {as:List Nat} {l k:Led} (h:Ap as (l ++ k)):Ap as l:=fun b hb p hp=>h b hb p (iL hp)
theorem Ap.r {as:List Nat} {l k:Led} (h:Ap as (l ++ k)):Ap as k:=fun b hb p hp=>h b hb p (iR hp)
theorem aT_mem {lR zd:Addr} {rs:List Ro} {ro pl:Obj} {l:Led} (s:∀ p ∈ (lR, pl) :: tab zd ro rs, p ∈ l):∀ a ∈ aT lR zd rs, ∃ o, ((a:Addr), o) ∈ l:=fun a ha=>by
  rcases List.mem_cons.mp ha with rfl | ha
  · exact ⟨_, s _ (.head _)⟩
  rcases List.mem_cons.mp ha with rfl | ha
  · exact ⟨_, s _ (.tail _ (.head _))⟩
  · obtain ⟨q, hq, rfl⟩:=List.mem_map.mp ha
    exact ⟨q.2, s _ (.tail _ (.tail _ hq))⟩
theorem Ap.lay {as:List Nat} {l t:Led} (m:∀ a ∈ as, ∃ o, ((a:Addr), o) ∈ l) (g:Gt l t):Ap as t:=fun a ha p hp=>by
  obtain ⟨o, ho⟩:=m a ha
  exact Ne.symm (g _ ho p hp)
section
variable {w:World} {c:Wc} {da:List Addr} {th:Th} {σ0:Ws} {η0:Hs} {X rest C:Led} {lR zd ta td:Addr} {es3:List DictEntry} {σ σ':Ws} {η η':Hs} {T R:Led} {rs:List Ro} {ro:Obj}
theorem Tb.sx (B:Tb w c da th σ0 η0 X rest C lR zd ta td es3 σ η T R rs ro):∀ p ∈ X ++ T, p ∈ R:=B.y.xr
theorem Tb.cel {L:Addr} {o1 o2 o3 o4 o1' o2':Obj} (B:Tb w c da th σ0 η0 X rest (cel4 L o1 o2 o3 o4) lR zd ta td es3 σ η T R rs ro):Tb w c da th σ0 η0 X rest (cel4 L o1' o2' o3 o4) lR zd ta td es3 σ η T R rs ro :=
  have s:∀ p ∈ cel4 L o1' o2' o3 o4, ∃ o, (p.1, o) ∈ cel4 L o1 o2 o3 o4:=all_more ⟨o1, .head _⟩ (all_more ⟨o2, .tail _ (.head _)⟩ fun p hp=>⟨p.2, .tail _ (.tail _ hp)⟩)
  { B with gc:=Gt.subA s B.gc
           ap:=(B.ap.l.subA s).app B.ap.r }
theorem Tb.off4 {L:Addr} {o1 o2 o3 o4 pl:Obj} (B:Tb w c da th σ0 η0 X rest (cel4 L o1 o2 o3 o4) lR zd ta td es3 σ η T R rs ro):∀ p ∈ tab zd ro rs ++ ([(L + 1 + 1 + 1, o2), (L + 1 + 1, o3), (L + 1, o4), (lR, pl)] ++ (Hw c σ η ++ R)), @Ne Nat p.1 (L + 1 + 1 + 1 + 1):=by
  have h:∀ a ∈ aT lR zd rs, @Ne Nat a (L + 1 + 1 + 1 + 1):=fun a ha=>Ne.symm (B.ap a ha _ (.head _))
  refine all_app (all_more (h _ (.tail _ (.head _))) fun p hp=>h _ (.tail _ (.tail _ (List.mem_map.mpr ⟨p, hp, rfl⟩)))) (all_more (Nat.ne_of_lt (Nat.lt_succ_self _)) (all_more (Nat.ne_of_lt (Nat.lt_succ_of_lt (Nat.lt_succ_self _))) (all_more (Nat.ne_of_lt (Nat.lt_succ_of_lt (Nat.lt_succ_of_lt (Nat.lt_succ_self _)))) (all_more (h _ (.head _)) fun p hp=>Ne.symm (B.gc _ (.head _) p hp)))))
theorem Tb.off3 {L:Addr} {o1 o2 o3 o4 pl:Obj} (B:Tb w c da th σ0 η0 X rest (cel4 L o1 o2 o3 o4) lR zd ta td es3 σ η T R rs ro):∀ p ∈ tab zd ro rs ++ ([(L + 1 + 1 + 1 + 1, o1), (L + 1 + 1, o3), (L + 1, o4), (lR, pl)] ++ (Hw c σ η ++ R)), @Ne Nat p.1 (L + 1 + 1 + 1):=by
  have h:∀ a ∈ aT lR zd rs, @Ne Nat a (L + 1 + 1 + 1):=fun a ha=>Ne.symm (B.ap a ha _ (.tail _ (.head _)))
  refine all_app (all_more (h _ (.tail _ (.head _))) fun p hp=>h _ (.tail _ (.tail _ (List.mem_map.mpr ⟨p, hp, rfl⟩)))) (all_more (Nat.ne_of_gt (Nat.lt_succ_self _)) (all_more (Nat.ne_of_lt (Nat.lt_succ_self _)) (all_more (Nat.ne_of_lt (Nat.lt_succ_of_lt (Nat.lt_succ_self _))) (all_more (h _ (.head _)) fun p hp=>Ne.symm (B.gc _ (.tail _ (.head _)) p hp)))))
structure Tl (L lR zd:Addr) (ro:Obj) (rs:List Ro) (o1 o2 o3 o4:Obj) (q:Nat) (H n:Led):Prop where
  t:∀ p ∈ tab zd ro rs, p ∈ n
  c4:(L + 1 + 1 + 1 + 1, o1) ∈ n
  c3:(L + 1 + 1 + 1, o2) ∈ n
  c2:(L + 1 + 1, o3) ∈ n
  c1:(L + 1, o4) ∈ n
  l:(lR, rowL rs q) ∈ n
  h:∀ p ∈ H, p ∈ n
theorem Tb.nil {z:Obj} {lo:Led} (Y2:Hy w c da σ0 η0 X rest σ η T R) (Y3:Hy w c da σ0 η0 X rest σ' η (T ++ (zd, z) :: (ta, instObj 120 td) :: (td, dictOf es3 8) :: []) (R ++ (zd, z) :: (ta, instObj 120 td) :: (td, dictOf es3 8) :: [])) (hk:σ'.kvs = σ.kvs) (hn:σ.num ≤ σ'.num) (g:Gt R ((zd, z) :: (ta, instObj 120 td) :: (td, dictOf es3 8) :: []))
    (gC:Gt C (Hw c σ' η ++ (R ++ (zd, z) :: (ta, instObj 120 td) :: (td, dictOf es3 8) :: []))) (hz:z.IsDictOf (strKind PR w) []) (hr:has "rows" es3 (.ref zd)) (fn:∀ a o o', (a, o) ∈ lo → (a, o') ∈ lo → o = o') (s:∀ p ∈ Hw c σ' η ++ (R ++ (zd, z) :: (ta, instObj 120 td) :: (td, dictOf es3 8) :: []), p ∈ lo)
    (l:∀ p ∈ C ++ (Hw c σ' η ++ (R ++ (zd, z) :: (ta, instObj 120 td) :: (td, dictOf es3 8) :: [])), p.1 < lR):Tb w c da th σ0 η0 X rest C lR zd ta td es3 σ' η (T ++ [(ta, instObj 120 td), (td, dictOf es3 8)]) (R ++ [(ta, instObj 120 td), (td, dictOf es3 8)]) [] z:=by
  have st:∀ {A:Led}, ∀ p ∈ A ++ [(ta, instObj 120 td), (td, dictOf es3 8)], p ∈ A ++ (zd, z) :: [(ta, instObj 120 td), (td, dictOf es3 8)]:=fun p hp=>(List.mem_append.mp hp).elim (iL) fun h=>iR (.tail _ h)
  have sH:∀ p ∈ C ++ (Hw c σ' η ++ (R ++ [(ta, instObj 120 td), (td, dictOf es3 8)])), p ∈ C ++ (Hw c σ' η ++ (R ++ (zd, z) :: [(ta, instObj 120 td), (td, dictOf es3 8)])):=all_app (fun p hp=>iL hp) (all_app (fun p hp=>iR (iL hp)) fun p hp=>iR (iR (st p hp)))
  have mz:∀ {A B:Led}, (zd, z) ∈ A ++ (B ++ (zd, z) :: [(ta, instObj 120 td), (td, dictOf es3 8)]):=iR (iR (.head _))
  have zl:(zd, z) ∈ lo:=s _ (iR (iR (.head _)))
  have nz:∀ p ∈ C ++ (Hw c σ' η ++ (R ++ [(ta, instObj 120 td), (td, dictOf es3 8)])), @Ne Nat p.1 zd:=by
    refine all_app (fun p hp=>gC p hp _ mz) (all_app (fun p hp=>Y3.gr p hp _ (iR (.head _))) (all_app (fun p hp=>g p hp _ (.head _)) (all_more (fun e=>?_) (all_one fun e=>?_))))
    · have e1:=fn zd _ _ zl (s (zd, instObj 120 td) (iR (iR (.tail _ (by have e':ta = zd:=e; rw [e']; exact .head _)))))
      refine byP fun _ q9=>?_
      obtain ⟨es', ep, h1, h2, _⟩:=hz
      refine q9 ?_
      rw [e1] at h2
      exact nomatch h2
    · have e1:=fn zd _ _ zl (s (zd, dictOf es3 8) (iR (iR (.tail _ (.tail _ (by have e':td = zd:=e; rw [e']; exact .head _))))))
      exact dict_nil_ne hz e1 hr
  exact { y:=Y2.drop Y3 hk hn
          gc:=Gt.subR gC (all_app (fun p hp=>iL hp) fun p hp=>iR (st p hp))
          nd:=List.nodup_cons.mpr ⟨fun h=>Nat.lt_irrefl _ (List.mem_singleton.mp (show (lR:Nat) ∈ [(zd:Nat)] from h) ▸ l _ (iR mz)), List.nodup_cons.mpr ⟨List.not_mem_nil, List.nodup_nil⟩⟩
          ap:=Ap.cons (fun p hp=>Nat.ne_of_lt (l p (sH p hp))) (Ap.cons nz Ap.nil)
          ro:=RowsOf.nil hz
          rk:=RsOk.nil
          mta:=iR (.head _)
          mtd:=iR (.tail _ (.head _)) }
theorem Tb.call {tl HH:Led} {q:Nat} (B:Tb w c da th σ0 η0 X rest C lR zd ta td es3 σ η T R rs ro) (Y:Hy w c da σ0 η0 X rest σ' η' (T ++ tl) (R ++ tl)) (s:∀ p ∈ C ++ ((lR, rowL rs q) :: tab zd ro rs), p ∈ HH) (g:Gt HH (Hw c σ' η' ++ (R ++ tl))):Tb w c da th σ0 η0 X rest C lR zd ta td es3 σ' η' (T ++ tl) (R ++ tl) rs ro where
  y:=Y
  gc:=Gt.subl (fun p hp=>s p (iL hp)) g
  nd:=B.nd
  ap:=(B.ap.l).app (Ap.lay (aT_mem fun p hp=>s p (iR hp)) g)
  ro:=B.ro
  rk:=B.rk.mono fun p hp=>(List.mem_append.mp hp).elim (iL) fun h=>iR (iL h)
  mta:=iL B.mta
  mtd:=iL B.mtd
theorem Tb.new {t2:Led} {p:Pl} {pv key:Value} {ra la ka:Addr} {i j q:Nat} {t:Tok} {ro':Obj} {l:Led} (B:Tb w c da th σ0 η0 X rest C lR zd ta td es3 σ η T R rs ro) (hR:RowsOf w ro' (xsOf th rs ++ [(p.cd th, ka, .ref la)])) (hka:DatIn t2 (.ref ka) (p.cd th).dat)
    (s:∀ p ∈ C ++ (((lR, rowL rs q) :: tab zd ro rs) ++ (Hw c σ η ++ R)), p ∈ l) (g:Gt l ((la, listOf [key, .int (i:Int) t].toArray j) :: t2)) (nla:∀ q ∈ t2, @Ne Nat q.1 la)
    (lr:∀ a ∈ aT lR zd rs, a ≠ (ra:Nat)) (lr2:∀ p ∈ C ++ (Hw c σ η ++ (R ++ t2)), p.1 ≠ ra) (lr3:@Ne Nat la ra) (hv:VIn th (X ++ T) key p) (hd:DatIn (X ++ T) pv p.dat) (hok:p.Ok) (hdep:p.dep ≤ 2) (hno:∀ r ∈ rs, r.p ≠ p) :
    Tb w c da th σ0 η0 X rest C lR zd ta td es3 σ η (T ++ t2) (R ++ t2) (rs ++ [⟨p, pv, ra, ka, la, key, i, t, t, j, 0⟩]) ro':=by
  have g2:Gt l t2:=fun q hq z hz=>g q hq z (.tail _ hz)
  have gt:∀ {k:Led}, (∀ p ∈ k, p ∈ l) → Gt k t2:=fun h=>Gt.subl h g2
  have gl:∀ {k:Led}, (∀ p ∈ k, p ∈ l) → ∀ p ∈ k, p.1 ≠ la:=fun h p hp=>g p (h p hp) _ (.head _)
  have sC:∀ p ∈ C, p ∈ l:=fun p hp=>s p (iL hp)
  have sH:∀ p ∈ Hw c σ η ++ R, p ∈ l:=fun p hp=>s p (iR (iR hp))
  have sT:∀ p ∈ (lR, rowL rs q) :: tab zd ro rs, p ∈ l:=fun p hp=>s p (iR (iL hp))
  have sub:∀ p ∈ X ++ T, p ∈ X ++ (T ++ t2):=fun p hp=>(List.mem_append.mp hp).elim (iL) fun h=>iR (iL h)
  have ma:=aT_mem sT
  refine ⟨B.y.lay (gt sH), ?_, ?_, ?_, ?_, (B.rk.mono sub).snoc hok hdep hno (hv.mono sub) (hd.mono sub) (hka.mono fun p hp=>iR (iR hp)), iL B.mta, iL B.mtd⟩
  · rw [← List.append_assoc]; exact Gt.app B.gc (gt sC)
  · show (aT lR zd _).Nodup
    rw [aT, aE_new]
    refine nod_snoc B.nd (fun a ha=>?_) lr lr3
    obtain ⟨o, ho⟩:=ma a ha
    exact g _ ho _ (.head _)
  · rw [aT, aE_new]
    intro a ha z hz
    rcases List.mem_append.mp (show a ∈ aT lR zd rs ++ [(la:Nat), ra] from ha) with ha | ha
    · rw [← List.append_assoc, ← List.append_assoc, List.append_assoc C] at hz
      rcases List.mem_append.mp hz with hz | hz
      · exact B.ap a ha z hz
      · exact (Ap.lay ma g2) a ha z hz
    · rcases List.mem_cons.mp ha with rfl | ha
      · rw [← List.append_assoc, ← List.append_assoc, List.append_assoc C] at hz
        rcases List.mem_append.mp hz with hz | hz
        · exact gl (all_app sC sH) z hz
        · exact nla z hz
      · rw [List.mem_singleton.mp ha]; exact lr2 z hz
  · rw [xs_app]; exact hR
theorem Tb.old {A D:List Ro} {r:Ro} {tl:Led} {i n k:Nat} {t u:Tok} {l:Led} {q:Nat} (B:Tb w c da th σ0 η0 X rest C lR zd ta td es3 σ η T R rs ro) (e:rs = A ++ r :: D) (s:∀ p ∈ C ++ (((lR, rowL rs q) :: tab zd ro rs) ++ (Hw c σ η ++ R)), p ∈ l) (g:Gt l tl) :
    Tb w c da th σ0 η0 X rest C lR zd ta td es3 σ η (T ++ tl) (R ++ tl) (A ++ r.set i t u n k :: D) ro:=by
  have ea:aE (A ++ r.set i t u n k :: D) = aE rs:=by rw [aE_set, e]
  have sub:∀ p ∈ X ++ T, p ∈ X ++ (T ++ tl):=fun p hp=>(List.mem_append.mp hp).elim (iL) fun h=>iR (iL h)
  refine ⟨B.y.lay (Gt.subl (fun p hp=>s p (iR (iR hp))) g), ?_, by rw [aT, ea]; exact B.nd, ?_, by rw [xs_set, ← e]; exact B.ro, RsOk.set (by rw [← e]; exact B.rk.mono sub), iL B.mta, iL B.mtd⟩
  · rw [← List.append_assoc]; exact Gt.app B.gc (Gt.subl (fun p hp=>s p (iL hp)) g)
  · rw [aT, ea, ← List.append_assoc, ← List.append_assoc, List.append_assoc C]
    exact B.ap.app (Ap.lay (aT_mem fun p hp=>s p (iR (iL hp))) g)
theorem tab_mem {q:Addr × Obj} (h:q ∈ tab zd ro rs):(q.1:Nat) ∈ (zd:Nat) :: aE rs:=(List.mem_cons.mp h).elim (fun e=>e ▸ .head _) fun h=>.tail _ (List.mem_map.mpr ⟨q, h, rfl⟩)
theorem Tb.gt {heads:Led} {pl:Obj} (B:Tb w c da th σ0 η0 X rest C lR zd ta td es3 σ η T R rs ro) (off:Gt heads (Hw c σ η ++ R)):Gt (tab zd ro rs ++ (heads ++ (C ++ [(lR, pl)]))) (Hw c σ η ++ R) :=
  Gt.appl (fun q hq p hp=>Ne.symm (B.ap q.1 (.tail _ (tab_mem hq)) p (iR hp))) (Gt.appl off (Gt.appl B.gc fun q hq p hp=>by rw [List.mem_singleton.mp hq]; exact Ne.symm (B.ap _ (.head _) p (iR hp))))
theorem Tb.apT {heads:Led} {pl:Obj} (B:Tb w c da th σ0 η0 X rest C lR zd ta td es3 σ η T R rs ro) (off:∀ q ∈ heads, ∀ p ∈ tab zd ro rs, (p.1:Nat) ≠ q.1):Ap ((zd:Nat) :: aE rs) ((heads ++ (C ++ [(lR, pl)])) ++ (Hw c σ η ++ R)):=fun a ha p hp=>by
  refine byP fun _ q9=>?_
  obtain ⟨x, hx, e⟩:∃ x ∈ tab zd ro rs, (x.1:Nat) = a:=(List.mem_cons.mp ha).elim (fun e=>⟨_, .head _, e.symm⟩) fun h=>(List.mem_map.mp h).elim fun x hx=>⟨x, .tail _ hx.1, hx.2⟩
  refine q9 ?_
  rcases List.mem_append.mp hp with hp | hp
  · rcases List.mem_append.mp hp with hp | hp
    · rw [← e]; exact Ne.symm (off p hp x hx)
    · rcases List.mem_append.mp hp with hp | hp
      · exact B.ap a (.tail _ ha) p (iL hp)
      · rw [List.mem_singleton.mp hp]; exact fun h=>(List.nodup_cons.mp B.nd).1 ((show (lR:Nat) = a from h) ▸ ha)
  · exact B.ap a (.tail _ ha) p (iR hp)
theorem Tb.offL {heads:Led} (B:Tb w c da th σ0 η0 X rest C lR zd ta td es3 σ η T R rs ro) (off:∀ q ∈ heads, @Ne Nat q.1 lR):∀ p ∈ heads ++ (tab zd ro rs ++ (C ++ (Hw c σ η ++ R))), p.1 ≠ lR :=
  all_app off (all_app (fun p hp e=>(List.nodup_cons.mp B.nd).1 ((show (p.1:Nat) = lR from e) ▸ tab_mem hp)) fun p hp=>B.ap _ (.head _) p hp)
theorem ents_mid {A D:List Ro} {r:Ro}:ents (A ++ r :: D) = ents A ++ ((r.la, listOf [r.key, .int (r.i:Int) r.t].toArray r.n) :: (r.ra, listOf [r.pv, .int (r.i:Int) r.u].toArray r.k) :: ents D):=by rw [ents_app, ents_cons]; rfl
theorem Tb.offR {A D:List Ro} {r:Ro} {heads:Led} {la':Obj} (B:Tb w c da th σ0 η0 X rest C lR zd ta td es3 σ η T R rs ro) (e:rs = A ++ r :: D) (off:∀ q ∈ heads, @Ne Nat q.1 r.ra):∀ p ∈ heads ++ (((zd, ro) :: (ents A ++ ((r.la, la') :: ents D))) ++ (C ++ (Hw c σ η ++ R))), p.1 ≠ r.ra:=by
  have ea:aE rs = (aE A ++ [(r.la:Nat)]) ++ (r.ra:Nat) :: aE D:=by rw [e, aE, ents_mid]; simp [aE]
  have nd:(((zd:Nat) :: (aE A ++ [(r.la:Nat)])) ++ (r.ra:Nat) :: aE D).Nodup:=by
    have h:=(List.nodup_cons.mp B.nd).2
    rw [ea] at h
    exact h
  refine all_app off (all_app (off_midL nd (all_more (.inl (.head _)) (all_app (fun p hp=>.inl (.tail _ (iL (List.mem_map.mpr ⟨p, hp, rfl⟩)))) (all_more (.inl (.tail _ (iR (.head _)))) fun p hp=>.inr (List.mem_map.mpr ⟨p, hp, rfl⟩))))) fun p hp=>B.ap _ (.tail _ (.tail _ (by rw [ea]; exact iR (.head _)))) p hp)
theorem get_mid {A D:List Ro} {r:Ro}:(A ++ r :: D)[A.length]? = some r:=by simp
theorem aE_ra {A D:List Ro} {r:Ro}:(r.ra:Nat) ∈ aE (A ++ r :: D):=by
  rw [aE, ents_mid, List.map_append]
  exact iR (.tail _ (.head _))
theorem Tb.neR {A D:List Ro} {r:Ro} (B:Tb w c da th σ0 η0 X rest C lR zd ta td es3 σ η T R rs ro) (e:rs = A ++ r :: D):@Ne Nat lR r.ra:=fun h=>(List.nodup_cons.mp B.nd).1 (h ▸ .tail _ (by rw [e]; exact aE_ra))
inductive PutR (th:Th) (w:World) (zd:Addr) (ro:Obj) (rs:List Ro) (TL:Led) (p:Pl) (key:Value) (i:Int) (ti:Tok) (n' tl:Led):Prop
  | new {ro':Obj} {ka la:Addr} {t2:Led} (e:n' = (zd, ro') :: (ents rs ++ TL)) (hR:RowsOf w ro' (xsOf th rs ++ [(p.cd th, ka, .ref la)])) (hk:DatIn t2 (.ref ka) (p.cd th).dat) (e2:tl = (la, listOf [key, .int i ti].toArray 0) :: t2) (hn:∀ q ∈ t2, @Ne Nat q.1 la) (hno:∀ r ∈ rs, r.p ≠ p)
  | old {A:List Ro} {r:Ro} {B:List Ro} {n9:Nat} (e:rs = A ++ r :: B) (hp:r.p = p) (e2:n' = (zd, ro) :: (ents A ++ ((r.la, listOf [r.key, .int i ti].toArray n9) :: (r.ra, listOf [r.pv, .int (r.i:Int) r.u].toArray r.k) :: (ents B ++ TL))))
theorem PutR.mem {TL n' tl:Led} {p:Pl} {key:Value} {i:Int} {ti:Tok} (h:PutR th w zd ro rs TL p key i ti n' tl):(∀ x ∈ TL, x ∈ n' ++ tl) ∧ ∀ r ∈ rs, (r.ra, listOf [r.pv, .int (r.i:Int) r.u].toArray r.k) ∈ n' ++ tl:=by
  cases h with
  | new e _ _ _ _ _=>subst e; exact ⟨fun x hx=>iL (.tail _ (iR hx)), fun r hr=>iL (.tail _ (iL (ent_ra hr)))⟩
  | old e _ e2 =>
    subst e2
    refine ⟨fun x hx=>iL (.tail _ (iR (.tail _ (.tail _ (iR hx))))), fun r' hr=>iL (.tail _ ?_)⟩
    rw [e] at hr
    rcases List.mem_append.mp hr with hr | hr
    · exact iL (ent_ra hr)
    · rcases List.mem_cons.mp hr with rfl | hr
      · exact iR (.tail _ (.head _))
      · exact iR (.tail _ (.tail _ (iL (ent_ra hr))))
theorem put_res {mx:Mx} {p:Pl} {zd ta td:Addr} {TL:Led} {es3:List DictEntry} {n3:Nat} {key:Value} {i:Int} {ti:Tok} (hA:th.Apart) (hok:p.Ok) (hdep:p.dep ≤ 2)
    (mta:(ta, instObj 120 td) ∈ TL) (mtd:(td, dictOf es3 n3) ∈ TL) (hr3:has "rows" es3 (.ref zd)) (lo3:(zd == sysModules) = false) (RO:RowsOf w ro (xsOf th rs)) (RK:RsOk th X rs) (hX:∀ q ∈ X, q ∈ TL) (hl5:rs.length ≤ 4)
    (C:CV w mx TL key 94 (p.cd th)) (nd:((zd:Nat) :: aE rs).Nodup) (hAp:Ap ((zd:Nat) :: aE rs) TL) :
    Does w mx 105 98 [.ref ta, key, .int i ti] ((zd, ro) :: (ents rs ++ TL)) (fun v n' tl=>v = .none ∧ PutR th w zd ro rs TL p key i ti n' tl):=by
  refine does_gt (put_any (FR:=[]) hA hok hdep mta mtd hr3 lo3 RO RK hX hl5 C nd hAp) fun v n' tl hR _=>?_
  obtain ⟨e, ⟨ro', ka, la, t2, e2, h1, h2, h3, h4, h5⟩ | ⟨A, r, B, n9, h1, h2, _, h4⟩⟩:=hR
  · exact ⟨e, .new e2 h1 h2 h3 h4 h5⟩
  · exact ⟨e, .old h1 h2 h4⟩
theorem Tb.lay {tl l:Led} {q:Nat} (B:Tb w c da th σ0 η0 X rest C lR zd ta td es3 σ η T R rs ro) (s:∀ p ∈ C ++ (((lR, rowL rs q) :: tab zd ro rs) ++ (Hw c σ η ++ R)), p ∈ l) (g:Gt l tl):Tb w c da th σ0 η0 X rest C lR zd ta td es3 σ η (T ++ tl) (R ++ tl) rs ro:=by
  refine ⟨B.y.lay (Gt.subl (fun p hp=>s p (iR (iR hp))) g), ?_, B.nd, ?_, B.ro, B.rk.mono fun p hp=>(List.mem_append.mp hp).elim (iL) fun h=>iR (iL h), iL B.mta, iL B.mtd⟩
  · rw [← List.append_assoc]; exact Gt.app B.gc (Gt.subl (fun p hp=>s p (iL hp)) g)
  · rw [← List.append_assoc, ← List.append_assoc, List.append_assoc C]
    exact B.ap.app (Ap.lay (aT_mem fun p hp=>s p (iR (iL hp))) g)
inductive TK2 (w:World) (c:Wc) (da:List Addr) (th:Th) (σ0:Ws) (η0:Hs) (X rest:Led) (L lR zd ta td:Addr) (es3:List DictEntry) (o2 o3 o4:Obj) (rs:List Ro) (ro:Obj) (q:Nat) (m:Fm) (n:Led):Prop
  | mk {σ:Ws} {η:Hs} {T R:Led} {o1:Obj} {v1:Option Value} (B:Tb w c da th σ0 η0 X rest (cel4 L o1 o2 o3 o4) lR zd ta td es3 σ η T R rs ro) (d1:o1.data = .cell v1) (jm:m.lookup (ofString "table") = some (.ref ta))
    (s:∀ p ∈ tab zd ro rs ++ ((cel4 L o1 o2 o3 o4 ++ [(lR, rowL rs q)]) ++ (Hw c σ η ++ R)), p ∈ n):TK2 w c da th σ0 η0 X rest L lR zd ta td es3 o2 o3 o4 rs ro q m n
inductive TC4 (w:World) (c:Wc) (da:List Addr) (th:Th) (σ0:Ws) (η0:Hs) (X rest:Led) (L lR zd ta td:Addr) (es3:List DictEntry) (o1 o2 o3 o4:Obj) (rs:List Ro) (ro:Obj) (q:Nat) (D:Addr) (us:List Value) (ds:List Dat) (vs:List Value) (cs:List Dat) (n:Led):Prop
  | mk {σ:Ws} {η:Hs} {T R:Led} (B:Tb w c da th σ0 η0 X rest (cel4 L o1 o2 o3 o4) lR zd ta td es3 σ η T R rs ro) (hu:DatAll T us ds) (hv:DatAll T vs cs) (gD:Gt [(D, LCg.lst us)] (Hw c σ η ++ R))
    (s:∀ p ∈ tab zd ro rs ++ ([(D, LCg.lst us)] ++ ((cel4 L o1 o2 o3 o4 ++ [(lR, rowL rs q)]) ++ (Hw c σ η ++ R))), p ∈ n):TC4 w c da th σ0 η0 X rest L lR zd ta td es3 o1 o2 o3 o4 rs ro q D us ds vs cs n
end
theorem isi_120_TableThing {w mx} {l:Led} {a d:Addr} {es:List DictEntry} {k:Nat} (h1:(a, instObj 120 d) ∈ l) (h2:(d, dictOf es k) ∈ l):Isi w mx l (.ref a) (ofString "TableThing") true:=by
  refine ⟨_, .inl (by k_is), rfl, fun c m n P hs h=>?_⟩
  replace h1:=hs _ h1
  replace h2:=hs _ h2
  refine' Tv.leaf ?_; intro _ _ _ _ F N _ _ r; walk1; exact r _ _ _ _ F N h
inductive TJ2 (w:World) (c:Wc) (da:List Addr) (th:Th) (σ0:Ws) (η0:Hs) (X rest:Led) (L lR zd ta td:Addr) (es3:List DictEntry) (o2 o3 o4:Obj) (i:Nat) (m:Fm) (n:Led):Prop
  | mk {σ:Ws} {η:Hs} {T R:Led} {rs:List Ro} {ro:Obj} {q:Nat} {o1:Obj} {v1:Option Value} (B:Tb w c da th σ0 η0 X rest (cel4 L o1 o2 o3 o4) lR zd ta td es3 σ η T R rs ro) (hl:rs.length ≤ i) (d1:o1.data = .cell v1) (jm:m.lookup (ofString "table") = some (.ref ta))
    (s:∀ p ∈ tab zd ro rs ++ ((cel4 L o1 o2 o3 o4 ++ [(lR, rowL rs q)]) ++ (Hw c σ η ++ R)), p ∈ n):TJ2 w c da th σ0 η0 X rest L lR zd ta td es3 o2 o3 o4 i m n
theorem table_right_ok {w mx} {c:Wc} {da:List Addr} {σo:Ws} {ηo:Hs} {X:Led} {th:Th} {δ:Int → Addr} {pl lt:Addr} {npl nlt:Nat} {pvs:List Value} (hH:HI w c da σo ηo X) (hT:ThH th δ da ηo X) (hpl:(pl, listOf pvs.toArray npl) ∈ X) (hlt:(lt, listOf [.ref th.a0, .ref th.a1, .ref th.a2].toArray nlt) ∈ X)
    (hps:∀ v ∈ pvs, ∃ p:Pl, DatIn X v p.dat ∧ p.Ok ∧ p.dep ≤ 2) (hnp:pvs.length ≤ 5):HWR w mx c da σo ηo X 728 200 [.ref c.wa, .ref pl, .ref lt] (fun r σ' η' tl=>r = .bool true):=fun rest hs hg=>by
  k_dflt (refine' doesR_enterC (binds:=[(ofString "world", .ref c.wa), (ofString "plans", .ref pl), (ofString "things", .ref lt)]) (bm:=[(ofString "plans", .ref pl)]) ?h1 ?h2 ?h3 ?h4 ?hn ?h5 ?h6 ?h7 ?h9 ?hb ?_; (case h1=>k_is); (case h2=>k_is); (case h3=>exact fun s X=>BindsTo.of_eq rfl); (case h4=>exact rfl); (case hn=>decide +kernel); (case h5=>exact rfl); (case h6=>exact rfl); (case h7=>exact rfl); (case h9=>decide); (case hb=>exact rfl); intro b m cells hm hcp hcs hcl hY hlt9 hr hgd)
  refine byP fun _ q9=>?_
  obtain ⟨o1, o2, o3, o4, rfl, d1, d2, d3, d4⟩:=CellsAre.four hY
  refine q9 ?_
  clear hY
  have ew:∀ {m' l p a1 a2 a3}, Ev b m' (cel4 b.L a1 a2 a3 o4 ++ l) (.Name (ofString "world") p) (.ref c.wa):=fun {m' l p a1 a2 a3}=>Ev.cell (by rw [hcl]; rfl) (.tail _ (.tail _ (.tail _ (.head _)))) d4 Kx rfl
  have hh:Gt (cel4 b.L o1 o2 o3 o4) (Hw c σo ηo ++ rest):=fun q hq p hp=>by
    have h2:@LT.lt Nat _ p.1 b.L:=hlt9 p hp
    have h3:@LT.lt Nat _ b.L q.1:=by
      simp only [cel4, List.mem_cons, List.not_mem_nil, or_false] at hq
      rcases hq with rfl | rfl | rfl | rfl <;> (dsimp only; lia)
    exact Nat.ne_of_gt (Nat.lt_trans h2 h3)
  have Y:=Hy.start hH hs hg
  refine Ts.tup2C hcp (C:=b.L + 1 + 1 + 1) (Tv.tup (Tv.args1 (Tv.hmx (heads:=cel4 b.L o1 o2 o3 o4) ew wm_thing Y.hi.inv.ok.n_thing (by k_is) (Tv.args1 (Tv.hbt ew Y hh hr (by decide +kernel) (fun b2 σ2 tl2 Y2 W2 g2 hv2=>Tv.args0 (Tv.hyg (hw_of_wc Y2.hi (thing_hash Y2.hi.inv hv2)) Y2 g2 hr (fun r3 σ3 η3 tl3 Y3 E3 W3 g3 g4 ⟨ee, ta, td, zd, oz, es3, e3, et3, hF3, hn3, hk3, hr3, lo3, hz3, hp3, hw3, hq3⟩=>Tv.fn fun fn=>?_) (by decide))) (by decide) rfl) rfl) rfl rfl rfl) rfl)) Kx Kx (by rw [hcl]; rfl) rfl ?hw
  case hw=>show swappedStores _ _ (envX b.cn b.cs b.L b.a b.ccd b.cl) = _; rw [hcs, hcl]; rfl
  subst ee
  subst e3
  subst et3
  refine Tv.args1 (Tv.listx (Tv.args0 (Tv.list (fun lR lR9=>?_) (Nat.le_of_ble_eq_true rfl)))) rfl
  have B0:Tb w c da th σo η3 X rest (cel4 b.L o1 o2 o3 o4) lR zd ta td es3 σ3 η3 (([] ++ tl2) ++ [(ta, instObj 120 td), (td, dictOf es3 8)]) ((rest ++ tl2) ++ [(ta, instObj 120 td), (td, dictOf es3 8)]) [] oz:=Tb.nil Y2 Y3 hk3 (by rw [hn3]; exact Int.le_add_of_nonneg_right (by decide)) g4 g3 hz3 hr3 fn (fun p hp=>iR hp) lR9
  refine Tv.args0 (Tv.tuple (fun D D9=>⟨D, _, _, 0, rfl, .head _, ⟨o2, tab zd oz [] ++ ([(b.L + 1 + 1 + 1 + 1, o1), (b.L + 1 + 1, o3), (b.L + 1, o4), (lR, rowL [] 0)] ++ (Hw c σ3 η3 ++ ((rest ++ tl2) ++ [(ta, instObj 120 td), (td, dictOf es3 8)]))), ?s1, ⟨_, d2⟩, ?s2, fun o' d2' m1 hm1=>Ts.rek (tab zd oz [] ++ ((cel4 b.L o1 o' o3 o4 ++ [(lR, rowL [] 0)]) ++ (Hw c σ3 η3 ++ ((rest ++ tl2) ++ [(ta, instObj 120 td), (td, dictOf es3 8)])))) ?s3 ?go⟩⟩) (Nat.le_of_ble_eq_true rfl))
  case s1 =>
    have st:∀ {A:Led}, ∀ p ∈ A ++ [(ta, instObj 120 td), (td, dictOf es3 8)], p ∈ A ++ [(zd, oz), (ta, instObj 120 td), (td, dictOf es3 8)]:=fun p hp=>(List.mem_append.mp hp).elim (iL) fun h=>iR (.tail _ h)
    refine all_more (.tail _ (.tail _ (.tail _ (.head _)))) (all_more (.tail _ (.tail _ (iR (iR (iR (.head _)))))) (all_more (.tail _ (.tail _ (.head _))) (all_more (.tail _ (.tail _ (.tail _ (.tail _ (.head _))))) (all_more (.tail _ (.tail _ (.tail _ (.tail _ (.tail _ (.head _)))))) (all_more (.tail _ (.head _)) (all_app (fun p hp=>absurd hp List.not_mem_nil) (all_app (fun p hp=>?_) (fun p hp=>?_))))))))
    · exact .tail _ (.tail _ (iR (iL hp)))
    · exact .tail _ (.tail _ (iR (iR (st p hp))))
  case s2=>exact B0.off3
  case s3=>exact all_more (.tail _ (.head _)) (all_more (.tail _ (.tail _ (.head _))) (all_more (.head _) fun p hp=>.tail _ (.tail _ (.tail _ hp))))
  have jp:m1.lookup (ofString "plans") = some (.ref pl):=by rw [hm1, hm]; rfl
  have jt:m1.lookup (ofString "table") = some (.ref ta):=by rw [hm1]; rfl
  have B1:=B0.cel (o1':=o1) (o2':=o')
  clear hm hm1 B0 D9 fn hh lR9 Y Y2 Y3 g2 g3 g4 hg hlt9 hv2 W2 W3 E3 ew hF3 hn3 hk3 hz3
  have ew:∀ {m' l p}, (b.L + 1, o4) ∈ l → Ev b m' l (.Name (ofString "world") p) (.ref c.wa):=fun h=>Ev.cell (by rw [hcl]; rfl) h d4 Kx rfl
  have eth:∀ {m' l p}, (b.L + 1 + 1, o3) ∈ l → Ev b m' l (.Name (ofString "things") p) (.ref lt):=fun h=>Ev.cell (by rw [hcl]; rfl) h d3 Kx rfl
  have er:∀ {m' l p}, (b.L + 1 + 1 + 1, o') ∈ l → Ev b m' l (.Name (ofString "rows") p) (.ref lR):=fun h=>Ev.cell (by rw [hcl]; rfl) h d2' Kx rfl
  have epl:∀ {m' l p o v}, o.data = .cell (some v) → (b.L + 1 + 1 + 1 + 1, o) ∈ l → Ev b m' l (.Name (ofString "plan") p) v:=fun d h=>Ev.cell (by rw [hcl]; rfl) h d Kx rfl
  have em:∀ {m' l p}, Ev b m' l (.Name (ofString "_law_made") p) (.ref 709):=by exact Ev.glob (by k_is) Kx rfl
  have et:∀ {m' l p}, m'.lookup (ofString "table") = some (.ref ta) → Ev b m' l (.Name (ofString "table") p) (.ref ta):=fun h=>Ev.name h Kx rfl
  refine Ts.forE (ax:=pl) (xs:=pvs) (q:=npl) (C:=b.L + 1 + 1 + 1 + 1) (J:=TJ2 w c da th σo η3 X rest b.L lR zd ta td es3 o' o3 o4) hcp (Ev.name jp Kx rfl) (.mk B1 (Nat.le_refl _) d1 jt fun _ h=>h) ⟨?hJ, ?step, ?fin⟩ Kx Kx (by rw [hcl]; rfl) Kx (by k_is) (fun _=>rfl)
  case hJ =>
    intro i m2 n2 z9
    refine byP fun _ q9=>?_
    obtain ⟨B, hl, d1, jm, s⟩:=z9
    refine q9 ?_
    exact s _ (iR (iR (iR (B.sx _ (iL hpl)))))
  case step =>
    intro i v t m2 n2 heads hv hJ off
    obtain @⟨σ, η, T, R, rs, ro, q, p1, v1, B, hl, e1, jm, s⟩:=hJ
    refine byP fun _ q9=>?_
    obtain ⟨p, hdat, hok, hdep⟩:=hps v (List.mem_of_getElem? hv)
    refine q9 ?_
    have off':=fun q hq p hp=>off q hq p (s p hp)
    refine ⟨p1, heads ++ (tab zd ro rs ++ ([(b.L + 1 + 1 + 1, o'), (b.L + 1 + 1, o3), (b.L + 1, o4), (lR, rowL rs q)] ++ (Hw c σ η ++ R))), ?w1, ⟨_, e1⟩, ?w2, fun p2 e2 m3 hm3=>Ts.rek ((tab zd ro rs ++ (heads ++ (cel4 b.L p2 o' o3 o4 ++ [(lR, rowL rs q)]))) ++ (Hw c σ η ++ R)) ?w3 ?w4⟩
    case w1=>exact all_more (iR (s _ (iR (.head _)))) (all_app (fun p hp=>iL hp) (all_app (fun p hp=>iR (s _ (iL hp))) fun p hp=>iR (s _ (iR (.tail _ hp)))))
    case w2=>exact all_app (fun q hq=>Ne.symm (off' q hq _ (iR (.head _)))) B.off4
    case w3=>exact all_app (all_app (fun p hp=>.tail _ (iR (iL hp))) (all_app (fun p hp=>.tail _ (iL hp)) (all_more (.head _) fun p hp=>.tail _ (iR (iR (iL hp)))))) fun p hp=>.tail _ (iR (iR (iR hp)))
    case w4 =>
    have ja:m3.lookup (ofString "at") = some (.int (i:Int) t):=by rw [hm3]; rfl
    have jt3:m3.lookup (ofString "table") = some (.ref ta):=by rw [hm3]; exact jm
    clear hm3 jm
    have B2:=B.cel (o1':=p2) (o2':=o')
    have oH:Gt heads (Hw c σ η ++ R):=fun q hq p hp=>Ne.symm (off' q hq p (iR (iR hp)))
    have mC:∀ {x:Addr × Obj} {H:Led}, x ∈ cel4 b.L p2 o' o3 o4 → x ∈ (tab zd ro rs ++ (heads ++ (cel4 b.L p2 o' o3 o4 ++ [(lR, rowL rs q)]))) ++ H:=fun h=>iL (iR (iR (iL h)))
    refine Ts.expr (Tv.meth (et jt3 _ (Tv.getm (iR (iR B2.mta)) (iR (iR B2.mtd)) ⟨by k_is, by k_is, by k_is⟩ hp3 (Tv.with1 (by k_is) (Tv.args1 (Tv.gcall em (by k_is) (Evs.cons (ew (mC (.tail _ (.tail _ (.tail _ (.head _)))))) (Evs.cons (epl e2 (mC (.head _))) (Evs.cons (eth (mC (.tail _ (.tail _ (.head _))))) Evs.nil rfl) rfl) rfl) (Tv.hyg (made_H B2.y.hi (hdat.mono fun _ h=>iL h) (iL hlt) hok hdep) B2.y (B2.gt oH) hr (fun r σ' η' tl Y' hE hW g' gR ⟨_, hV⟩=>Tv.args1 (Ev.name ja Kx rfl _ (Tv.args0 ?_)) rfl) (by decide)) rfl rfl) rfl) rfl rfl))) rfl) hcp rfl
    have B3:=B2.call Y' (q:=q) (all_app (fun p hp=>iR (iR (iL hp))) (all_more (iR (iR (iR (.head _)))) fun p hp=>iL hp)) g'
    have T3:ThH th δ da η' X:=hT.ext B3.y.he
    have hi5:i < pvs.length:=(List.getElem?_eq_some_iff.mp hv).1
    have hl4:rs.length ≤ 4:=Nat.le_of_lt_succ (Nat.lt_of_le_of_lt hl (Nat.lt_of_lt_of_le hi5 hnp))
    have sR:∀ {A:Led}, ∀ x ∈ R ++ tl, x ∈ A ++ (Hw c σ' η' ++ (R ++ tl)):=fun x h=>iR (iR h)
    have sX:∀ {A:Led}, ∀ x ∈ X, x ∈ A ++ (Hw c σ' η' ++ (R ++ tl)):=fun x h=>sR x (B3.sx x (iL h))
    have C3:CV w mx ((heads ++ (cel4 b.L p2 o' o3 o4 ++ [(lR, rowL rs q)])) ++ (Hw c σ' η' ++ (R ++ tl))) r 94 (p.cd th):=pl_cv (hV.1.mono fun x h=>sR x (iR h)) (T3.led (fun x h=>iR (iL (iR (.tail _ h)))) (fun x h=>sX x h)) (Nat.le_trans hdep (by decide)) (Nat.le_trans (Nat.add_le_add_right (Nat.mul_le_mul_left 3 hdep) 6) (by decide))
    refine Tv.rek ((zd, ro) :: (ents rs ++ ((heads ++ (cel4 b.L p2 o' o3 o4 ++ [(lR, rowL rs q)])) ++ (Hw c σ' η' ++ (R ++ tl))))) (fun p hp=>by rw [List.append_assoc]; exact hp) (Tv.does (put_res hT.apart hok hdep (sR _ B3.mta) (sR _ B3.mtd) hr3 lo3 B3.ro B3.rk (fun x h=>sR x (B3.sx x h)) hl4 C3 (List.nodup_cons.mp B3.nd).2 (B3.apT fun q hq p hp=>off' q hq p (iL hp))) hr (fun r14 n14 t14 g14 ⟨_, PR⟩=>?_) (by decide))
    obtain ⟨cm, rm⟩:=PR.mem
    have mL:(lR, rowL rs q) ∈ n14 ++ t14:=cm _ (iL (iR (.tail _ (.tail _ (.tail _ (.tail _ (.head _)))))))
    have mC4:∀ x ∈ cel4 b.L p2 o' o3 o4, x ∈ n14 ++ t14:=fun x h=>cm _ (iL (iR (iL h)))
    refine Ts.compRT (cl:=[(ofString "rows", b.L + 1 + 1 + 1), (ofString "plan", b.L + 1 + 1 + 1 + 1)]) hcp (Tv.rlen (er (mC4 _ (.tail _ (.head _)))) mL (by rw [List.length_map]; exact Nat.le_trans hl4 (by decide)) Kx Kx fun Dr tr ur zr hDr=>⟨Dr, _, _, _, _, rfl, .head _, by rw [List.length_map]; exact Nat.le_trans hl4 (by decide), Spots rs p, ⟨⟨fun k hk=>absurd hk (Nat.not_lt_zero k), fun _=>rfl⟩, ?cst, ?cfin⟩⟩) ?clos ?cell rfl ?names rfl (fun _=>rfl) Kx ?hsw
    case clos =>
      show closureFor _ (envX b.cn b.cs b.L b.a b.ccd b.cl) = _
      rw [hcs, hcl]
      rfl
    case cell=>decide
    case names=>decide
    case hsw =>
      show swapsWith _ _ _ (envX b.cn b.cs b.L b.a b.ccd b.cl) = _
      rw [hcs, hcl]
      rfl
    case cst =>
      intro j ys tj hds Cj oC mj hj hS hC hN hx
      rw [List.length_map] at hj
      have hrow:rs[j]? = some rs[j]:=List.getElem?_eq_getElem hj
      have mr:rs[j] ∈ rs:=List.getElem_mem hj
      have hjp:=B3.rk.ok _ mr
      have sU:∀ x ∈ n14 ++ t14, x ∈ hds ++ ((Dr, rng ((rs.map fun r=>Value.ref r.ra).length:Nat) tr ur zr) :: (n14 ++ t14)):=fun x h=>iR (.tail _ h)
      obtain ⟨ok, hk⟩:∃ ok:Bool, ok = true ↔ rs[j].p = p:=(Classical.em (rs[j].p = p)).elim (fun h=>⟨true, fun _=>h, fun _=>rfl⟩) fun h=>⟨false, fun e=>(nomatch e), fun e=>absurd e h⟩
      have sX3:∀ x ∈ X ++ (T ++ tl), x ∈ hds ++ ((Dr, rng ((rs.map fun r=>Value.ref r.ra).length:Nat) tr ur zr) :: (n14 ++ t14)):=fun x h=>sU x (cm x (sR x (B3.sx x h)))
      refine ⟨ok, .int (j:Int) tj, Te.reprs (p:=rs[j].p) (q:=p) (Ev.cblt repr_bt (by boot_fast) (by decide) (Kc.of hcs rfl rfl) rfl) (Ev.cblt repr_bt (by boot_fast) (by decide) (Kc.of hcs rfl rfl) rfl) hgd (fun d hd=>hr d (Nat.lt_trans hd (by decide))) (Ev.item (v:=rs[j].pv) (Ev.itemE (v:=.ref rs[j].ra) (Ev.ccell rfl (sU _ (mC4 _ (.tail _ (.head _)))) d2' (Kc.of hcs rfl rfl) rfl) (Ev.own (iL hC) hN hx (Kc.of hcs rfl rfl) rfl) (sU _ mL) (by rw [show (j:Int).toNat = j from rfl, List.getElem?_map, hrow]; rfl) ⟨Int.natCast_nonneg _, Int.lt_of_le_of_lt (Int.ofNat_le.mpr (Nat.le_of_lt (Nat.lt_of_lt_of_le hj hl4))) (by decide)⟩ rfl) (sU _ (rm _ mr)) rfl ⟨by decide, by decide⟩ fun _=>rfl) (Ev.ccell rfl (sU _ (mC4 _ (.head _))) e2 (Kc.of hcs rfl rfl) rfl) ((B3.rk.dat _ mr).mono sX3) (hdat.mono fun x h=>sX3 x (iL h)) hjp.1 hok hjp.2 hdep hk rfl rfl rfl rfl rfl, Ev.own (iL hC) hN hx (Kc.of hcs rfl rfl) rfl, ?_⟩
      cases ok with
      | true=>exact hS.hit B3.rk.nod hrow (hk.mp rfl) tj
      | false=>exact hS.miss hrow fun e=>Bool.false_ne_true (hk.mpr e)
    case cfin =>
      intro D ys hS hD m5 hm5
      rw [List.length_map] at hS
      have j5:m5.lookup (ofString "spots") = some (.ref D):=by rw [hm5]; rfl
      have ja5:m5.lookup (ofString "at") = some (.int (i:Int) t):=by rw [hm5]; exact ja
      have jt5:m5.lookup (ofString "table") = some (.ref ta):=by rw [hm5]; exact jt3
      clear hm5
      have r12:b.Room 12:=fun d hd=>hr d (Nat.lt_trans hd (by decide))
      cases PR with
      | @new ro' ka la t2 en hR hka et hn hno =>
        have ey:ys = []:=hS.2 fun k hk r' hr'=>hno r' (List.mem_of_getElem? hr')
        subst ey
        subst en
        subst et
        have u3:∀ {a b c x:Addr × Obj} {l:Led}, x ∈ l → x ∈ a :: b :: c :: l:=fun h=>.tail _ (.tail _ (.tail _ h))
        refine Ts.ite (Tv.cmp1 (Ev.name j5 Kx rfl _ (Tv.listx (Tv.args0 (Tv.list (fun D2 hD2=>Cp.eqI r12 (.tail _ (.head _)) (.head _) .nil .nil rfl _ fun _=>Tv.tbool (both_t rfl (Ts.expr (Tv.append (vs:=rs.map fun r=>Value.ref r.ra) (q:=q) (er (u3 (mC4 _ (.tail _ (.head _))))) (u3 mL) (Tv.listx (Tv.args1 (epl e2 (u3 (mC4 _ (.head _))) _ (Tv.args1 (Ev.name ja5 Kx rfl _ (Tv.args0 (Tv.list (fun ra hra=>?_) (Nat.le_of_ble_eq_true rfl)))) rfl)) rfl)) (by rw [List.length_map]; exact Nat.le_trans hl4 (by rw [sizeLine_eq]; decide)) rfl rfl) hcp rfl))) (Nat.le_of_ble_eq_true rfl))))) rfl)
        have lra:∀ x ∈ ((zd, ro') :: (ents rs ++ ((heads ++ (cel4 b.L p2 o' o3 o4 ++ [(lR, rowL rs q)])) ++ (Hw c σ' η' ++ (R ++ tl))))) ++ ((la, W.listOf [r, .int (i:Int) t].toArray 0) :: t2), @Ne Nat x.1 ra:=fun x hx=>Nat.ne_of_lt (hra x (u3 hx))
        have gT:∀ x ∈ (heads ++ (cel4 b.L p2 o' o3 o4 ++ [(lR, rowL rs q)])) ++ (Hw c σ' η' ++ (R ++ tl)), x ∈ (zd, ro) :: (ents rs ++ ((heads ++ (cel4 b.L p2 o' o3 o4 ++ [(lR, rowL rs q)])) ++ (Hw c σ' η' ++ (R ++ tl)))):=fun x h=>.tail _ (iR h)
        have aC:∀ x ∈ cel4 b.L p2 o' o3 o4, x ∈ (heads ++ (cel4 b.L p2 o' o3 o4 ++ [(lR, rowL rs q)])) ++ (Hw c σ' η' ++ (R ++ tl)):=fun x h=>iL (iR (iL h))
        have aL:(lR, rowL rs q) ∈ (heads ++ (cel4 b.L p2 o' o3 o4 ++ [(lR, rowL rs q)])) ++ (Hw c σ' η' ++ (R ++ tl)):=iL (iR (.tail _ (.tail _ (.tail _ (.tail _ (.head _))))))
        have B4:=B3.new (q:=q) (pv:=v) (ra:=ra) hR hka (all_app (fun x h=>gT x (aC x h)) (all_app (all_more (gT _ aL) (all_more (.head _) fun x h=>.tail _ (iL h))) fun x h=>gT x (iR h))) g14 hn
          (fun a ha=>(aT_mem (ro:=ro') (pl:=rowL rs q) (all_more (cm _ aL) (all_more (iL (.head _)) fun x h=>iL (.tail _ (iL h)))) a ha).elim fun o h=>lra _ h)
          (all_app (fun x h=>lra x (cm x (aC x h))) (all_app (fun x h=>lra x (cm x (iR (iL h)))) (all_app (fun x h=>lra x (cm x (sR x h))) fun x h=>lra x (iR (.tail _ h))))) (lra (la, _) (iR (.head _)))
          (hV.1.mono fun x h=>iR (iR h)) (hdat.mono fun x h=>iL h) hok hdep hno
        have ent:ents (rs ++ [⟨p, v, ra, ka, la, r, i, t, t, 0, 0⟩]) = ents rs ++ [(la, W.listOf [r, .int (i:Int) t].toArray 0), (ra, W.listOf [v, .int (i:Int) t].toArray 0)]:=by rw [ents_app]; rfl
        have aH:∀ x ∈ heads, x ∈ (heads ++ (cel4 b.L p2 o' o3 o4 ++ [(lR, rowL rs q)])) ++ (Hw c σ' η' ++ (R ++ tl)):=fun x h=>iL (iL h)
        have oC:∀ {pl:Obj}, ∀ y ∈ heads, ∀ x ∈ cel4 b.L p2 o' o3 o4 ++ [(lR, pl)], (x.1:Nat) ≠ y.1:=fun y hy=>all_app (all_more (off' y hy (b.L + 1 + 1 + 1 + 1, p1) (iR (.head _))) fun x h=>off' y hy x (iR (.tail _ (iL (iL h))))) (all_one (off' y hy (lR, rowL rs q) (iR (.tail _ (.tail _ (.tail _ (.tail _ (.head _))))))))
        have oN:∀ y ∈ heads, ∀ x ∈ tab zd ro' (rs ++ [⟨p, v, ra, ka, la, r, i, t, t, 0, 0⟩]) ++ ((cel4 b.L p2 o' o3 o4 ++ [(lR, rowL (rs ++ [⟨p, v, ra, ka, la, r, i, t, t, 0, 0⟩]) (q + 1))]) ++ (Hw c σ' η' ++ ((R ++ tl) ++ t2))), (x.1:Nat) ≠ y.1:=fun y hy=>by
          rw [tab, ent]
          refine all_app (all_more (off' y hy (zd, ro) (.head _)) (all_app (fun x h=>off' y hy x (.tail _ (iL h))) (all_more (Ne.symm (g14 y (gT y (aH y hy)) _ (.head _))) (all_one (Ne.symm (lra y (cm y (aH y hy)))))))) (all_app (oC y hy) (all_app (fun x h=>?_) (all_app (fun x h=>?_) fun x h=>?_)))
          · exact Ne.symm (g' y (iR (iL hy)) x (iL h))
          · exact Ne.symm (g' y (iR (iL hy)) x (iR h))
          · exact Ne.symm (g14 y (gT y (aH y hy)) x (.tail _ h))
        refine ⟨heads ++ (tab zd ro' (rs ++ [⟨p, v, ra, ka, la, r, i, t, t, 0, 0⟩]) ++ (cel4 b.L p2 o' o3 o4 ++ (Hw c σ' η' ++ ((R ++ tl) ++ t2)))), ?v1, B4.offL fun y hy=>Ne.symm (oC (pl:=ro) y hy (lR, ro) (iR (.head _))), Ts.nil (Ts.nil ⟨_, ?v2, oN, .mk B4 ?v3 e2 jt5 fun _ h=>h⟩)⟩
        case v1 =>
          rw [tab, ent]
          refine all_more (.tail _ (u3 (cm _ aL))) (all_app (fun x h=>.tail _ (u3 (cm x (aH x h)))) (all_app (all_more (.tail _ (u3 (.head _))) (all_app (fun x h=>.tail _ (u3 (iL (.tail _ (iL h))))) (all_more (.tail _ (u3 (iR (.head _)))) (all_one (.head _))))) (all_app (fun x h=>.tail _ (u3 (mC4 x h))) (all_app (fun x h=>.tail _ (u3 (cm x (iR (iL h))))) (all_app (fun x h=>.tail _ (u3 (cm x (sR x h)))) fun x h=>.tail _ (u3 (iR (.tail _ h))))))))
        case v2 =>
          have er9:rowL (rs ++ [⟨p, v, ra, ka, la, r, i, t, t, 0, 0⟩]) (q + 1) = W.listOf ((rs.map fun r:Ro=>Value.ref r.ra) ++ [Value.ref ra]).toArray (q + 1):=by rw [rowL, List.map_append]; rfl
          rw [er9]
          exact all_app (fun x h=>.tail _ (iL h)) (all_app (fun x h=>.tail _ (iR (iL h))) (all_app (all_app (fun x h=>.tail _ (iR (iR (iL h)))) (all_one (.head _))) fun x h=>.tail _ (iR (iR (iR h)))))
        case v3=>rw [List.length_append]; exact Nat.succ_le_succ hl
      | @old A r0 D' n9 e hp en =>
        have hkA:rs[A.length]? = some r0:=by rw [e]; exact get_mid
        have hlA:A.length < rs.length:=(List.getElem?_eq_some_iff.mp hkA).1
        obtain ⟨t20, ey⟩:=hS.1 A.length hlA r0 hkA hp
        subst ey
        subst en
        have u3:∀ {a b c x:Addr × Obj} {l:Led}, x ∈ l → x ∈ a :: b :: c :: l:=fun h=>.tail _ (.tail _ (.tail _ h))
        have aH:∀ x ∈ heads, x ∈ (heads ++ (cel4 b.L p2 o' o3 o4 ++ [(lR, rowL rs q)])) ++ (Hw c σ' η' ++ (R ++ tl)):=fun x h=>iL (iL h)
        have gT:∀ x ∈ (heads ++ (cel4 b.L p2 o' o3 o4 ++ [(lR, rowL rs q)])) ++ (Hw c σ' η' ++ (R ++ tl)), x ∈ (zd, ro) :: (ents rs ++ ((heads ++ (cel4 b.L p2 o' o3 o4 ++ [(lR, rowL rs q)])) ++ (Hw c σ' η' ++ (R ++ tl)))):=fun x h=>.tail _ (iR h)
        have aC:∀ x ∈ cel4 b.L p2 o' o3 o4, x ∈ (heads ++ (cel4 b.L p2 o' o3 o4 ++ [(lR, rowL rs q)])) ++ (Hw c σ' η' ++ (R ++ tl)):=fun x h=>iL (iR (iL h))
        have aL:(lR, rowL rs q) ∈ (heads ++ (cel4 b.L p2 o' o3 o4 ++ [(lR, rowL rs q)])) ++ (Hw c σ' η' ++ (R ++ tl)):=iL (iR (.tail _ (.tail _ (.tail _ (.tail _ (.head _))))))
        have B4:=B3.old (q:=q) (i:=i) (n:=n9) (k:=r0.k) (t:=t) (u:=t) e (all_app (fun x h=>gT x (aC x h)) (all_app (all_more (gT _ aL) (all_more (.head _) fun x h=>.tail _ (iL h))) fun x h=>gT x (iR h))) g14
        have oT:∀ y ∈ heads, ∀ x ∈ ents rs, (x.1:Nat) ≠ y.1:=fun y hy x h=>off' y hy x (.tail _ (iL h))
        rw [e, ents_mid] at oT
        have ent:ents (A ++ r0.set i t t n9 r0.k :: D') = ents A ++ ((r0.la, W.listOf [r0.key, .int (i:Int) t].toArray n9) :: (r0.ra, W.listOf [r0.pv, .int (i:Int) t].toArray r0.k) :: ents D'):=ents_mid
        have eL:rowL (A ++ r0.set i t t n9 r0.k :: D') q = rowL rs q:=by
          rw [e, rowL, rowL, List.map_append, List.map_append]
          rfl
        have oR:=B4.offR (heads:=heads ++ [(lR, rowL rs q)]) (la':=W.listOf [r0.key, .int (i:Int) t].toArray n9) rfl (all_app (fun y hy=>Ne.symm (oT y hy _ (iR (.tail _ (.head _))))) (all_one (B4.neR rfl)))
        have oC:∀ y ∈ heads, ∀ x ∈ cel4 b.L p2 o' o3 o4 ++ [(lR, rowL rs q)], (x.1:Nat) ≠ y.1:=fun y hy=>all_app (all_more (off' y hy (b.L + 1 + 1 + 1 + 1, p1) (iR (.head _))) fun x h=>off' y hy x (iR (.tail _ (iL (iL h))))) (all_one (off' y hy (lR, rowL rs q) (iR (.tail _ (.tail _ (.tail _ (.tail _ (.head _))))))))
        refine Ts.ite (Tv.cmp1 (Ev.name j5 Kx rfl _ (Tv.listx (Tv.args0 (Tv.list (fun D2 hD2=>Cp.eqI r12 (.tail _ (.head _)) (.head _) (.cons _ _ .nil) .nil rfl _ fun _=>Tv.tbool (both_f rfl (Ts.setitem (Ev.name ja5 Kx rfl _ (Ev.itemE (v:=.ref r0.ra) (er (u3 (mC4 _ (.tail _ (.head _))))) (Ev.item (v:=.int (A.length:Int) t20) (Ev.name j5 Kx rfl) (.tail _ (.head _)) rfl ⟨by decide, by decide⟩ fun _=>rfl) (u3 mL) (by rw [show (A.length:Int).toNat = A.length from rfl, List.getElem?_map, hkA]; rfl) ⟨Int.natCast_nonneg _, Int.lt_of_le_of_lt (Int.ofNat_le.mpr (Nat.le_of_lt (Nat.lt_of_lt_of_le hlA hl4))) (by decide)⟩ rfl _ (Tv.cint fun t1=>Tv.setI (vs:=[r0.pv, .int (r0.i:Int) r0.u]) (us:=[r0.pv, .int (i:Int) t]) (q:=r0.k) ?v1 oR ⟨by decide, by decide⟩ rfl (Ts.nil (Ts.nil ⟨tab zd ro (A ++ r0.set i t t n9 r0.k :: D') ++ ((cel4 b.L p2 o' o3 o4 ++ [(lR, rowL (A ++ r0.set i t t n9 r0.k :: D') q)]) ++ (Hw c σ' η' ++ ((R ++ tl) ++ t14))), ?v2, ?v3, .mk B4 ?v4 e2 jt5 fun _ h=>h⟩))))) rfl))) (Nat.le_of_ble_eq_true rfl))))) rfl)
        case v1 =>
          refine all_more (u3 (iL (.tail _ (iR (.tail _ (.head _)))))) (all_app (all_app (fun x h=>u3 (cm x (aH x h))) (all_one (u3 mL))) (all_app (all_more (u3 (.head _)) (all_app (fun x h=>u3 (iL (.tail _ (iL h)))) (all_more (u3 (iL (.tail _ (iR (.head _))))) fun x h=>u3 (iL (.tail _ (iR (.tail _ (.tail _ (iL h)))))))))  (all_app (fun x h=>u3 (mC4 x h)) (all_app (fun x h=>u3 (cm x (iR (iL h)))) (all_app (fun x h=>u3 (cm x (sR x h))) fun x h=>u3 (iR h))))))
        case v2 =>
          rw [tab, ent, eL]
          refine all_app (fun x h=>.tail _ (iL (iL h))) (all_app (all_more (.tail _ (iR (.head _))) (all_app (fun x h=>.tail _ (iR (.tail _ (iL (iL h))))) (all_more (.tail _ (iR (.tail _ (iL (iR (.head _)))))) (all_more (.head _) fun x h=>.tail _ (iR (.tail _ (iL (iR (.tail _ h))))))))) (all_app (all_app (fun x h=>.tail _ (iR (iR (iL h)))) (all_one (.tail _ (iL (iR (.head _)))))) fun x h=>.tail _ (iR (iR (iR h)))))
        case v3 =>
          intro y hy
          rw [tab, ent, eL]
          have oY:=oT y hy
          refine all_app (all_more (off' y hy (zd, ro) (.head _)) (all_app (fun x h=>oY x (iL h)) (all_more (oY (r0.la, W.listOf [r0.key, .int (r0.i:Int) r0.t].toArray r0.n) (iR (.head _))) (all_more (oY (r0.ra, W.listOf [r0.pv, .int (r0.i:Int) r0.u].toArray r0.k) (iR (.tail _ (.head _)))) fun x h=>oY x (iR (.tail _ (.tail _ h))))))) (all_app (oC y hy) (all_app (fun x h=>?_) (all_app (fun x h=>?_) fun x h=>?_)))
          · exact Ne.symm (g' y (iR (iL hy)) x (iL h))
          · exact Ne.symm (g' y (iR (iL hy)) x (iR h))
          · exact Ne.symm (g14 y (gT y (aH y hy)) x h)
        case v4 =>
          rw [e] at hl
          refine Nat.le_trans (Nat.le_of_eq ?_) (Nat.le_succ_of_le hl)
          rw [List.length_append, List.length_append]
          rfl
  case fin =>
    intro m6 n6 hJ
    obtain @⟨σ, η, T, R, rs, ro, q, p1, v1, B, hl, e1, jm, s⟩:=hJ
    have hl5:rs.length ≤ 5:=Nat.le_trans hl hnp
    refine Ts.forX hcp (er (s _ (iR (.tail _ (.head _)))) _ ⟨lR, rs.map fun r:Ro=>Value.ref r.ra, q, fun _=>TK2 w c da th σo η3 X rest b.L lR zd ta td es3 o' o3 o4 rs ro q, rfl, .mk B e1 jm s, ⟨?hJ2, ?step2, ?fin2⟩⟩) (fun _=>rfl)
    case hJ2 =>
      intro i m7 n7 z9
      refine byP fun _ q9=>?_
      obtain ⟨B, d1, jm, s⟩:=z9
      refine q9 ?_
      exact s _ (iR (.tail _ (.tail _ (.tail _ (.tail _ (.head _))))))
    case step2 =>
      intro i v m7 n7 heads hv hJ off
      obtain @⟨σ, η, T, R, p1, v1, B, e1, jm, s⟩:=hJ
      have hi:i < rs.length:=by
        have:=(List.getElem?_eq_some_iff.mp hv).1
        rwa [List.length_map] at this
      have mr:rs[i] ∈ rs:=List.getElem_mem hi
      have ev:v = .ref rs[i].ra:=by
        rw [List.getElem?_map, List.getElem?_eq_getElem hi] at hv
        exact (Option.some.inj hv).symm
      subst ev
      generalize rs[i] = r at mr
      have off':=fun q hq p hp=>off q hq p (s p hp)
      refine Ta.pairC (C:=b.L + 1 + 1 + 1 + 1) hcp (iR (s _ (.tail _ (iL (ent_ra mr))))) Kx (by rw [hcl]; rfl) Kx ⟨p1, heads ++ (tab zd ro rs ++ ([(b.L + 1 + 1 + 1, o'), (b.L + 1 + 1, o3), (b.L + 1, o4), (lR, rowL rs q)] ++ (Hw c σ η ++ R))), ?z1, ⟨_, e1⟩, ?z2, fun p2 e2 m8 hm8=>Ts.rek ((tab zd ro rs ++ (heads ++ (cel4 b.L p2 o' o3 o4 ++ [(lR, rowL rs q)]))) ++ (Hw c σ η ++ R)) ?z3 ?z4⟩
      case z1=>exact all_more (iR (s _ (iR (.head _)))) (all_app (fun p hp=>iL hp) (all_app (fun p hp=>iR (s _ (iL hp))) fun p hp=>iR (s _ (iR (.tail _ hp)))))
      case z2=>exact all_app (fun q hq=>Ne.symm (off' q hq _ (iR (.head _)))) B.off4
      case z3=>exact all_app (all_app (fun p hp=>.tail _ (iR (iL hp))) (all_app (fun p hp=>.tail _ (iL hp)) (all_more (.head _) fun p hp=>.tail _ (iR (iR (iL hp)))))) fun p hp=>.tail _ (iR (iR (iR hp)))
      have jv:m8.lookup (ofString "value") = some (.int (r.i:Int) r.u):=by rw [hm8]; rfl
      have jt8:m8.lookup (ofString "table") = some (.ref ta):=by rw [hm8]; exact jm
      clear hm8 jm
      have B2:=B.cel (o1':=p2) (o2':=o')
      have oH:Gt heads (Hw c σ η ++ R):=fun q hq p hp=>Ne.symm (off' q hq p (iR (iR hp)))
      have mC:∀ {x:Addr × Obj} {H:Led}, x ∈ cel4 b.L p2 o' o3 o4 → x ∈ (tab zd ro rs ++ (heads ++ (cel4 b.L p2 o' o3 o4 ++ [(lR, rowL rs q)]))) ++ H:=fun h=>iL (iR (iR (iL h)))
      obtain ⟨hok, hdep⟩:=B.rk.ok r mr
      have hdat:=B2.rk.dat r mr
      refine Ts.assign rfl (Tv.meth (et jt8 _ (Tv.getm (iR (iR B2.mta)) (iR (iR B2.mtd)) ⟨by k_is, by k_is, by k_is⟩ hw3 (Tv.with1 (by k_is) (Tv.args1 (Tv.gcall em (by k_is) (Evs.cons (ew (mC (.tail _ (.tail _ (.tail _ (.head _)))))) (Evs.cons (epl e2 (mC (.head _))) (Evs.cons (eth (mC (.tail _ (.tail _ (.head _))))) Evs.nil rfl) rfl) rfl) (Tv.hyg (made_H B2.y.hi hdat (iL hlt) hok hdep) B2.y (B2.gt oH) hr (fun v' σ' η' tl Y' hE hW g' gR ⟨_, hV⟩=>Tv.args0 ?_) (by decide)) rfl rfl) rfl) rfl rfl))) rfl) Kx rfl
      have B3:=B2.call Y' (q:=q) (all_app (fun p hp=>iR (iR (iL hp))) (all_more (iR (iR (iR (.head _)))) fun p hp=>iL hp)) g'
      have T3:ThH th δ da η' X:=hT.ext B3.y.he
      have sR:∀ {A:Led}, ∀ x ∈ R ++ tl, x ∈ A ++ (Hw c σ' η' ++ (R ++ tl)):=fun x h=>iR (iR h)
      have C3:CV w mx (ents rs ++ ((heads ++ (cel4 b.L p2 o' o3 o4 ++ [(lR, rowL rs q)])) ++ (Hw c σ' η' ++ (R ++ tl)))) v' 94 (r.p.cd th):=pl_cv (hV.1.mono fun x h=>iR (sR x (iR h))) (T3.led (fun x h=>iR (iR (iL (iR (.tail _ h))))) (fun x h=>iR (sR x (B3.sx x (iL h))))) (Nat.le_trans hdep (by decide)) (Nat.le_trans (Nat.add_le_add_right (Nat.mul_le_mul_left 3 hdep) 6) (by decide))
      refine Tv.rek ((zd, ro) :: (ents rs ++ ((heads ++ (cel4 b.L p2 o' o3 o4 ++ [(lR, rowL rs q)])) ++ (Hw c σ' η' ++ (R ++ tl))))) (fun p hp=>by rw [List.append_assoc]; exact hp) (Tv.does (row_ok (dn:=94) (iR (sR _ B3.mta)) (iR (sR _ B3.mtd)) hr3 lo3 B3.ro (B3.rk.keys.mono fun x h=>iR (sR x (B3.sx x h))) C3 hok.fits (by rw [cd_dep]; exact Nat.le_succ_of_le hdep) (by decide)) hr (fun r' n' t' gt ⟨ev', en'⟩ m9 hm9=>?_) (by decide))
      rw [at_row hT.apart B3.rk mr] at ev'
      subst ev'
      subst en'
      have jf:m9.lookup (ofString "found") = some (.ref r.la):=by rw [hm9]; rfl
      have jv9:m9.lookup (ofString "value") = some (.int (r.i:Int) r.u):=by rw [hm9]; exact jv
      have jt9:m9.lookup (ofString "table") = some (.ref ta):=by rw [hm9]; exact jt8
      clear hm9 jv jt8
      refine Ts.skip (Te.orF (isNr (Ev.name jf Kx rfl)) (Te.cmp (v:=.int (r.i:Int) r.t) (u:=.int (r.i:Int) r.u) (Ev.item (Ev.name jf Kx rfl) (iL (.tail _ (iL (ent_la mr)))) rfl ⟨by decide, by decide⟩ fun _=>rfl) (Ev.name jv9 Kx rfl) (fun P h Q E h₁ tk F N ret=>ne_int (ret _ _ _ _ F N ((bne_self_eq_false' (a:=(r.i:Int))) ▸ h tk))) rfl)) (Ts.nil ⟨tab zd ro rs ++ ((cel4 b.L p2 o' o3 o4 ++ [(lR, rowL rs q)]) ++ (Hw c σ' η' ++ (R ++ tl))), ?z6, ?z7, .mk B3 e2 jt9 fun _ h=>h⟩)
      case z6=>exact all_app (fun x h=>iL (.tail _ (iR (iL (iL h))))) (all_app (all_more (iL (.head _)) fun x h=>iL (.tail _ (iL h))) (all_app (fun x h=>iL (.tail _ (iR (iL (iR h))))) fun x h=>iL (.tail _ (iR (iR h)))))
      case z7=>exact fun y hy=>all_app (fun x h=>off' y hy x (iL h)) (all_app (all_more (off' y hy (b.L + 1 + 1 + 1 + 1, p1) (iR (.head _))) fun x h=>off' y hy x (iR (.tail _ (iL h)))) fun x h=>Ne.symm (g' y (iR (iL hy)) x h))
    case fin2 =>
      intro m7 n7 hJ
      obtain @⟨σ, η, T, R, p1, v1, B, e1, jm, s⟩:=hJ
      have sH:∀ x ∈ Hw c σ η ++ R, x ∈ n7:=fun x h=>s x (iR (iR h))
      have mta:=sH _ (iR B.mta)
      have mtd:=sH _ (iR B.mtd)
      have mL:(lR, rowL rs q) ∈ n7:=s _ (iR (.tail _ (.tail _ (.tail _ (.tail _ (.head _))))))
      have m3:(b.L + 1 + 1 + 1, o') ∈ n7:=s _ (iR (.tail _ (.head _)))
      have hz5:(rs.map fun r:Ro=>Value.ref r.ra).length ≤ sizeLine:=by rw [List.length_map, sizeLine_eq]; exact Nat.le_trans hl5 (by decide)
      have epr:∀ {l:Led} {P:Value → Led → Prop} {a1 a2 a3} {pl:Sem Bool}, eval (Expr.Call (.Attribute (.Name (ofString "table") a1) (ofString "pairs") a2) [] [] a3) b.env = (do let ov ← eval (.Name (ofString "table") a1) b.env; standAt (Pos.atName a2); let x ← holding [ov] (getMethod ov (ofString "pairs") pl); match x with | (g, first)=>callWith a3 g first (backTo a3 (starEach [] b.env)) []) → (∀ x ∈ n7, x ∈ l) → (∀ la ts tl, Gt l tl → (la, LCg.lst ts) ∈ tl → PrIn tl ts (rs.map (Ro.rw th)) → P (.ref la) (l ++ tl)) → Tv b m7 l (eval (.Call (.Attribute (.Name (ofString "table") a1) (ofString "pairs") a2) [] [] a3) b.env) P:=fun he sl h=>Tv.meth (et jm _ (Tv.getm (sl _ mta) (sl _ mtd) ⟨by k_is, by k_is, by k_is⟩ hq3 (Tv.with0 (by k_is) (Tv.does (pairs_ok (rs:=rs.map (Ro.rw th)) (sl _ mta) (sl _ mtd) (sl _ (s _ (.head _))) hr3 lo3 B.ro (by rw [List.length_map]; exact Nat.le_trans hl5 (by decide)) (fun r9 h9=>by
        obtain ⟨r, h, e⟩:=List.mem_map.mp h9
        rw [← e]
        exact sl _ (s _ (.tail _ (iL (ent_la h)))))) hr (fun r n' tl g ⟨e, la, ts, e2, hm, hP⟩=>by
        rw [e, e2]
        exact h la ts tl g hm hP) (by decide))))) he
      have own:∀ {heads n' f:Led} {y:Value} {J:Value → Led → Prop}, (∀ x ∈ heads ++ n', x ∈ f) → (∀ q ∈ heads, ∀ p ∈ n', (p.1:Nat) ≠ q.1) → J y n' → ∃ n'', (∀ p ∈ heads ++ n'', p ∈ f) ∧ (∀ q ∈ heads, ∀ p ∈ n'', (p.1:Nat) ≠ q.1) ∧ J y n'':=fun h o j=>⟨_, h, o, j⟩
      have rowv:∀ {i:Nat} {v:Value}, (rs.map fun r:Ro=>Value.ref r.ra)[i]? = some v → ∃ r, rs[i]? = some r ∧ r ∈ rs ∧ v = .ref r.ra:=fun {i v} hv=>by
        rw [List.getElem?_map] at hv
        cases hr:rs[i]? with
        | none=>rw [hr] at hv; cases hv
        | some r=>rw [hr] at hv; exact ⟨r, rfl, List.mem_of_getElem? hr, (Option.some.inj hv).symm⟩
      refine Ts.ite (Tv.or1 (Tv.not (Te.isi (et jm) (isi_120_TableThing mta mtd) (fun _ h=>h) Kx Kx _ (both_f rfl (Tv.or1 (Tv.cmp1 (Tv.compP (cl:=[]) hcp (epr rfl (fun _ h=>h) fun la ts tl g hm hP=>⟨la, ts.length, ts, fun i ys n'=>n' = n7 ++ tl ∧ IntsAre ys ((rs.take i).map fun r=>(r.i:Int)), rfl, ⟨by rw [hP.len, List.length_map, sizeLine_eq]; exact Nat.le_trans hl5 (by decide), ⟨rfl, .nil⟩, fun i ys n' h=>h.1 ▸ iR hm, fun i ys n' v hv ⟨en, hy⟩=>?c1, fun D ys n' ⟨en, hy⟩ hD=>Tv.compL (cl:=[]) hcp (er (en ▸ .tail _ (iL m3)) _ ⟨lR, q, _, fun i zs n2=>n2 = (D, LCg.lst ys) :: n' ∧ IntsAre zs ((rs.take i).map fun r=>(r.i:Int)), rfl, ⟨hz5, ⟨rfl, .nil⟩, fun i ys n' h=>h.1 ▸ en ▸ .tail _ (iL mL), fun i zs n2 v hv ⟨en2, hz⟩=>?c2, fun D2 zs n2 ⟨en2, hz⟩ hD2=>?c3⟩⟩) ?cl2 ?ce2 rfl ?na2 rfl rfl (by decide) (fun _=>rfl)⟩⟩) ?cl1 ?ce1 rfl ?na1 rfl rfl (by decide) (fun _=>rfl)) rfl))))))
      case cl1 =>
        rw [Amb.env_of hcp]
        show closureFor _ (envX b.cn b.cs b.L b.a b.ccd b.cl) = _
        rw [hcs, hcl]
        rfl
      case cl2 =>
        rw [Amb.env_of hcp]
        show closureFor _ (envX b.cn b.cs b.L b.a b.ccd b.cl) = _
        rw [hcs, hcl]
        rfl
      case ce1=>decide
      case ce2=>decide
      case na1=>decide
      case na2=>decide
      case c1 =>
        refine byP fun _ q9=>?_
        obtain ⟨r9, t9, ot9, n9, g1', ev, g2', g3', g4'⟩:=hP.at hv
        obtain ⟨r, hrr, er9⟩:=rw_at g1'
        refine q9 ?_
        subst er9
        refine ⟨t9, ot9, _, _, n9, ev, en ▸ iR g2', ⟨g3', g4'⟩, fun hds Cj oC mj hC hN h1 h2 off=>Ev.own (iL hC) hN h2 (Kc.of hcs rfl rfl) rfl _ (own (J:=fun y n2=>n2 = n7 ++ tl ∧ IntsAre (ys ++ [y]) _) (fun _ h=>h) off ⟨en, ?_⟩)⟩
        rw [take_snoc hrr]
        exact ints_snoc hy
      case c2 =>
        refine byP fun _ q9=>?_
        obtain ⟨r, hrr, mr, ev⟩:=rowv hv
        refine q9 ?_
        refine ⟨r.ra, _, _, _, r.k, ev, (by rw [en2, en]; exact .tail _ (iL (s _ (.tail _ (iL (ent_ra mr)))))), rfl, fun hds Cj oC mj hC hN h1 h2 off=>Ev.own (iL hC) hN h2 (Kc.of hcs rfl rfl) rfl _ (own (J:=fun y n3=>n3 = (D, LCg.lst ys) :: n' ∧ IntsAre (zs ++ [y]) _) (fun _ h=>h) off ⟨en2, ?_⟩)⟩
        rw [take_snoc hrr]
        exact ints_snoc hz
      case c3 =>
        rw [hP.len, List.length_map, List.take_length] at hy
        rw [List.length_map, List.take_length] at hz
        subst en
        subst en2
        refine Cp.neI (fun d hd=>hr d (Nat.lt_trans hd (by decide))) (.tail _ (.head _)) (.head _) hy hz (by rw [decide_eq_true rfl]; rfl) _ fun _=>Tv.tbool (both_f rfl (Tv.or0 (both_f rfl (Ts.nil (Ts.rek n7 (fun x h=>.tail _ (.tail _ (iL h))) ?_)))))
        clear hy hz hP hm g hD hD2
        refine Ts.ret (Tv.cmpv (Tv.compP (cl:=[]) hcp (epr rfl (fun _ h=>h) fun la ts tl g hm hP=>⟨la, ts.length, ts, fun i ys n'=>∃ t, n' = (n7 ++ tl) ++ t ∧ Gt (n7 ++ tl) t ∧ DatAll t ys ((rs.take i).map fun r=>(r.p.cd th).dat), rfl, ⟨by rw [hP.len, List.length_map, sizeLine_eq]; exact Nat.le_trans hl5 (by decide), ⟨[], (List.append_nil _).symm, Gt.nil, .nil⟩, fun i ys n' ⟨t, e, _⟩=>by rw [e]; exact iL (iR hm), fun i ys n' v hv ⟨t, en, gt, hy⟩=>?c4, fun D ys n' ⟨t, en, gt, hy⟩ hD=>?_⟩⟩) ?cl3 ?ce3 rfl ?na3 rfl rfl (by decide) (fun _=>rfl)) rfl)
        case cl3 =>
          rw [Amb.env_of hcp]
          show closureFor _ (envX b.cn b.cs b.L b.a b.ccd b.cl) = _
          rw [hcs, hcl]
          rfl
        case ce3=>decide
        case na3=>decide
        case c4 =>
          refine byP fun _ q9=>?_
          obtain ⟨r9, t9, ot9, n9, g1', ev, g2', g3', g4'⟩:=hP.at hv
          obtain ⟨r, hrr, er9⟩:=rw_at g1'
          refine q9 ?_
          subst er9
          have mr:=List.mem_of_getElem? hrr
          obtain ⟨hok, hdep⟩:=B.rk.ok r mr
          have C4:CV w mx n7 r.key 94 (r.p.cd th):=pl_cv ((B.rk.vin r mr).mono fun x h=>sH x (iR (B.sx x h))) ((hT.ext B.y.he).led (fun x h=>sH x (iL (iR (.tail _ h)))) (fun x h=>sH x (iR (B.sx x (iL h))))) (Nat.le_trans hdep (by decide)) (Nat.le_trans (Nat.add_le_add_right (Nat.mul_le_mul_left 3 hdep) 6) (by decide))
          refine ⟨t9, ot9, _, _, n9, ev, (by rw [en]; exact iL (iR g2')), ⟨g3', g4'⟩, fun hds Cj oC mj hC hN h1 h2 off=>Tv.callee (Ev.cglob (by k_is) (Kc.of hcs rfl rfl) rfl _ (Tv.with1 (by k_is) (Tv.args1 (Ev.own (iL hC) hN h1 (Kc.of hcs rfl rfl) rfl _ (Tv.args0 (Tv.does (C4 _ fun x h=>iR (by rw [en]; exact iL (iL h))) hr (fun r' n9 t9 g9 ⟨e9, hd9⟩=>?_) (by decide)))) rfl) rfl rfl)) rfl⟩
          subst e9
          refine ⟨(n7 ++ tl) ++ (t ++ t9), ?_, ?_, t ++ t9, rfl, Gt.app gt (Gt.subl (fun x h=>iR (by rw [en]; exact iL h)) g9), ?_⟩
          · rw [← List.append_assoc (n7 ++ tl), ← en, ← List.append_assoc]
            exact fun _ h=>h
          · rw [← List.append_assoc (n7 ++ tl), ← en]
            exact fun y hy=>all_app (off y hy) fun x h=>Ne.symm (g9 y (iL hy) x h)
          · rw [take_snoc hrr]
            exact datAll_snoc (datAll_mono (fun q hq=>iL hq) hy) (hd9.mono fun q hq=>iR hq)
        rw [hP.len, List.length_map, List.take_length] at hy
        subst en
        have g7:Gt n7 t:=Gt.subl (fun x h=>iL h) gt
        have sT:∀ x ∈ cel4 b.L p1 o' o3 o4 ++ (((lR, rowL rs q) :: tab zd ro rs) ++ (Hw c σ η ++ R)), x ∈ n7:=all_app (fun x h=>s x (iR (iL (iL h)))) (all_app (all_more mL fun x h=>s x (iL h)) sH)
        have B5:=B.lay (q:=q) sT g7
        refine Tv.compL (cl:=[(ofString "world", b.L + 1), (ofString "things", b.L + 1 + 1)]) hcp (er (.tail _ (iL (iL m3))) _ ⟨lR, q, _, fun i zs n2=>TC4 w c da th σo η3 X rest b.L lR zd ta td es3 p1 o' o3 o4 rs ro q D ys (rs.map fun r=>(r.p.cd th).dat) zs ((rs.take i).map fun r=>(r.p.cd th).dat) n2, rfl, ⟨hz5, .mk B5 (datAll_mono (fun x h=>iR h) hy) .nil ?d1 ?d2, ?d3, ?d4, ?d5⟩⟩) ?cl4 ?ce4 rfl ?na4 rfl rfl (by decide) (fun _=>rfl)
        case cl4 =>
          rw [Amb.env_of hcp]
          show closureFor _ (envX b.cn b.cs b.L b.a b.ccd b.cl) = _
          rw [hcs, hcl]
          rfl
        case ce4=>decide
        case na4=>decide
        case d1=>exact all_one (all_app (fun x h=>Ne.symm (hD x (iL (iL (sH x (iL h)))))) (all_app (fun x h=>Ne.symm (hD x (iL (iL (sH x (iR h)))))) fun x h=>Ne.symm (hD x (iR h))))
        case d2=>exact all_app (fun x h=>.tail _ (iL (iL (s x (iL h))))) (all_app (all_one (.head _)) (all_app (fun x h=>.tail _ (iL (iL (s x (iR (iL h)))))) (all_app (fun x h=>.tail _ (iL (iL (sH x (iL h))))) (all_app (fun x h=>.tail _ (iL (iL (sH x (iR h))))) fun x h=>.tail _ (iR h)))))
        case d3 =>
          intro i zs n' z9
          refine byP fun _ q9=>?_
          obtain ⟨B, hu, hv, gD, s⟩:=z9
          refine q9 ?_
          exact s _ (iR (.tail _ (.tail _ (.tail _ (.tail _ (.tail _ (.head _)))))))
        case d4 =>
          intro i zs n2 v hv hJ
          clear hy hD B5 sT g7 gt hm hP g mta mtd mL m3 sH s B epr own e1
          obtain @⟨σ, η, T, R, B, hu, hz, gD, s⟩:=hJ
          refine byP fun _ q9=>?_
          obtain ⟨r, hrr, mr, ev⟩:=rowv hv
          obtain ⟨hok, hdep⟩:=B.rk.ok r mr
          refine q9 ?_
          refine ⟨r.ra, _, _, _, r.k, ev, s _ (.tail _ (iL (ent_ra mr))), rfl, fun hds Cj oC mj hC hN h1 h2 off=>?_⟩
          have off':=fun q hq p hp=>off q hq p (s p hp)
          have oH:Gt (hds ++ [(D, LCg.lst ys)]) (Hw c σ η ++ R):=Gt.appl (fun q hq p hp=>Ne.symm (off' q hq p (iR (List.mem_append_right [(D, LCg.lst ys)] (iR hp))))) gD
          have mC:∀ {x:Addr × Obj} {H:Led}, x ∈ cel4 b.L p1 o' o3 o4 → x ∈ (tab zd ro rs ++ ((hds ++ [(D, LCg.lst ys)]) ++ (cel4 b.L p1 o' o3 o4 ++ [(lR, rowL rs q)]))) ++ H:=fun h=>iL (iR (iR (iL h)))
          have mCj:∀ {H:Led}, (Cj, oC) ∈ (tab zd ro rs ++ ((hds ++ [(D, LCg.lst ys)]) ++ (cel4 b.L p1 o' o3 o4 ++ [(lR, rowL rs q)]))) ++ H:=fun {H}=>iL (iR (iL (iL hC)))
          refine Tv.rek ((tab zd ro rs ++ ((hds ++ [(D, LCg.lst ys)]) ++ (cel4 b.L p1 o' o3 o4 ++ [(lR, rowL rs q)]))) ++ (Hw c σ η ++ R)) (all_app (all_app (fun x h=>iR (s x (iL h))) (all_app (all_app (fun x h=>iL h) (all_one (iR (s _ (iR (.head _)))))) fun x h=>iR (s x (iR (List.mem_append_right [(D, LCg.lst ys)] (iL h)))))) fun x h=>iR (s x (iR (List.mem_append_right [(D, LCg.lst ys)] (iR h)))))
            (Tv.callee (Ev.cglob (by k_is) (Kc.of hcs rfl rfl) rfl _ (Tv.with1 (by k_is) (Tv.args1 (Tv.gcall (f:=709) (Ev.cglob (by k_is) (Kc.of hcs rfl rfl) rfl) (by k_is) (Evs.cons (Ev.ccell rfl (mC (.tail _ (.tail _ (.tail _ (.head _))))) d4 (Kc.of hcs rfl rfl) rfl) (Evs.cons (Ev.own mCj hN h1 (Kc.of hcs rfl rfl) rfl) (Evs.cons (Ev.ccell rfl (mC (.tail _ (.tail _ (.head _)))) d3 (Kc.of hcs rfl rfl) rfl) Evs.nil rfl) rfl) rfl) (Tv.hyg (made_H B.y.hi (B.rk.dat r mr) (iL hlt) hok hdep) B.y (B.gt oH) hr (fun v' σ' η' tl2 Y' hE hW g' gR ⟨_, hV⟩=>Tv.args0 ?_) (by decide)) rfl rfl) rfl) rfl rfl)) rfl)
          have B3:=B.call Y' (q:=q) (all_app (fun p hp=>iR (iR (iL hp))) (all_more (iR (iR (iR (.head _)))) fun p hp=>iL hp)) g'
          have hH:∀ x ∈ hds ++ [(D, LCg.lst ys)], x ∈ tab zd ro rs ++ ((hds ++ [(D, LCg.lst ys)]) ++ (cel4 b.L p1 o' o3 o4 ++ [(lR, rowL rs q)])):=fun x h=>iR (iL h)
          have C5:CV w mx ((tab zd ro rs ++ ((hds ++ [(D, LCg.lst ys)]) ++ (cel4 b.L p1 o' o3 o4 ++ [(lR, rowL rs q)]))) ++ (Hw c σ' η' ++ (R ++ tl2))) v' 94 (r.p.cd th):=pl_cv (hV.1.mono fun x h=>iR (iR (iR h))) ((hT.ext B3.y.he).led (fun x h=>iR (iL (iR (.tail _ h)))) (fun x h=>iR (iR (B3.sx x (iL h))))) (Nat.le_trans hdep (by decide)) (Nat.le_trans (Nat.add_le_add_right (Nat.mul_le_mul_left 3 hdep) 6) (by decide))
          refine Tv.does (C5 _ fun _ h=>h) hr (fun r' n9 t9 g9 ⟨e9, hd9⟩=>?_) (by decide)
          subst e9
          have B6:=B3.lay (q:=q) (all_app (fun x h=>iL (iR (iR (iL h)))) (all_app (all_more (iL (iR (iR (iR (.head _))))) fun x h=>iL (iL h)) fun x h=>iR h)) g9
          have gA:∀ y ∈ hds ++ [(D, LCg.lst ys)], ∀ x ∈ Hw c σ' η' ++ ((R ++ tl2) ++ t9), @Ne Nat y.1 x.1:=fun y hy=>all_app (fun x h=>g' y (hH y hy) x (iL h)) (all_app (fun x h=>g' y (hH y hy) x (iR h)) fun x h=>g9 y (iL (hH y hy)) x h)
          refine ⟨tab zd ro rs ++ ([(D, LCg.lst ys)] ++ ((cel4 b.L p1 o' o3 o4 ++ [(lR, rowL rs q)]) ++ (Hw c σ' η' ++ ((R ++ tl2) ++ t9)))), ?f1, ?f2, .mk B6 (datAll_mono (fun x h=>iL (iL h)) hu) ?f3 (all_one (gA _ (iR (.head _)))) fun _ h=>h⟩
          case f1=>exact all_app (fun x h=>iL (iL (hH x (iL h)))) (all_app (fun x h=>iL (iL (iL h))) (all_app (fun x h=>iL (iL (hH x (iR h)))) (all_app (fun x h=>iL (iL (iR (iR h)))) (all_app (fun x h=>iL (iR (iL h))) (all_app (fun x h=>iL (iR (iR h))) fun x h=>iR h)))))
          case f2=>exact fun y hy=>all_app (fun x h=>off' y hy x (iL h)) (all_app (fun x h=>off' y hy x (iR (iL h))) (all_app (fun x h=>off' y hy x (iR (List.mem_append_right [(D, LCg.lst ys)] (iL h)))) fun x h=>Ne.symm (gA y (iL hy) x h)))
          case f3 =>
            rw [take_snoc hrr]
            exact datAll_snoc (datAll_mono (fun x h=>iL (iL h)) hz) (hd9.mono fun x h=>iR h)
        case d5 =>
          intro D2 zs n2 hJ hD2
          rw [List.length_map, List.take_length] at hJ
          obtain @⟨σ, η, T, R, B, hu, hz, gD, s⟩:=hJ
          have sR:∀ x ∈ Hw c σ η ++ R, x ∈ n2:=fun x h=>s x (iR (List.mem_append_right [(D, LCg.lst ys)] (iR h)))
          have sT:∀ x ∈ T, x ∈ (D2, LCg.lst zs) :: n2:=fun x h=>.tail _ (sR x (iR (B.sx x (iR h))))
          have ed:(rs.map fun r=>(r.p.cd th).dat) = (rs.map fun r=>r.p.cd th).map Cd.dat:=map_dat rs
          rw [ed] at hu hz
          refine fun Q E h₁ tk F N ret=>codes_eq N (.tail _ (s _ (iR (.head _)))) (.head _) (datAll_mono sT hu) (datAll_mono sT hz) (fun z hz=>?_) ?_ (ret _ _ _ _ F N (B.y.owes (P:=fun r σ' η' tl=>r = .bool true) (fun x h=>.tail _ (sR x h)) rfl))
          · obtain ⟨r, hr, e⟩:=List.mem_map.mp hz
            rw [← e]
            exact ⟨(B.rk.ok r hr).1.fits, by rw [cd_dep]; exact Nat.le_trans (B.rk.ok r hr).2 (by decide)⟩
          · have:=(hr 8 (by decide)).2
            exact this
noncomputable def Pr2 (th:Th) (X:Led) (v:Value):Prop:=∃ t a b p q, v = .ref t ∧ (t, ({ cls:=.type "tuple", data:=.seq [a, b].toArray }:Obj)) ∈ X ∧ VIn th X a p ∧ VIn th X b q ∧ p.Ok ∧ q.Ok ∧ p.dep ≤ 12 ∧ q.dep ≤ 12 ∧ p ≠ q
theorem Pr2.mono {th:Th} {X Y:Led} {v:Value} (h:Pr2 th X v) (s:∀ p ∈ X, p ∈ Y):Pr2 th Y v:=by
  refine byP fun _ q9=>?_
  obtain ⟨t, a, b, p, q, h1, h2, h3, h4, h5⟩:=h
  refine q9 ?_
  exact ⟨t, a, b, p, q, h1, s _ h2, h3.mono s, h4.mono s, h5⟩
section
variable {w mx} {b:Amb w mx} {m:Fm} {c:Wc} {da:List Addr} {th:Th} {δ:Int → Addr} {lt:Addr} {hd:Led} {σ:Ws} {η:Hs} {X:Led}
theorem Tv.lwr {f:Addr} {d dn:Nat} {args:List Value} {P':Value → Ws → Hs → Led → Prop} {P:Value → Led → Prop} (C:HWR w mx c da σ η X f d args P') (L:Lw w c da th δ lt hd σ η X) (hg:b.gd = some []) (hr:b.Room dn)
    (h:∀ r σ' η' tl, Lw w c da th δ lt hd σ' η' (X ++ tl) → P' r σ' η' tl → P r (hd ++ (Hw c σ' η' ++ (X ++ tl)))) (hd':d < dn):Tv b m (hd ++ (Hw c σ η ++ X)) (call (.ref f) args) P:=fun Q E h₁ tk F N ret=>by
  have perm:∀ {a b c:Led}, ∀ p ∈ a ++ (b ++ c), p ∈ b ++ (a ++ c):=fun p hp=>(List.mem_append.mp hp).elim (fun h=>iR (iL h)) fun h=>(List.mem_append.mp h).elim (iL) fun h=>iR (iR h)
  refine DoesR.at (C (hd ++ X) (fun p hp=>iR hp) (Gt.app (fun q hq p hp=>Ne.symm (L.gh p hp q (iL hq))) L.hi.hw)) hg b.B F b.X (News.of N perm) b.T b.k (hr d hd').1 (hr d hd').2 fun r n' tl h' tk' F' N' g z9=>?_
  refine byP fun _ q9=>?_
  obtain ⟨σ', η', e, hI, hE, hW, _, hP⟩:=z9
  refine q9 ?_
  subst e
  have gh:Gt hd tl:=Gt.subl (fun p hp=>iR (iL hp)) g
  refine ret _ _ _ _ F' (News.of N' fun p hp=>?_) (h r σ' η' tl (L.step hI hE hW.num (Gt.app (Gt.hwr hE fun q hq p hp=>L.gh q hq p (iL hp)) (Gt.app (fun q hq p hp=>L.gh q hq p (iR hp)) gh))) hP)
  rw [List.append_assoc, List.append_assoc]
  exact perm p hp
end
theorem stH:stG.1:=by
  unfold stG LawGoal6
  dsimp only
  intro w mx b sa ba lt lp ws pvs nq bo o3 p2 p1 c da th δ σ η X m FF L mlp hbox hsc hpl hn2 hn5 hps
  refine byP fun _ q9=>?_
  obtain ⟨hcp, hcs, hcl, hgd, hr, hs, hl, h3, h2, h1, lb⟩:=FF
  refine q9 ?_
  have ew:∀ {m A pa}, Ev b m (hd4 b.L ba bo o3 p2 p1 ++ A) (.Name (ofString "world") pa) (.ref c.wa):=fun {m A pa}=>Ev.cell (by rw [hcl]; rfl) (.tail _ (.tail _ (.head _))) h2 Kx rfl
  have le2:∀ {v u:Value}, [v, u].length ≤ sizeLine:=Nat.le_of_ble_eq_true rfl
  have rv:∀ {t:Value → Sem (List Value)} {P:Value → List Value → Led → Prop} r (n n':Led), (∀ p ∈ n', p ∈ n) → Tv b m n' (t r) (P r) → Tv b m n (t r) (P r):=fun r n n' s h=>Tv.re s h
  refine Ts.forX hcp (Tv.listx (Tv.args1 (Tv.tup (Tv.args1 (Tv.cint fun t1=>Tv.args1 (Tv.cbool (Tv.args0 (Tv.lwT L le2 rv fun Da La=>?_))) rfl) rfl)) rfl)) (fun _=>rfl)
  refine Tv.args1 (Tv.tup (Tv.args1 (Tv.cint fun t2=>Tv.args1 (Tv.cbool (Tv.args0 (Tv.lwT La le2 rv fun Db Lb=>?_))) rfl) rfl)) rfl
  refine Tv.args1 (Tv.tup (Tv.args1 (Tv.cstr fun t3=>Tv.args1 (Tv.hmx ew wm_text Lb.hi.inv.ok.n_text (by k_is) (Tv.args1 (Tv.cstr fun t4=>Tv.args0 (Tv.lw (pre:=[]) (hw_of_wc Lb.hi (text_ok Lb.hi.inv)) Lb (fun _ h=>nomatch h) hr (fun r σ2 η2 tl Lc _ hW hE z9=>?_) (by decide))) rfl) rfl rfl rfl) rfl) rfl)) rfl
  refine byP fun _ q9=>?_
  obtain ⟨e, a, es, e2, hF, hx⟩:=z9
  refine q9 ?_
  subst e
  subst e2
  refine Tv.args0 (Tv.lwT Lc le2 rv fun Dc Ld=>?_)
  refine Tv.args1 (Tv.tup (Tv.args1 (Tv.cnone (Tv.args1 (Tv.cbool (Tv.args0 (Tv.lwT Ld le2 rv fun Dd Le=>?_))) rfl)) rfl)) rfl
  have rv2:∀ {t:Value → Sem (List Value)} {P:Value → List Value → Led → Prop} r (n n':Led), (∀ p ∈ n', p ∈ n) → Tv b m n' (t r) (P r) → Tv b m n (t r) (P r):=fun r n n' s h=>Tv.re s h
  refine Tv.args1 (Tv.tup (Tv.args1 (Tv.hmx ew wm_listof Le.hi.inv.ok.n_list (by k_is) (Tv.args1 (Tv.listx (Tv.args1 (Tv.cint fun t5=>Tv.args0 (Tv.lwL Le (Nat.le_of_ble_eq_true rfl) rv fun Df Lf'=>Tv.args0 (Tv.lw (pre:=[]) (hw_of_wc Lf'.hi (list_ok (vs:=[.int 1 t5]) (nb:=0) Lf'.hi.inv (iR (iR (.head _))) (Nat.le_of_ble_eq_true rfl))) Lf' (fun _ h=>nomatch h) hr (fun r σ3 η3 tl3 Lg _ hW3 hE3 z9=>?_) (by decide)))) rfl)) rfl) rfl rfl rfl) rfl)) rfl
  refine byP fun _ q9=>?_
  obtain ⟨e, a5, es5, b5, n5, e2, hF5, hx5, hb5⟩:=z9
  refine q9 ?_
  subst e
  subst e2
  refine Tv.args1 (Tv.cint fun t6=>Tv.args0 (Tv.lwT Lg le2 rv fun Dg Lh=>Tv.args0 (Tv.list (fun D hD=>?_) (Nat.le_of_ble_eq_true rfl)))) rfl
  obtain ⟨Li, sub⟩:=lw_one (o:=PySem.W.listOf [Value.ref Da, .ref Db, .ref Dc, .ref Dd, .ref Dg].toArray 0) Lh hD
  have u:∀ {p:Addr × Obj} {A B:Led}, p ∈ A → p ∈ A ++ B:=fun h=>iL h
  have r1:∀ {p:Addr × Obj} {A:Led}, p ∈ A ++ [p]:=iR (.head _)
  refine ⟨D, [Value.ref Da, .ref Db, .ref Dc, .ref Dd, .ref Dg], 0, fun _ m' n'=>∃ σ' η' X', (∀ p ∈ hd4 b.L ba bo o3 p2 p1 ++ (Hw c σ' η' ++ X'), p ∈ n') ∧ Lw w c da th δ lt (hd4 b.L ba bo o3 p2 p1) σ' η' X' ∧ (∀ p ∈ X, p ∈ X') ∧ (D, PySem.W.listOf [Value.ref Da, .ref Db, .ref Dc, .ref Dd, .ref Dg].toArray 0) ∈ X' ∧ (∀ v ∈ [Value.ref Da, .ref Db, .ref Dc, .ref Dd, .ref Dg], Pr2 th X' v) ∧ m'.lookup (ofString "script") = some (.ref sa) ∧ m'.lookup (ofString "plans") = some (.ref lp), rfl, ⟨_, _, _, sub, Li, fun p hp=>u (u (u (u (u (u (u (u (u hp)))))))), r1, all_more ⟨Da, _, _, .plain (.int 1), .plain (.bool true), rfl, u (u (u (u (u (u (u (u r1))))))), .plain (.int _ t1), .plain (.bool _), by simp [Pl.Ok, PV.Ok], by simp [Pl.Ok, PV.Ok], by decide, by decide, fun e=>(by cases e)⟩ (all_more ⟨Db, _, _, .plain (.int 0), .plain (.bool false), rfl, u (u (u (u (u (u (u r1)))))), .plain (.int _ t2), .plain (.bool _), by simp [Pl.Ok, PV.Ok], by simp [Pl.Ok, PV.Ok], by decide, by decide, fun e=>(by cases e)⟩ (all_more ⟨Dc, _, _, .plain (.sym (ofString "a")), .text (ofString "a"), rfl, u (u (u (u (u r1)))), .plain (.str _ t3), .text (hF.1.mono fun p hp=>u (u (u (u (u (u (iR hp))))))) hx, by simp [Pl.Ok, PV.Ok], by simp [Pl.Ok, PV.Ok], by decide, by decide, fun e=>(by cases e)⟩ (all_more ⟨Dd, _, _, .plain .none, .plain (.bool false), rfl, u (u (u (u r1))), .plain .none, .plain (.bool _), by simp [Pl.Ok, PV.Ok], by simp [Pl.Ok, PV.Ok], by decide, by decide, fun e=>(by cases e)⟩ (all_one ⟨Dg, _, _, .l1 (.plain (.int 1)), .plain (.int 1), rfl, u r1, .l1 (hF5.1.mono fun p hp=>u (u (iR hp))) hx5 (u (u (iR hb5))) (.plain (.int _ t5)), .plain (.int _ t6), by simp [Pl.Ok, PV.Ok], by simp [Pl.Ok, PV.Ok], by decide, by decide, fun e=>(by cases e)⟩)))), hsc, hpl⟩, ⟨fun i m' n' z9=>by refine byP fun _ q9=>?_; obtain ⟨σ', η', X', sn, _, _, mD, _⟩:=z9; exact q9 (sn _ (iR (iR mD))), ?step, ?fin⟩⟩
  case step =>
    have epr:∀ {m A pa}, Ev b m A (.Name (ofString "_law_pair_right") pa) (.ref 723):=by exact Ev.glob (by k_is) Kx rfl
    intro i v m' n' heads hv z9 off
    refine byP fun _ q9=>?_
    obtain ⟨σ', η', X', sn, L', sX, mD, hPr, js, jp⟩:=z9
    refine q9 ?_
    refine byP fun _ q9=>?_
    obtain ⟨t, a, bb, p, q, rfl, mt, va, vb, op, oq, zp, zq, npq⟩:=hPr v (List.mem_of_getElem? hv)
    refine q9 ?_
    have gp:Gt heads (Hw c σ' η' ++ X'):=fun q hq r hr=>Ne.symm (off q hq r (sn r (iR hr)))
    refine Ta.tup2 hcp (List.mem_append_right heads (sn _ (iR (iR mt)))) Kx Kx ?_
    refine Ts.rek (heads ++ (hd4 b.L ba bo o3 p2 p1 ++ (Hw c σ' η' ++ X'))) (fun r hr=>(List.mem_append.mp hr).elim (iL) fun h=>iR (sn r h)) ?_
    refine Ts.ite (Tv.not (Tv.plain (Tv.gcall epr (by k_is) (Evs.cons (Ev.cell (by rw [hcl]; rfl) (iR (.tail _ (.tail _ (.head _)))) h2 Kx rfl) (Evs.cons (Ev.name rfl Kx rfl) (Evs.cons (Ev.name rfl Kx rfl) (Evs.cons Ev.bool Evs.nil rfl) rfl) rfl) rfl) (Tv.lw (pair_H L'.hi L'.ht va vb op oq zp zq false ⟨fun e=>(nomatch e), fun e=>absurd e npq⟩) L' gp hr (fun r σ5 η5 tl5 L5 g5 hW hE ⟨_, er⟩=>?_) (by decide)) rfl rfl) rfl))
    subst er
    exact Tv.tbool (both_f rfl (Ts.nil (Ts.nil ⟨hd4 b.L ba bo o3 p2 p1 ++ (Hw c σ5 η5 ++ (X' ++ tl5)), fun _ h=>h, fun q hq=>all_app (fun r hr=>off q hq r (sn r (iL hr))) fun r hr=>Ne.symm (g5 q hq r hr), σ5, η5, X' ++ tl5, fun _ h=>h, L5, fun p hp=>iL (sX p hp), iL mD, fun v hv=>(hPr v hv).mono fun _ h=>iL h, js, jp⟩)))
  case fin =>
    intro m' n' z9
    refine byP fun _ q9=>?_
    obtain ⟨σ', η', X', sn, L', sX, mD, hPr, js, jp⟩:=z9
    refine q9 ?_
    have etr:∀ {m A pa}, Ev b m A (.Name (ofString "_law_table_right") pa) (.ref 728):=by exact Ev.glob (by k_is) Kx rfl
    have edr:∀ {m A pa}, Ev b m A (.Name (ofString "_law_deep_right") pa) (.ref 735):=by exact Ev.glob (by k_is) Kx rfl
    have eth:∀ {m A pa}, Ev b m (hd4 b.L ba bo o3 p2 p1 ++ A) (.Name (ofString "things") pa) (.ref lt):=fun {m A pa}=>Ev.cell (by rw [hcl]; rfl) (.tail _ (.head _)) h3 Kx rfl
    have ebx:∀ {m A pa}, Ev b m (hd4 b.L ba bo o3 p2 p1 ++ A) (.Name (ofString "box") pa) (.ref ba):=fun {m A pa}=>Ev.cell (by rw [hcl]; rfl) (.tail _ (.tail _ (.tail _ (.head _)))) h1 Kx rfl
    have esc:∀ {A pa}, Ev b m' A (.Name (ofString "script") pa) (.ref sa):=Ev.name js Kx rfl
    refine Ts.rek (hd4 b.L ba bo o3 p2 p1 ++ (Hw c σ' η' ++ X')) sn (Ts.ret (Tv.and2 ?_))
    refine Tv.gcall etr (by k_is) (Evs.cons ew (Evs.cons (Ev.name jp Kx rfl) (Evs.cons eth Evs.nil rfl) rfl) rfl) (Tv.lwr (table_right_ok L'.hi L'.ht (sX _ mlp) L'.ml (fun v hv=>(hps v hv).elim fun p hp=>⟨p, hp.2.2.mono sX, hp.1, hp.2.1⟩) hn5) L' hgd hr (fun r σ2 η2 tl L2 hP=>⟨true, hP, (fun h=>nomatch h), fun _=>Tv.and0v (Tv.or2v (x:=decide ((ws.length:Int) = 0)) (fun P h=>Tv.cmpv (Tv.callee (Tv.blt len_bt (by boot_fast) (by decide) (Tv.withb (Tv.args1 (esc _ (Tv.args0 (Tv.lenS hs hl fun t=>Tv.cint fun t2 Q E h₁ tk F N ret=>eq_i rfl (ret _ _ _ _ F N h)))) rfl) rfl rfl) Kx rfl) rfl) rfl) (fun _=>rfl) fun _=>?_)⟩) (by decide)) rfl rfl
    refine Tv.gcall edr (by k_is) (Evs.cons ew (Evs.cons ebx Evs.nil rfl) rfl) (Tv.re (k:=(ba, bo) :: (Hw c σ2 η2 ++ (X' ++ tl))) (fun p hp=>(List.mem_cons.mp hp).elim (fun e=>e ▸ .head _) fun h=>iR h) (Tv.does (deep_ok L2.hi L2.ht hbox (by decide) (Ap.cons (fun p hp=>Ne.symm (L2.gh _ (.head _) p hp)) Ap.nil)) hr (fun r n' tl g e=>e) (by decide))) rfl rfl
end Mine
theorem PySem.Challenge.cw_nz0048_01_holds : PySem.Challenge.rw_nz0048_01.Holds :=
  Mine.stB.2 (Mine.Hold.mk (Mine.stC.2 (Mine.Hold.mk (Mine.stD.2 (Mine.Hold.mk (Mine.stE.2 (Mine.Hold.mk (Mine.stF.2 (Mine.Hold.mk (Mine.stG.2 (Mine.Hold.mk Mine.stH)))))))))))
