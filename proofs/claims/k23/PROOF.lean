import PyProof.Rows.All
import Wide.All
import OpenK.AllK
import Wide.FinOn
import HandS.Head0
import HandS.Head1
import HandS.Head2
import HandS.HeadHook1
import HandS.HeadHook2
import HandS.HeadHook3
import HandS.HeadEnd
import HandS.ExcIs
import HandS.ExcField
import HandS.Words
import HandS.ForMost
import HandS.Wide
import HandS.Flow
import HandS.Defaults
import HandS.MakeKwOnly
import HandS.Codes
import HandS.More
import HandS.NoneIn
import HandS.Style
import HandS.IsInst
import KE.Datum
import HandS.Walk
import HandS.TupLen
import HandS.Zip
import HandS.Text
import HandS.RevTup
import HandS.Conv
import HandS.DictComp
import HandS.ExcOwn
import HandS.TryOnly
import HandS.WordsExc
import HandS.DictTup
import KE.KSortTupG
import KE.OsSort
import HandS.Set
import HandS.SetBool
import HandS.SetTxt0
import HandS.Strs
import PyProof.Rows.StrMeet
import HandS.OwnIter
import KE.KDictPairs
import HandS.Call
import HandS.List
import HandS.TupAny
import HandS.TupMul
import HandS.Steps
import PyProof.EqAt
import PyProof.NeKinds
import HandS.RaiseMore
import HandS.ForExc
import HandS.ExcInit
import KE.KUnpackStar
import KE.IntTextLaws
import KE.KIntText
import PyProof.Rows.StrOr
import HandS.StrMore
import PyProof.Rows.StrLast
import PyProof.Rows.StrSplitCount
import PyProof.Rows.RegReprOcc
import HandS.TupLe
import HandS.Deep
import HandS.SortInts
import KE.KExcIs
import HandS.Replace
import KE.KEqNest
import HandS.MakeKw
import KE.KStrOpen
import PyProof.Draws
import PyProof.StrLoop
import HandS.Comp
import HandS.SortRule
import KE.KSortTupAny
import HandS.TupSets
import KE.DataMinMax
import HandS.SortKw
import HandS.Finally
import PyProof.ReprRoads
import PySem.Challenge.RW_farasked_k23_plainly_done
set_option Elab.async false
set_option linter.all false
set_option maxRecDepth 100000
set_option maxHeartbeats 4000000
namespace M
open PySem PySem.Spec PyProof.Rows L2
abbrev HxF := PySem.W.Frag → Bool
abbrev HxA := Bool × List He.FnW × List (Option (List (Option (Str × Int))))
def hxAll (hx : List (List HxF)) (K : PySem.W.Frag) : Bool := hx.all fun l => l.all fun f => f K
def hxObs (hx : List (List HxF)) (fn : List He.DefD) (ts : List He.Tab) (K : PySem.W.Frag) : HxA := (hxAll hx K && fn.all fun d => d.ok K, fn.map fun d => He.fnW K d.at_, ts.map fun t => He.dicW K (t.1 K))
def hxVal (fn : List He.DefD) (ts : List He.Tab) (w : World) : HxA := (true, fn.map He.DefD.val, ts.map fun t => some (He.keysIn w.params t.2))
def SaysH (hx : List (List HxF)) (fn : List He.DefD) (ts : List He.Tab) (w : World) (K : PySem.W.Frag) : Prop := hxObs hx fn ts K = hxVal fn ts w
def hookH (as : List Addr) (hx : List (List HxF)) (fn : List He.DefD) (ts : List He.Tab) : PySem.W.Hook where
 α := HxA
 obs := fun s => hxObs hx fn ts (He.frG s.heap.get? as)
 val := fun w => hxVal fn ts w
 says := fun w h => ∃ K : PySem.W.Frag, K.In h ∧ SaysH hx fn ts w K
 of := fun _ _ e => ⟨_, He.frG_in, e⟩
 keeps := fun _ _ _ ⟨K, hK, c⟩ k => ⟨K, PySem.W.Frag.In.keeps hK k, c⟩
def obH (as : List Addr) (hx : List (List HxF)) (fn : List He.DefD) (ts : List He.Tab) (s : PySem.W.SharedT) : HxA := hxObs hx fn ts (He.frG (HandSHeadRun.getT s) as)
theorem obH_eq (as : List Addr) (hx : List (List HxF)) (fn : List He.DefD) (ts : List He.Tab) (s : PySem.W.SharedT) : obH as hx fn ts s = (hookH as hx fn ts).obs s.abs := by
 have e : HandSHeadRun.getT s = s.abs.heap.get? := funext (HandSHeadRun.getT_eq s)
 show hxObs hx fn ts (He.frG (HandSHeadRun.getT s) as) = hxObs hx fn ts (He.frG s.abs.heap.get? as)
 rw [e]
section
variable {hx : List (List HxF)} {fn : List He.DefD} {ts : List He.Tab} {w : World} {K : PySem.W.Frag}
theorem SaysH.fact (c : SaysH hx fn ts w K) (j i : Nat) {l : List HxF} {f : HxF} (h1 : hx[j]? = some l) (h2 : l[i]? = some f) : f K = true := by
 have c1 := (He.ba (show (hxAll hx K && fn.all fun d => d.ok K) = true from congrArg (fun z : HxA => z.1) c)).1
 have c2 := List.all_eq_true.mp c1 l (List.mem_of_getElem? h1)
 exact List.all_eq_true.mp c2 f (List.mem_of_getElem? h2)
theorem SaysH.def_ (c : SaysH hx fn ts w K) (i : Nat) {d : He.DefD} (h : fn[i]? = some d) : ∃ fd, FunD K d.name d.qual d.params d.body d.scope (d.dvs K) (d.kws K) (He.fAd K d.at_) fd := by
 have c2 := (He.ba (show (hxAll hx K && fn.all fun d => d.ok K) = true from congrArg (fun z : HxA => z.1) c)).2
 have e : fn.map (fun d => He.fnW K d.at_) = fn.map He.DefD.val := congrArg (fun z : HxA => z.2.1) c
 have e2 : (fn.map fun d => He.fnW K d.at_)[i]? = (fn.map He.DefD.val)[i]? := by rw [e]
 rw [List.getElem?_map, List.getElem?_map, h] at e2
 exact He.DefD.funD (Option.some.inj e2) (List.all_eq_true.mp c2 d (List.mem_of_getElem? h))
end
section
variable {K : PySem.W.Frag} {w : World}
def vA (a : PySem.W.Frag → Addr) (x : Str) (K : PySem.W.Frag) : Addr := match PySem.W.nsIn K (a K) x with
 | some (some (.ref b)) => b
 | _ => 0
def itA (a : PySem.W.Frag → Addr) (i : Nat) (K : PySem.W.Frag) : Addr := match K.lookup (a K) with
 | some ⟨_, _, .seq its _, _⟩ => (match its.toList[i]? with
  | some (.ref b) => b
  | _ => 0)
 | _ => 0
def tupA (K : PySem.W.Frag) (a : Addr) (vs : List V) : Bool := match K.lookup a with
 | some ⟨.type c, _, .seq its _, _⟩ => decide (c = "tuple") && (decide (its.size ≤ sizeLine) && He.relAll vs its.toList)
 | _ => false
def pairB : List DictEntry → List (Str × V) → Bool
 | [], [] => true
 | e :: es, kv :: r => (match e.key with
  | .str x _ => decide (x = kv.1)
  | _ => false) && (He.relB kv.2 e.val && pairB es r)
 | _, _ => false
def tabA (K : PySem.W.Frag) (a : Addr) (kvs : List (Str × V)) : Bool := match K.lookup a with
 | some ⟨_, _, .dict es _, _⟩ => pairB es.toList kvs
 | _ => false
def staB (K : PySem.W.Frag) : Bool := match K.lookup cStatics with
 | some ⟨_, _, .dict es _, _⟩ => (es.toList.all fun e => match e.key with
  | .str _ _ => true
  | _ => false) && He.eqO (PySem.W.nsIn K cStatics "sys.int_max_str_digits") (some none)
 | _ => false
end
end M
section
set_option linter.all false
set_option maxRecDepth 100000
set_option maxHeartbeats 0
namespace Hd
open PySem PySem.Spec PyProof.Rows L2
def topS (i : Nat) : Stmt := PySem.Challenge.pw_farasked_k23_plainly_done.main.body.getD i (.Pass ⟨0, 0, 0, 0⟩)
abbrev s_PlainTask__init : Stmt := (inClass (topS 4) 0)
abbrev s_PlainTask_is_through : Stmt := (inClass (topS 4) 1)
abbrev s_PlainRun__init : Stmt := (inClass (topS 5) 0)
abbrev s_PlainRun_begin : Stmt := (inClass (topS 5) 1)
abbrev s_PlainRun_finish_top : Stmt := (inClass (topS 5) 2)
abbrev s_PlainRun_come_back : Stmt := (inClass (topS 5) 3)
abbrev s_PlainRun_do_step : Stmt := (inClass (topS 5) 4)
abbrev s_PlainRun_go_on : Stmt := (inClass (topS 5) 5)
abbrev s_PlainRun_is_spent : Stmt := (inClass (topS 5) 6)
abbrev s_plain : Stmt := (topS 6)
abbrev s_law_begun : Stmt := (topS 8)
abbrev s_law_take : Stmt := (topS 9)
abbrev s_law_pick : Stmt := (topS 10)
abbrev s_law_words : Stmt := (topS 11)
abbrev s_law_number : Stmt := (topS 12)
abbrev s_law_step : Stmt := (topS 13)
abbrev s_law_service : Stmt := (topS 14)
abbrev s_law_plan : Stmt := (topS 15)
abbrev s_law_came_back : Stmt := (topS 16)
abbrev s_law_goes : Stmt := (topS 17)
abbrev s_law_plain : Stmt := (topS 18)
abbrev s_law : Stmt := (topS 19)
def dd0 : He.DefD := ⟨("PlainTask", some "__init__"), "__init__", "PlainTask.__init__", defArgs s_PlainTask__init, defBody s_PlainTask__init, defScope s_PlainTask__init, [], []⟩
def dd1 : He.DefD := ⟨("PlainTask", some "is_through"), "is_through", "PlainTask.is_through", defArgs s_PlainTask_is_through, defBody s_PlainTask_is_through, defScope s_PlainTask_is_through, [], []⟩
def dd2 : He.DefD := ⟨("PlainRun", some "__init__"), "__init__", "PlainRun.__init__", defArgs s_PlainRun__init, defBody s_PlainRun__init, defScope s_PlainRun__init, [], []⟩
def dd3 : He.DefD := ⟨("PlainRun", some "begin"), "begin", "PlainRun.begin", defArgs s_PlainRun_begin, defBody s_PlainRun_begin, defScope s_PlainRun_begin, [], []⟩
def dd4 : He.DefD := ⟨("PlainRun", some "finish_top"), "finish_top", "PlainRun.finish_top", defArgs s_PlainRun_finish_top, defBody s_PlainRun_finish_top, defScope s_PlainRun_finish_top, [], []⟩
def dd5 : He.DefD := ⟨("PlainRun", some "come_back"), "come_back", "PlainRun.come_back", defArgs s_PlainRun_come_back, defBody s_PlainRun_come_back, defScope s_PlainRun_come_back, [], []⟩
def dd6 : He.DefD := ⟨("PlainRun", some "do_step"), "do_step", "PlainRun.do_step", defArgs s_PlainRun_do_step, defBody s_PlainRun_do_step, defScope s_PlainRun_do_step, [], []⟩
def dd7 : He.DefD := ⟨("PlainRun", some "go_on"), "go_on", "PlainRun.go_on", defArgs s_PlainRun_go_on, defBody s_PlainRun_go_on, defScope s_PlainRun_go_on, [], []⟩
def dd8 : He.DefD := ⟨("PlainRun", some "is_spent"), "is_spent", "PlainRun.is_spent", defArgs s_PlainRun_is_spent, defBody s_PlainRun_is_spent, defScope s_PlainRun_is_spent, [], []⟩
def dd9 : He.DefD := ⟨("plain", none), "plain", "plain", defArgs s_plain, defBody s_plain, defScope s_plain, [.adr (He.dflAt ("plain", none) 0)], [("most", .int 300)]⟩
def dd10 : He.DefD := ⟨("_law_begun", none), "_law_begun", "_law_begun", defArgs s_law_begun, defBody s_law_begun, defScope s_law_begun, [], []⟩
def dd11 : He.DefD := ⟨("_law_take", none), "_law_take", "_law_take", defArgs s_law_take, defBody s_law_take, defScope s_law_take, [], []⟩
def dd12 : He.DefD := ⟨("_law_pick", none), "_law_pick", "_law_pick", defArgs s_law_pick, defBody s_law_pick, defScope s_law_pick, [], []⟩
def dd13 : He.DefD := ⟨("_law_words", none), "_law_words", "_law_words", defArgs s_law_words, defBody s_law_words, defScope s_law_words, [], []⟩
def dd14 : He.DefD := ⟨("_law_number", none), "_law_number", "_law_number", defArgs s_law_number, defBody s_law_number, defScope s_law_number, [], []⟩
def dd15 : He.DefD := ⟨("_law_step", none), "_law_step", "_law_step", defArgs s_law_step, defBody s_law_step, defScope s_law_step, [], []⟩
def dd16 : He.DefD := ⟨("_law_service", none), "_law_service", "_law_service", defArgs s_law_service, defBody s_law_service, defScope s_law_service, [], []⟩
def dd17 : He.DefD := ⟨("_law_plan", none), "_law_plan", "_law_plan", defArgs s_law_plan, defBody s_law_plan, defScope s_law_plan, [], []⟩
def dd18 : He.DefD := ⟨("_law_came_back", none), "_law_came_back", "_law_came_back", defArgs s_law_came_back, defBody s_law_came_back, defScope s_law_came_back, [], []⟩
def dd19 : He.DefD := ⟨("_law_goes", none), "_law_goes", "_law_goes", defArgs s_law_goes, defBody s_law_goes, defScope s_law_goes, [], []⟩
def dd20 : He.DefD := ⟨("_law_plain", none), "_law_plain", "_law_plain", defArgs s_law_plain, defBody s_law_plain, defScope s_law_plain, [], []⟩
def dd21 : He.DefD := ⟨("law", none), "law", "law", defArgs s_law, defBody s_law, defScope s_law, [], []⟩
def fn : List He.DefD := [dd0, dd1, dd2, dd3, dd4, dd5, dd6, dd7, dd8, dd9, dd10, dd11, dd12, dd13, dd14, dd15, dd16, dd17, dd18, dd19, dd20, dd21]
def hx0 : List M.HxF := [fun K => (He.Fa.cls "PlainTask").ok K,
 fun K => (He.Fa.glo "PlainTask").ok K,
 fun K => (He.Fa.noat "PlainTask" "home").ok K,
 fun K => (He.Fa.noat "PlainTask" "steps").ok K,
 fun K => (He.Fa.noat "PlainTask" "worth").ok K,
 fun K => (He.Fa.noat "PlainTask" "pieces").ok K,
 fun K => (He.Fa.noat "PlainTask" "place").ok K,
 fun K => (He.Fa.mkr "PlainTask").ok K,
 fun K => (He.Fa.meth "PlainTask" "is_through").ok K,
 fun K => (He.Fa.cls "PlainRun").ok K,
 fun K => (He.Fa.glo "PlainRun").ok K,
 fun K => (He.Fa.noat "PlainRun" "plan").ok K,
 fun K => (He.Fa.noat "PlainRun" "pieces").ok K,
 fun K => (He.Fa.noat "PlainRun" "left").ok K,
 fun K => (He.Fa.noat "PlainRun" "stores").ok K,
 fun K => (He.Fa.noat "PlainRun" "given").ok K,
 fun K => (He.Fa.noat "PlainRun" "pile").ok K,
 fun K => (He.Fa.noat "PlainRun" "last").ok K,
 fun K => (He.Fa.mkr "PlainRun").ok K,
 fun K => (He.Fa.meth "PlainRun" "begin").ok K,
 fun K => (He.Fa.meth "PlainRun" "finish_top").ok K,
 fun K => (He.Fa.meth "PlainRun" "come_back").ok K,
 fun K => (He.Fa.meth "PlainRun" "do_step").ok K,
 fun K => (He.Fa.meth "PlainRun" "go_on").ok K,
 fun K => (He.Fa.meth "PlainRun" "is_spent").ok K]
def hx1 : List M.HxF := [fun K => M.tupA K (He.dflAt ("plain", none) 0 K) [],
 fun K => (He.Fa.glo "plain").ok K,
 fun K => (He.Fa.glo "_law_begun").ok K,
 fun K => (He.Fa.glo "_law_take").ok K,
 fun K => (He.Fa.glo "_law_pick").ok K,
 fun K => (He.Fa.glo "_law_words").ok K,
 fun K => (He.Fa.glo "_law_number").ok K,
 fun K => (He.Fa.glo "_law_step").ok K,
 fun K => (He.Fa.glo "_law_service").ok K,
 fun K => (He.Fa.glo "_law_plan").ok K,
 fun K => (He.Fa.glo "_law_came_back").ok K,
 fun K => (He.Fa.glo "_law_goes").ok K,
 fun K => (He.Fa.glo "_law_plain").ok K,
 fun K => (He.Fa.glo "law").ok K,
 fun K => M.staB K,
 fun K => (He.Fa.free "abs").ok K,
 fun K => (He.Fa.free "int").ok K,
 fun K => (He.Fa.free "isinstance").ok K,
 fun K => (He.Fa.free "len").ok K,
 fun K => (He.Fa.free "list").ok K,
 fun K => (He.Fa.free "range").ok K,
 fun K => (He.Fa.free "repr").ok K,
 fun K => (He.Fa.free "sorted").ok K,
 fun K => (He.Fa.free "tuple").ok K,
 fun K => (He.Fa.glo "NoHouse").ok K]
def hx2 : List M.HxF := [fun K => (He.Fa.exc "NoHouse").ok K]
def hx : List (List M.HxF) := [hx0, hx1, hx2]
def ts : List He.Tab := []
def as : List Addr := [3, 2, 214, 213, 209, 208, 202, 201, 195, 194, 188, 187, 181, 180, 176, 175, 169, 168, 162, 161, 157, 156, 150, 149, 143, 142, 138, 137, 131, 130, 129, 124, 123, 121, 120, 114, 113, 107, 106, 100, 99, 93, 92, 86, 85, 79, 78, 63, 62, 60, 59, 53, 52, 37, 36, 24, 23]
end Hd
namespace Hd
open PySem PySem.W PySem.Calls PyProof.Rows
abbrev R : OpenRow := OpenLaw.row PySem.Challenge.rw_farasked_k23_plainly_done
abbrev qv : Program := view R.prog [19]
def names : List PySem.Str := (["FarError", "NoHouse", "PlainTask", "PlainRun", "plain", "_law_begun", "_law_take", "_law_pick", "_law_words", "_law_number", "_law_step", "_law_service", "_law_plan", "_law_came_back", "_law_goes", "_law_plain"] : List PySem.Str)
abbrev hk : PySem.W.Hook := M.hookH as hx fn ts
theorem run0 (w : World) : HandSHeadRun.RunEq R qv hk (M.obH as hx fn ts) 24000 names (w.withFollow "special-get-raises" false) := by
 intro os
 kernel_rfl
theorem run1 (w : World) : HandSHeadRun.RunEq R qv hk (M.obH as hx fn ts) 24000 names (w.withFollow "special-get-raises" true) := by
 intro os
 kernel_rfl
theorem run (w : World) : HandSHeadRun.RunEq R qv hk (M.obH as hx fn ts) 24000 names w := byRow2 "special-get-raises" (P := fun w => HandSHeadRun.RunEq R qv hk (M.obH as hx fn ts) 24000 names w) run0 run1 w
end Hd
open PySem PySem.W PySem.Calls PyProof.Rows
theorem Hd.closes (hc : PySem.W.WalkO Hd.qv Hd.names (PySem.W.XL Hd.qv []) Hd.hk.says (OpenLaw.row PySem.Challenge.rw_farasked_k23_plainly_done).toRowW (HandSHeadRun.topDef (OpenLaw.row PySem.Challenge.rw_farasked_k23_plainly_done).prog 19) [] fun f vs => PySem.call f vs) : PySem.Challenge.rw_farasked_k23_plainly_done.Holds := by
 w_on; o_law
 refine HandSHeadRun.head_any (r := OpenLaw.row PySem.Challenge.rw_farasked_k23_plainly_done) (q := Hd.qv) (H := Hd.hk) (ob := M.obH Hd.as Hd.hx Hd.fn Hd.ts) (M := 24000) (loose := Hd.names) (d := HandSHeadRun.topDef (OpenLaw.row PySem.Challenge.rw_farasked_k23_plainly_done).prog 19) (kwd := []) (M.obH_eq Hd.as Hd.hx Hd.fn Hd.ts)
  (by kernel_rfl) (fun s => by kernel_rfl) Hd.run (by kernel_rfl) (by kernel_rfl) (by kernel_rfl) (by rfl) (by first | assumption | decide +kernel) (by decide +kernel) ⟨rfl, rfl, rfl, rfl, rfl, by decide +kernel⟩ ?hw hc
 case hw => w_witness2
end
namespace G
open PySem PySem.Spec PyProof.Rows L2
abbrev Cell := Nat × Addr × HO
structure Sep (H0 : Hp) (ft : List Addr) (H : Hp) (l : List Cell) : Prop where
 nd : (l.map (·.2.1)).Nodup
 rd : ∀ c ∈ l, H c.2.1 = some c.2.2
 fr : ∀ b o, H0 b = some o → b ∉ ft → H b = some o
 wr : ∀ c ∈ l, c.1 = 1 → c.2.1 ∈ ft
 nw : ∀ c ∈ l, c.1 = 2 → H0 c.2.1 = none
 ex : ∀ b ∈ ft, ∃ o, H b = some o
section
variable {H0 H H' : Hp} {ft : List Addr} {l : List Cell} {t : Nat} {a p q b : Addr} {o o' u : HO}
theorem Sep.nil (ex : ∀ b ∈ ft, ∃ o, H b = some o) : Sep H ft H [] := ⟨List.nodup_nil, fun _ h => (nomatch h), fun _ _ h _ => h, fun _ h => (nomatch h), fun _ h => (nomatch h), ex⟩
theorem Sep.get (S : Sep H0 ft H l) (i : Nat) (h : l[i]? = some (t, a, o)) : H a = some o := S.rd _ (List.mem_of_getElem? h)
theorem Sep.add (S : Sep H0 ft H l) (t : Nat) (ha : H a = some o) (hn : ∀ c ∈ l, c.2.1 ≠ a) (h1 : t = 1 → a ∈ ft) (h2 : t = 2 → H0 a = none) : Sep H0 ft H ((t, a, o) :: l) :=
 ⟨List.nodup_cons.mpr ⟨fun m => by obtain ⟨c, hc, e⟩ := List.mem_map.mp m; exact hn c hc e, S.nd⟩,
  fun c hc => (List.mem_cons.mp hc).elim (fun e => by rw [e]; exact ha) (S.rd c), S.fr,
  fun c hc => (List.mem_cons.mp hc).elim (fun e => by rw [e]; exact h1) (S.wr c),
  fun c hc => (List.mem_cons.mp hc).elim (fun e => by rw [e]; exact h2) (S.nw c), S.ex⟩
theorem Sep.none0 (S : Sep H0 ft H l) (hp : H p = none) : H0 p = none := by
 cases e : H0 p with
 | none => rfl
 | some o =>
  by_cases m : p ∈ ft
  ·obtain ⟨u, hu⟩ := S.ex p m
   rw [hp] at hu; cases hu
  ·have := S.fr p o e m
   rw [hp] at this; cases this
theorem Sep.new (S : Sep H0 ft H l) (hp : H p = none) (o : HO) : Sep H0 ft (upd H p o) ((2, p, o) :: l) := by
 have h0 := S.none0 hp
 have hne : ∀ c ∈ l, c.2.1 ≠ p := fun c hc e => by
  have := S.rd c hc
  rw [e, hp] at this; cases this
 have S' : Sep H0 ft (upd H p o) l := ⟨S.nd, fun c hc => by rw [upd_ne (hne c hc)]; exact S.rd c hc, fun b u e m => by rw [upd_ne (ne_of_none e h0)]; exact S.fr b u e m, S.wr, S.nw, fun b m => by obtain ⟨u, hu⟩ := S.ex b m; exact ⟨u, by rw [upd_ne (ne_of_none hu hp)]; exact hu⟩⟩
 exact S'.add 2 upd_same hne (fun e => by cases e) fun _ => h0
theorem Sep.st {K : PySem.W.Frag} {xs : List V} (S : Sep H0 ft H l) (i : Nat) (h : l[i]? = some (t, a, .tup xs)) : SqT K H a xs := .of (S.get i h)
end
section
variable {H0 H : Hp} {ft : List Addr} {l : List Cell} {t : Nat} {a p : Addr} {o : HO} {K : PySem.W.Frag} {σ : L2.St} {Q : VK} {v x y : V} {i j : Int}
theorem ixN_in {n : Nat} (h0 : 0 ≤ i) (h : i < n) : ixN n i = some i.toNat := by unfold ixN; rw [if_pos h0, if_pos h]
end
section
variable {H0 H : Hp} {ft : List Addr} {l : List Cell} {t : Nat} {a p : Addr} {o : HO} {K : PySem.W.Frag} {σ : L2.St} {Q : VK} {v x y : V} {i j : Int}
def rIL (K : PySem.W.Frag) : V → Hp → (It → Hp → Prop) → Prop := fun x H R => ∃ a, x = .ref a ∧ (∃ xs, SqL K H a xs) ∧ R (Itl K a) H
def rIT (K : PySem.W.Frag) : V → Hp → (It → Hp → Prop) → Prop := fun x H R => ∃ a, x = .ref a ∧ (∃ xs, SqT K H a xs) ∧ R (Itt K a) H
def iList1 (K : PySem.W.Frag) (tl : TE) : TI := fun σ H R => tl σ H fun x H1 => rIL K x H1 R
def iTup1 (K : PySem.W.Frag) (tl : TE) : TI := fun σ H R => tl σ H fun x H1 => rIT K x H1 R
theorem pi_list1 {X : Cx} {tg e : Expr} {tl : TE} (h : PE X e tl) : PI X tg e (iList1 X.K tl) := pi_list h
theorem pi_tup1 {X : Cx} {tg e : Expr} {tl : TE} (h : PE X e tl) : PI X tg e (iTup1 X.K tl) := pi_tup h
def rLst : List V → Hp → VK → Prop := fun xs H Q => xs.length ≤ sizeLine ∧ ∀ p, H p = none → Q (.ref p) (upd H p (.lst xs))
def rTup : List V → Hp → VK → Prop := fun xs H Q => xs.length ≤ sizeLine ∧ ∀ p, H p = none → Q (.ref p) (upd H p (.tup xs))
theorem pe_lst1 {X : Cx} {es : List Expr} {t : TA} {pos : Pos} (h : PA X es t) : PE X (.List es pos) (tCB rLst t) := pe_lst h
theorem pe_tup1 {X : Cx} {es : List Expr} {t : TA} {pos : Pos} {x1} (h : PA X es t) : PE X (.Tuple es x1 pos) (tCB rTup t) := pe_tup h
def rFld (K : PySem.W.Frag) (f : Str) : V → Hp → VK → Prop := fun x H Q => ∃ a C dx fs v, x = .ref a ∧ H a = some (.ins C dx fs) ∧ Cls K C ∧ NoAttr K C f ∧ fs.lookup f = some v ∧ Q v H
def rFldA (K : PySem.W.Frag) (f : Str) : V → Hp → (Addr → Addr → V → Prop) → Prop := fun x H R => ∃ a C dx fs v, x = .ref a ∧ H a = some (.ins C dx fs) ∧ Cls K C ∧ NoAttr K C f ∧ fs.lookup f = some v ∧ R a C v
def rPutA (f : Str) (a C : Addr) : V → Hp → (Hp → Prop) → Prop := fun z H R => ∃ dx fs, H a = some (.ins C dx fs) ∧ fs.length < 1000 ∧ R (upd H a (.ins C dx (putF f z fs)))
def rSFld (K : PySem.W.Frag) (f : Str) : V → V → Hp → (Hp → Prop) → Prop := fun x y H R => ∃ a C dx fs, x = .ref a ∧ H a = some (.ins C dx fs) ∧ Cls K C ∧ NoAttr K C f ∧ fs.length < 1000 ∧ R (upd H a (.ins C dx (putF f y fs)))
def sFld1 (K : PySem.W.Frag) (ta tv : TE) (f : Str) : TS := fun D σ H => tv σ H fun y H1 => ta σ H1 fun x H2 => rSFld K f x y H2 fun H3 => D.nx σ H3
def sFldAug1 (K : PySem.W.Frag) (ta tv : TE) (rd : V → V → Hp → VK → Prop) (f : Str) : TS := fun D σ H => ta σ H fun x H1 => rFldA K f x H1 fun a C v => tv σ H1 fun y H2 => rd v y H2 fun z H3 => rPutA f a C z H3 fun H4 => D.nx σ H4
def rMe (C : Addr) (m : Str) : V → Hp → Prop → Prop := fun x H R => ∃ a dx fs, x = .ref a ∧ H a = some (.ins C dx fs) ∧ fs.lookup m = none ∧ R
def rDIn : V → V → Hp → VK → Prop := fun y x H Q => ∃ a o, x = .ref a ∧ DGet H a y o ∧ Q (.bl o.isSome) H
def rDNi : V → V → Hp → VK → Prop := fun y x H Q => ∃ a o, x = .ref a ∧ DGet H a y o ∧ Q (.bl (!o.isSome)) H
def rDGet : V → V → Hp → VK → Prop := fun x y H Q => ∃ a v, x = .ref a ∧ DGet H a y (some v) ∧ Q v H
def rIsD : V → Hp → (Addr → Prop) → Prop := fun x H R => ∃ a, x = .ref a ∧ IsD H a ∧ R a
section
variable {X : Cx} {CX : CXT} {k j : Nat} {C : Addr} {f m : Str} {sp : Sp} {E : XK} {p pos pos' apos tpos cpos : Pos} {e i value : Expr} {es : List Expr} {td ty tv : TE} {ta : TE} {t : TA}
theorem pe_fld1 (he : PE X e ta) (hb : attributeBase e f X.env (eval e X.env) = eval e X.env) : PE X (.Attribute e f pos) (tUn (rFld X.K f) ta) := pe_fld he hb
theorem ps_fld1 (ha : PE X e ta) (hv : PE X value tv) (hs : swapsWith value (some (.Attribute e f pos')) pos.line X.env = pure false) : PS X (.Assign [.Attribute e f pos'] value pos) (sFld1 X.K ta tv f) := ps_fld ha hv hs
theorem ps_fldaug1 {op : Operator} {rd : V → V → Hp → VK → Prop} (ha : PE X e ta) (hv : PE X value tv) (hop : InOp X op rd) : PS X (.AugAssign (.Attribute e f tpos) op value pos) (sFldAug1 X.K ta tv rd f) := ps_fldaug ha hv hop
end
def rListOf (K : PySem.W.Frag) : List V → Hp → VK → Prop := fun xs H Q => ∃ p ys, xs = [.ref p] ∧ (SqL K H p ys ∨ SqT K H p ys) ∧ ∀ l, H l = none → Q (.ref l) (upd H l (.lst ys))
theorem cl_list {X : Cx} : CallR X (.type "list") (rListOf X.K) := call_list_of
theorem x_isi {A B : String} {b : Bool} (ty : TyX K H x (.type A)) (h : kitB A B = some b) (q : Q (.bl b) H) : rIsi K [x, .ty B] H Q := ⟨x, .ty B, .type A, .type B, b, rfl, .ty B, ty, kit_ty h, q⟩
theorem cl_isiK {X : Cx} (K : PySem.W.Frag) (h : X.K = K := by rfl) : CallR X (.builtin "isinstance") (rIsi K) := by subst h; exact call_isi
theorem ty_int : TyX K H (.int i) (.type "int") := .base (.int i)
theorem ty_bl {b : Bool} : TyX K H (.bl b) (.type "bool") := .base (.bl b)
theorem ty_str {z : Str} : TyX K H (.str z) (.type "str") := .base (.str z)
theorem ty_non : TyX K H .non (.type "NoneType") := .base .non
section
variable {X : Cx} {e : Expr} {tl : TE} {tg : Expr} {f : Str} {pos : Pos}
theorem cl_listK (K : PySem.W.Frag) (h : X.K = K := by rfl) : CallR X (.type "list") (rListOf K) := by subst h; exact cl_list
theorem sl_listK (K : PySem.W.Frag) (h : X.K = K := by rfl) : SlR X (rSlL K) := by subst h; exact sl_list
theorem op_eqDK (K : PySem.W.Frag) (hu : X.A.units + 64 < cLine) (h : X.K = K := by rfl) : OpR X (compareOp .Eq) (rEqD K) := by subst h; exact op_eqD hu
theorem op_neDK (K : PySem.W.Frag) (hu : X.A.units + 64 < cLine) (h : X.K = K := by rfl) : OpR X (compareOp .NotEq) (rNeD K) := by subst h; exact op_neD hu
theorem pe_fldK (K : PySem.W.Frag) (he : PE X e tl) (hb : attributeBase e f X.env (eval e X.env) = eval e X.env := by rfl) (h : X.K = K := by rfl) : PE X (.Attribute e f pos) (tUn (rFld K f) tl) := by subst h; exact pe_fld1 he hb
theorem pi_listK (K : PySem.W.Frag) (he : PE X e tl) (h : X.K = K := by rfl) : PI X tg e (iList1 K tl) := by subst h; exact pi_list1 he
theorem pi_tupK (K : PySem.W.Frag) (he : PE X e tl) (h : X.K = K := by rfl) : PI X tg e (iTup1 K tl) := by subst h; exact pi_tup1 he
end
end
section
variable {X : Cx} {CX : CXT} {k j : Nat} {C : Addr} {x m : Str} {sp : Sp} {E : XK} {p pos apos : Pos} {e o : Expr} {es : List Expr} {kws : List Keyword} {ks : List Str} {ta : TE} {t tk : TA}
end
def kwp (is : List Nat) {α : Type} (ws : List α) : List α := is.filterMap (ws[·]?)
theorem kwp_vals : ∀ (is : List Nat) {zs : List V} {ws : List Value}, L2.Vals zs ws → L2.Vals (kwp is zs) (kwp is ws)
 | [], _, _, _ => .nil
 | i :: r, zs, ws, h => by
  unfold kwp
  cases e : zs[i]? with
  | none =>
   rw [List.filterMap_cons_none e, List.filterMap_cons_none (h.none_of e)]
   exact kwp_vals r h
  | some v =>
   obtain ⟨u, e2, rv⟩ := h.get e
   rw [List.filterMap_cons_some e, List.filterMap_cons_some e2]
   exact .cons rv (kwp_vals r h)
section
variable {X : Cx} {CX : CXT} {k j : Nat} {C : Addr} {x m : Str} {sp : Sp} {E : XK} {p pos apos : Pos} {e o : Expr} {kws : List Keyword} {ks : List Str} {is : List Nat} {ta : TE} {t tk : TA}
end
section
variable {H0 H : Hp} {ft : List Addr} {l : List Cell} {t : Nat} {a p C : Addr} {o : HO} {c : Cell}
end
section
variable {H0 H H' : Hp} {ft ft' : List Addr} {l l' : List Cell}
end
theorem fun_kbn {K : PySem.W.Frag} {x qual : Str} {st : Stmt} {f : Addr} {fd : FuncData} (F : L2.Fun K x qual st f fd) (n : Nat) (ks : List Str) (is : List Nat) {ps : List Str}
  (h : ∀ (kV doc pm : Value) (an : Option Addr) (cdv ct : Value) (us ws : List Value), us.length = n → ws.length = ks.length → bindArgs (PySem.W.fnOf x qual (defArgs st) (defBody st) (defScope st) .none kV doc pm an cdv ct) ⟨us, ks.zip ws⟩ = pure (ps.zip (us ++ kwp is ws))) :
  KBn K fd ps n ks (fun us ws => us ++ kwp is ws) (fun vs zs => vs ++ kwp is zs) := by
 obtain ⟨oc, od, kV, doc, pm, an, cdv, ct, osl, rfl, lk, hcd⟩ := F.ex
 exact ⟨fun s us ws _ l1 l2 => .of_eq (h kV doc pm an cdv ct us ws l1 l2), fun r1 r2 => r1.append (kwp_vals is r2)⟩
section
variable {X : Cx}
end
end G
namespace G
open PySem PySem.Spec PyProof.Rows L2
section
variable {H0 H : Hp} {ft : List Addr} {l : List Cell} {t : Nat} {a p : Addr} {o u : HO} {K : PySem.W.Frag} {σ : L2.St} {Q : VK} {v x y z : V} {i j : Int}
def rDG (y z : V) (a : Addr) (H : Hp) (Q : VK) : Prop := ∃ o, DGet H a y o ∧ Q (o.getD z) H
def tDG2 (td ty tx : TE) : TE := fun σ H Q => td σ H fun x H1 => rIsD x H1 fun a => ty σ H1 fun y H2 => tx σ H2 fun z H3 => rDG y z a H3 Q
section
variable {X : Cx} {td ty tx : TE} {oe e f : Expr} {apos cpos : Pos}
theorem pe_dg2 (hu : X.A.units + 1 < cLine) (ho : PE X oe td) (he : PE X e ty) (hf : PE X f tx) (m : M2 X oe "get" apos e f cpos) : PE X (.Call (.Attribute oe "get" apos) [e, f] [] cpos) (tDG2 td ty tx) := pe_dget2 hu ho he hf m
end
def rAbs : List V → Hp → VK → Prop := fun xs H Q => ∃ i, xs = [.int i] ∧ Q (.int (if i < 0 then -i else i)) H
theorem cl_abs {X : Cx} : CallR X (.builtin "abs") rAbs := call_abs
end
end G
namespace G
open PySem PySem.Spec PyProof.Rows L2
section
variable {H0 H H' : Hp} {ft : List Addr} {l l' o' : List Cell} {t : Nat} {a p : Addr} {o u : HO} {K : PySem.W.Frag} {σ : L2.St} {Q : VK} {v x y z : V} {i j : Int}
def AllP {α : Type} (p : α → Prop) : List α → Prop
 | [] => True
 | a :: r => p a ∧ AllP p r
theorem AllP.all {α : Type} {p : α → Prop} : ∀ {us : List α}, AllP p us → ∀ u ∈ us, p u
 | a :: r, ⟨h, hr⟩, u, hu => (List.mem_cons.mp hu).elim (fun e => e ▸ h) fun m => AllP.all hr u m
end
end G
namespace G
open PySem PySem.Spec PyProof.Rows L2
section
variable {H0 H H' : Hp} {ft : List Addr} {l : List Cell} {t : Nat} {a p : Addr} {K : PySem.W.Frag} {σ : L2.St} {Q : VK} {v x y z : V} {i j : Int}
theorem op_inK {X : Cx} (K : PySem.W.Frag) (h : X.K = K := by rfl) : OpR X (compareOp .In) (rIn K false) := by subst h; exact op_in_seq
theorem op_niK {X : Cx} (K : PySem.W.Frag) (h : X.K = K := by rfl) : OpR X (compareOp .NotIn) (rIn K true) := by subst h; exact op_notIn_seq
def rAddS : V → V → Hp → VK → Prop := fun x y H Q => ∃ i j, x = .str i ∧ y = .str j ∧ i.length + j.length ≤ sizeLine ∧ Q (.str (i ++ j)) H
theorem op_addS {X : Cx} : OpR X (binaryOp .Add) rAddS := op_add_str
def rStr : V → Hp → (It → Hp → Prop) → Prop := fun v H R => ∃ x, v = .str x ∧ R (Its x) H
def iStr1 (te : TE) : TI := fun σ H R => te σ H fun v H1 => rStr v H1 R
theorem pi_str1 {X : Cx} {tg e : Expr} {te : TE} (he : PE X e te) : PI X tg e (iStr1 te) := pi_str he
end
def Low (s : Str) : Prop := ∀ c ∈ s.cps.toList, 97 ≤ c ∧ c ≤ 122
structure OkN (s : Str) : Prop where
 l1 : 1 ≤ s.length
 l8 : s.length ≤ 8
 low : Low s
end G
set_option maxHeartbeats 2000000
namespace G
open PySem PySem.Spec PyProof.Rows
theorem nolen_ti : typeLookup (.type "tuple_iterator") "__len__" = pure none := by rw [typeLookup_type, builtinLookup_eq_fast]; kernel_rfl
theorem hint_ti : typeLookup (.type "tuple_iterator") "__length_hint__" = pure (some (.builtin "tuple_iterator.__length_hint__")) := by rw [typeLookup_type, builtinLookup_eq_fast]; kernel_rfl
section
variable {prog : Program} {w : World} {A : Around} {E : Value → Shared → Prop} {s : Shared}
theorem walks_shift {I : Addr} {fp wr : List Addr} {n k : Nat} {P : Nat → Value → Prop} {St : Nat → Heap → Prop} (W : Walks prog w A I fp wr n P St) (hk : k ≤ n) : Walks prog w A I fp wr (n - k) (fun i v => P (k + i) v) (fun i h => St (k + i) h) where
  sub := W.sub
  frame := fun i h h' st hf => W.frame (k + i) h h' st hf
  item := fun i s Q E hi st hQ => W.item (k + i) s Q E (by omega) st hQ
  done := fun s Q E st hQ => W.done s Q E (by have e : k + (n - k) = n := by omega
                                              rw [e] at st; exact st) hQ
  self := fun i s Q E st hQ => W.self (k + i) s Q E st hQ
theorem collect_ti {it t : Addr} {items : Array Value} {k : Nat} {Q : List Value → Shared → Prop} (hh : A.handled = none) (hit : s.heap.IsTupleIter it t k) (ht : s.heap.IsTuple t items) (hne : t ≠ it) (hk : k ≤ items.size) (hn : items.size ≤ sizeLine)
  (hQ : ∀ (h' : Heap) (tk : Nat) (acc : Array Value), (∀ b o, b ≠ it → s.heap.get? b = some o → h'.get? b = some o) → ItemsOf (fun i v => items[k + i]? = some v) acc (items.size - k) → Q acc.toList { s with heap := h', toks := tk }) :
  wpAny (model prog w) A (collect (.ref it)) Q E s := by
 have W := (walks_shift (Walks.tuple (prog := prog) (w := w) (A := A.in1) hh it t hne items) hk).toS
 obtain ⟨oi, hoi, hci, _⟩ := id hit
 obtain ⟨ol, hol, _⟩ := id ht
 have hSi : s.heap.objs.size ≠ it := Nat.ne_of_gt (Heap.lt_size hoi)
 have hSl : s.heap.objs.size ≠ t := Nat.ne_of_gt (Heap.lt_size hol)
 have hSf : s.heap.objs.size ∉ [it, t] := by simp only [List.mem_cons, List.not_mem_nil, or_false, not_or]; exact ⟨hSi, hSl⟩
 unfold collect
 refine wpAny_bind (wpAny_runValue (codeAny_builtin F.entry_proto_collect ?_))
 rw [Around.under_plainId F.plain_proto_collect _]
 show wpAny _ A.in1 (newList [] >>= fun l' => again (.builtin "list.__iadd__" ⟨[l', .ref it], []⟩)) _ _ s
 refine wpAny_bind (wpAny_newObj_type ?_)
 refine wpAny_pure ⟨plainId_quiet F.plain_list_iadd _, codeAny_builtin F.entry_list_iadd ?_⟩
 rw [Around.under_plainId F.plain_list_iadd _]
 have hS₁ : (s.heap.push { cls := .type "list", data := .seq ([] : List Value).toArray }).get? s.heap.objs.size = some { cls := .type "list", data := .seq ([] : List Value).toArray } := Heap.get?_push_size _ rfl
 have hit1 : (s.heap.push { cls := .type "list", data := .seq ([] : List Value).toArray }).IsTupleIter it t k := hit.at fun o e => Heap.get?_push_of_some _ e
 have ht1 : (s.heap.push { cls := .type "list", data := .seq ([] : List Value).toArray }).IsTuple t items := ht.at fun o e => Heap.get?_push_of_some _ e
 have hT : ({ s with heap := s.heap.push { cls := .type "list", data := .seq ([] : List Value).toArray } } : Shared).TypeIs (.ref it) "tuple_iterator" := ⟨oi, Heap.get?_push_of_some _ hoi, hci⟩
 have h1 : Builtin.List.listSameRef (.ref s.heap.objs.size) (.ref it) = false := by simp [Builtin.List.listSameRef, hSi]
 show wpAny _ A.in1 (Builtin.List.listExtendWith (.ref s.heap.objs.size) (.ref it) (.ref s.heap.objs.size)) _ _ _
 unfold Builtin.List.listExtendWith
 refine wpAny_bind (wpAny_typeOf hT ?_)
 rw [if_neg (by rw [h1]; decide)]
 refine wpAny_bind (wpAny_pyIter_tupleiter (s := { s with heap := s.heap.push { cls := .type "list", data := .seq ([] : List Value).toArray } }) hit1 ?_)
 refine wpAny_bind (wpAny_holding ?_)
 unfold Builtin.List.listLengthHint
 refine wpAny_bind (wpAny_specialOf hT nolen_ti ?_)
 show wpAny _ A.in1 (specialOf (Value.ref it) (Str.ofString "__length_hint__") >>= _) _ _ _
 refine wpAny_bind (wpAny_specialOf hT hint_ti ?_)
 generalize hid : ("tuple_iterator.__length_hint__" : String) = id0
 wp_delta
 rw [show splitId id0 = some ("tuple_iterator", "__length_hint__") from by subst hid; decide +kernel]
 subst hid
 refine wpAny_bind (wpAny_isInstance (b := true) hT (by rw [isSubtype_type]; kernel_rfl) ?_)
 refine wpAny_pure ?_
 rw [if_neg (by decide)]
 refine wpAny_pure ⟨plainId_quiet F.plain_extend_loop _, codeAny_extend_loopS W (by omega) _ hSf _ (items.size - k) 0 _ _ _ rfl (Nat.zero_le _) ⟨hit1, ht1⟩ hS₁ (ItemsOf.nil _) fun s' acc' c' hm hS' hacc => ?_⟩
 show wpAny _ A (load s.heap.objs.size >>= _) _ _ s'
 refine wpAny_bind (wpAny_load hS' ?_)
 refine wpAny_pure ?_
 rw [Moved.eq_with hm]
 refine hQ s'.heap s'.toks acc' (fun b o hb e => hm.heap b o (fun hmem => ?_) (Heap.get?_push_of_some _ e)) hacc
 rcases List.mem_cons.mp hmem with e' | hmem
 ·exact absurd (Heap.lt_size e) (by rw [e']; exact Nat.lt_irrefl _)
 ·exact hb (List.mem_singleton.mp hmem)
theorem unpackItems_star {t : Addr} {items : Array Value} {k : Nat} {Q : List Value → Shared → Prop} (hh : A.handled = none) (ht : IsTup s.heap t items) (hk : k ≤ items.size) (hn : items.size ≤ sizeLine)
  (hQ : ∀ (h' : Heap) (tk : Nat), Heap.ExtBut s.heap.objs.size s.heap h' → Q (items.toList.take k ++ [.ref h'.objs.size]) { s with heap := h'.push { cls := .type "list", data := .seq (items.toList.drop k).toArray }, toks := tk }) : wpAny (model prog w) A (unpackItems (.ref t) (k + 1) (some k)) Q E s := by
 have hlt : t ≠ s.heap.objs.size := by obtain ⟨o, ho, _⟩ := ht; exact Nat.ne_of_lt (Heap.lt_size ho)
 unfold unpackItems
 refine wpAny_bind ?_
 ·unfold notIterableAtAll
  refine wpAny_bind (wpAny_specialOf ht.typeIs slot_tuple_iter.lookup ?_)
  refine wpAny_pure ?_
  simp only [Bool.false_eq_true, if_false]
  refine wpAny_bind (wpAny_holding (iter_tuple ht ?_))
  refine wpAny_bind (wpAny_holding (draw_tuple hlt k 0 _ _ ⟨_, Heap.get?_push_size _ rfl, rfl, rfl⟩ (ht.push _) (by omega) fun h₁ hit₁ hs₁ => ?_))
  rw [List.drop_zero]
  have hl1 : (items.toList.take k).length = k := by rw [List.length_take, Array.length_toList]; omega
  rw [if_neg (by rw [hl1]; omega)]
  have ht₁ : IsTup h₁ t items := (ht.push _).extBut hs₁.extBut hlt
  rw [Nat.zero_add] at hit₁
  refine wpAny_bind (wpAny_holding (collect_ti hh (s := { s with heap := h₁ }) (k := k) hit₁ ht₁ hlt hk hn fun h₂ tk acc hx hacc => ?_))
  have hall : acc.toList = items.toList.drop k := by
   apply List.ext_getElem?
   intro j
   rw [List.getElem?_drop]
   by_cases hj : j < acc.size
   ·have e1 : acc.toList[j]? = some acc[j] := by rw [Array.getElem?_toList, Array.getElem?_eq_getElem hj]
    have := hacc.2 j acc[j] (Array.getElem?_eq_getElem hj)
    rw [e1, Array.getElem?_toList, this]
   ·have hs := hacc.1
    rw [List.getElem?_eq_none (by rw [Array.length_toList]; omega), List.getElem?_eq_none (by rw [Array.length_toList]; omega)]
  rw [hall]
  rw [show k + 1 - 1 - k = 0 by omega]
  rw [if_neg (by omega), Nat.sub_zero, List.take_length, List.drop_length]
  refine wpAny_bind (wpAny_newList ?_)
  refine wpAny_pure ?_
  rw [List.append_nil]
  exact hQ h₂ tk fun b o hb e => hx b o hb (hs₁.extBut b o hb (Heap.get?_push_of_some _ e))
end
end G
namespace L2
open PySem PySem.Spec PyProof.Rows
section
variable {X : Cx} {pos : Pos}
def gStar (K : PySem.W.Frag) (k : Nat) (t : TGs) : TG := fun v σ H Q => ∃ a xs, v = .ref a ∧ SqT K H a xs ∧ k ≤ xs.length ∧ ∀ r, H r = none → t (xs.take k ++ [.ref r]) σ (upd H r (.lst (xs.drop k))) Q
theorem vals_take : ∀ {xs : List V} {us : List Value} (k : Nat), Vals xs us → Vals (xs.take k) (us.take k)
 | _, _, 0, _ => .nil
 | _, _, _ + 1, .nil => .nil
 | _, _, k + 1, .cons r h => .cons r (vals_take k h)
theorem vals_drop : ∀ {xs : List V} {us : List Value} (k : Nat), Vals xs us → Vals (xs.drop k) (us.drop k)
 | _, _, 0, h => h
 | _, _, _ + 1, .nil => .nil
 | _, _, k + 1, .cons _ h => vals_drop k h
theorem pg_star {es : List Expr} {j : Nat} {t : TGs} (K : PySem.W.Frag) (k : Nat) (hc : X.calm = true) (h : PGs X es t) (hn : (assignEach es X.env).length = k + 1 := by rfl) (hst : (assignEach es X.env).findIdx? (·.1) = some k := by rfl) (hK : X.K = K := by rfl) : PG X (.Tuple es j pos) (gStar K k t) := by
 subst hK
 refine ⟨fun pins s σ H v u Q I r hw => ?_⟩
 obtain ⟨a, xs, e1, hq, hl, hw⟩ := hw
 subst e1
 cases r
 obtain ⟨its, rv, ht, hz⟩ := I.tuple hq
 rw [PyProof.Rows.assign_Tuple]
 refine wpAny_bind (wpAny_standAt ?_)
 unfold unpack
 rw [hn, hst]
 have hlen := rv.length
 refine wpAny_bind (wpAny_holding (G.unpackItems_star (I.ok.hd hc) ht (by rw [List.size_toArray]; omega) (by rw [List.size_toArray]; omega) fun h' tk hx => ?_))
 have I1 : Inv X pins σ H { s with heap := h', toks := tk } := I.kept (t' := tk) fun b o e => hx b o (Nat.ne_of_lt (Heap.lt_size e)) e
 have I2 := I1.lnew (ys := xs.drop k) (its := its.drop k) (t' := tk) (vals_drop k rv) (by rw [List.length_drop]; omega)
 exact h.run pins _ σ _ (xs.take k ++ [.ref h'.objs.size]) _ Q I2 ((vals_take k rv).append (show Vals [V.ref h'.objs.size] [Value.ref h'.objs.size] from .cons rfl .nil)) (hw _ I1.fresh)
end
end L2
namespace G
open PySem PySem.Spec PyProof.Rows L2
section
variable {H0 H H' : Hp} {ft : List Addr} {l l' m T : List Cell} {t : Nat} {a p : Addr} {o u : HO} {K : PySem.W.Frag} {σ : L2.St} {Q : VK} {v x y z : V} {i j : Int}
theorem Sep.perm (S : Sep H0 ft H l) (p : l'.Perm l) : Sep H0 ft H l' :=
 ⟨(p.map _).nodup_iff.mpr S.nd, fun c hc => S.rd c (p.mem_iff.mp hc), S.fr, fun c hc => S.wr c (p.mem_iff.mp hc), fun c hc => S.nw c (p.mem_iff.mp hc), S.ex⟩
theorem Sep.tail (S : Sep H0 ft H (m ++ l)) (n : Nat) : Sep H0 ft H (l.take n ++ (m ++ l.drop n)) := by
 refine S.perm ?_
 have h := List.perm_append_comm_assoc (l.take n) m (l.drop n)
 rw [List.take_append_drop] at h
 exact h
end
end G
namespace G
open PySem PySem.Spec PyProof.Rows L2
structure ExcC (K : PySem.W.Frag) (mg : Str → Option Value) (x : Str) (C : Addr) : Prop where
 g : mg x = some (.ref C)
 q : PySem.W.excIn K C [.type "ValueError", .type "Exception", .type "BaseException", .type "object"] "ValueError.__new__" = true
 k : PySem.W.keepIn K (.ref C) = true
 s : PySem.W.subIn K (.ref C) (.type "BaseException") = some true
 t : PySem.W.typeIn K (.ref C) = some (.type "type")
theorem ps_raiseC {X : Cx} {W : WX} {x m : Str} {C : Addr} {j : Nat} {p p2 pos pos2 : Pos} (c : ExcC X.K X.mg x C) (hc : X.calm = true) (tk : Takes X W) (hg : Gl X x) (hdb : (x == ("__debug__" : Str)) = false := by decide) :
  PS X (.Raise (some (.Call (.Name x p) [.Constant (.str m) j p2] [] pos)) none pos2) (fun _ σ H => W (.ref C) none σ H) :=
 ps_raise hc tk (pmk_own F.excBase_ValueError c.q c.g c.k (raises_own c.s c.t) hg hdb)
section
variable {X : Cx} {CX : CXT} {k j : Nat} {C : Addr} {x m : Str} {sp : Sp} {E : L2.St → XK} {p pos apos : Pos} {e o : Expr} {es : List Expr} {ta : TE} {t : TA}
end
end G
set_option maxHeartbeats 4000000
namespace G
open PySem PySem.Spec PyProof.Rows L2
def ExS (cls : Value) (d : Option Addr) (a : Addr) : HO := .ext fun h => ∃ (oe : Obj) (vs : Array Value), h.get? a = some oe ∧ Zc cls d oe ∧ oe.data = .fields vs
section
variable {X : Cx} {x n : Str} {c : Value} {i : Nat} {body suite : List Stmt} {b₀ : Stmt} {np pos pos' : Pos} {tb : WX → TS} {ts : Addr → Value → Option Addr → TS} {Wout : WX}
end
section
variable {X : Cx} {CX : CXT} {k j n : Nat} {C f : Addr} {fd : FuncData} {ps : List Str} {g : List Value → List Value → List Value} {gV : List V → List V → List V} {x m : Str} {sp : Sp} {E : L2.St → XK} {p pos apos : Pos} {e o : Expr} {kws : List Keyword} {ks : List Str} {is : List Nat} {ta : TE} {t tk : TA}
theorem run_fnNS {pins : List (Addr × Obj)} {σ : L2.St} {H : Hp} {s : Shared} {Q : VK} {us ws : List Value} {vs zs : List V} (F : FnOk X.prog X.w X.K X.mg X.base CX k f fd ps sp) (hr : Room k X.A) (hb : KBn X.K fd ps n ks g gV) (hx : PassesAt CX X σ (E σ))
  (I : Inv X pins σ H s) (r : Vals vs us) (rz : Vals zs ws) (l1 : vs.length = n) (l2 : zs.length = ks.length) (h : sp (gV vs zs) H Q (E σ)) : wpAny (model X.prog X.w) X.A (call (.ref f) us (ks.zip ws)) (EP X pins σ Q) X.xe s :=
 wpAny_call (codeAny_mono (F.run X.A X.stack s H ⟨us, ks.zip ws⟩ (g us ws) (gV vs zs) Q (E σ) hr I.env0 (hb.to s us ws I.kIn (r.length.symm.trans l1) (rz.length.symm.trans l2)) (hb.rel r rz) h) fun r s' hq => match r, hq with
  | .error e, hq => hx pins H s e s' I hq
  | .ok (.ret u), hq => I.after hq)
end
end G
namespace G
open PySem PySem.Spec PyProof.Rows L2
abbrev kSN (s : Str) (n : Int) : List Key := [.inr s, .inl n]
section
open PySem.W PySem.Calls
variable {prog : Program} {w : World} {K : Type} [DecidableEq K] {knd : HeapKind prog w K}
end
section
variable {H0 H : Hp} {ft : List Addr} {l : List Cell} {t t' : Nat} {p b : Addr} {K : PySem.W.Frag} {Q : VK} {v : V}
end
end G
namespace G
open PySem PySem.Spec PyProof.Rows L2
section
variable {κ : Type} [DecidableEq κ]
end
structure TK (tk : List (List Key × V)) (ks : List (Str × Int)) : Prop where
 ks : tk.map (·.1) = ks.map fun k => kSN k.1 k.2
 nd : (tk.map (·.1)).Nodup
theorem TK.nil : TK [] [] := ⟨rfl, List.nodup_nil⟩
def lvs (al : Bool) (fl n : Int) : Bool := al || decide (n < fl)
def goes (s : Str) (al : Bool) (fl : Int) : List Key → Bool
 | [.inr x, .inl n] => decide (x = s) && lvs al fl n
 | _ => false
def GoneIn (L : List Cell) (s : Str) (tk : List (List Key × V)) (g : List Int) (ws : List V) : Prop := Paired (fun w n => ∃ (a : Addr) (v : V), w = V.ref a ∧ valV tk (kSN s n) = some v ∧ (2, a, HO.tup [.int n, v]) ∈ L) ws g
abbrev MS := Str → Option (Int × Int)
def MetAt (H : Hp) (mk : List (Key × V)) (ms : MS) : Prop := ∀ s : Str, (ms s = none ∧ valV mk (.inr s : Key) = none) ∨ ∃ (t : Addr) (b f : Int), ms s = some (b, f) ∧ valV mk (.inr s : Key) = some (.ref t) ∧ H t = some (.tup [.int b, .int f])
def MetIn (L : List Cell) (mk : List (Key × V)) (ms : MS) : Prop := ∀ s : Str, (ms s = none ∧ valV mk (.inr s : Key) = none) ∨ ∃ (t : Addr) (b f : Int), ms s = some (b, f) ∧ valV mk (.inr s : Key) = some (.ref t) ∧ (2, t, HO.tup [.int b, .int f]) ∈ L
def kn (ms : MS) (s : Str) : Int × Int := (ms s).getD (0, 1)
def msPut (ms : MS) (s : Str) (b f : Int) : MS := fun x => if x = s then some (b, f) else ms x
theorem kn_none {ms : MS} {s : Str} (h : ms s = none) : kn ms s = (0, 1) := by unfold kn; rw [h]; rfl
theorem kn_some {ms : MS} {s : Str} {p : Int × Int} (h : ms s = some p) : kn ms s = p := by unfold kn; rw [h]; rfl
theorem MetIn.nil : MetIn [] [] (fun _ => none) := fun _ => .inl ⟨rfl, rfl⟩
theorem MetIn.at {H0 H : Hp} {ft : List Addr} {l L : List Cell} {mk : List (Key × V)} {ms : MS} (h : MetIn L mk ms) (S : Sep H0 ft H l) (hL : ∀ c ∈ L, c ∈ l) : MetAt H mk ms := fun s => (h s).imp id fun ⟨t, b, f, h1, h2, h3⟩ => ⟨t, b, f, h1, h2, S.rd _ (hL _ h3)⟩
def nw (ms : MS) (tk : List (List Key × V)) (hf : Bool) (s : Str) (bo n : Int) : Bool := decide (bo = (kn ms s).1) && !(valV tk (kSN s n)).isSome && (decide (n ≥ (kn ms s).2) || !hf)
mutual
inductive DpL (L : List Cell) : V → PyData → Prop
 | non : DpL L .non .none
 | int (i : Int) : DpL L (.int i) (.int i)
 | str (x : Str) : DpL L (.str x) (.str x)
 | tup {a : Addr} {xs : List V} {ds : List PyData} : (2, a, HO.tup xs) ∈ L → DpLs L xs ds → DpL L (.ref a) (.tuple ds)
inductive DpLs (L : List Cell) : List V → List PyData → Prop
 | nil : DpLs L [] []
 | cons {v : V} {vs : List V} {d : PyData} {ds : List PyData} : DpL L v d → DpLs L vs ds → DpLs L (v :: vs) (d :: ds)
end
def PlainD : Nat → PyData → Prop
 | _, .none => True
 | _, .int _ => True
 | _, .str _ => True
 | n + 1, .list ds => ds.length < 10000 ∧ ∀ d ∈ ds, PlainD n d
 | n + 1, .tuple ds => ds.length < 10000 ∧ ∀ d ∈ ds, PlainD n d
 | _, _ => False
theorem TK.at {tk : List (List Key × V)} {ks : List (Str × Int)} (h : TK tk ks) {i : Nat} {k : List Key} {v : V} (e : tk[i]? = some (k, v)) : ∃ kk : Str × Int, ks[i]? = some kk ∧ k = kSN kk.1 kk.2 := by
 have h1 : (tk.map (·.1))[i]? = some k := by rw [List.getElem?_map, e]; rfl
 rw [h.ks, List.getElem?_map] at h1
 cases q : ks[i]? with
 | none => rw [q] at h1; cases h1
 | some kk =>
  rw [q] at h1
  exact ⟨kk, rfl, (Option.some.inj h1).symm⟩
def mAl (ms : MS) (s : Str) (bo : Int) : Bool := decide (bo ≠ (kn ms s).1)
def mFl (ms : MS) (s : Str) (bo fl : Int) : Int := if bo = (kn ms s).1 then max fl (kn ms s).2 else fl
end G
namespace G
open PySem PySem.Spec PyProof.Rows L2
section
variable {H0 H : Hp} {ft : List Addr} {l : List Cell} {t : Nat} {p : Addr} {K : PySem.W.Frag} {Q : VK} {x y : V}
end
mutual
inductive DpH (H : Hp) : V → PyData → Prop
 | non : DpH H .non .none
 | int (i : Int) : DpH H (.int i) (.int i)
 | str (x : Str) : DpH H (.str x) (.str x)
 | tup {a : Addr} {xs : List V} {ds : List PyData} : H a = some (.tup xs) → DpHs H xs ds → DpH H (.ref a) (.tuple ds)
 | lst {a : Addr} {xs : List V} {ds : List PyData} : H a = some (.lst xs) → DpHs H xs ds → DpH H (.ref a) (.list ds)
inductive DpHs (H : Hp) : List V → List PyData → Prop
 | nil : DpHs H [] []
 | cons {v : V} {vs : List V} {d : PyData} {ds : List PyData} : DpH H v d → DpHs H vs ds → DpHs H (v :: vs) (d :: ds)
end
theorem DpHs.at {H : Hp} : ∀ {vs : List V} {ds : List PyData} {i : Nat} {v : V}, DpHs H vs ds → vs[i]? = some v → ∃ d, ds[i]? = some d ∧ DpH H v d
 | _, _, i, v, .nil, h => by simp at h
 | _, _, 0, v, .cons (d := d) h _, e => by
  have e : some _ = some v := e
  cases e
  exact ⟨d, rfl, h⟩
 | _, _, i + 1, v, .cons _ r, e => DpHs.at (i := i) r e
end G
namespace G
open PySem PySem.Spec PyProof.Rows L2
section
variable {H0 H : Hp} {ft : List Addr} {l m : List Cell} {t t2 : Nat} {p u : Addr} {Q : VK}
theorem MetAt.fr {mk : List (Key × V)} {ms : MS} (h : MetAt H0 mk ms) (S : Sep H0 ft H l) (hf : ∀ t xs, H0 t = some (.tup xs) → t ∉ ft) : MetAt H mk ms := fun s => (h s).imp id fun ⟨t, b, f, h1, h2, h3⟩ => ⟨t, b, f, h1, h2, S.fr _ _ h3 (hf _ _ h3)⟩
end
end G
namespace G
open PySem PySem.Spec PyProof.Rows L2
def keyT (e : Int × Value) : Str := match e.2 with | .str k _ => k | _ => Str.empty
def GoodT (w : World) (e : Int × Value) : Prop := ∃ k u, e.2 = Value.str k u ∧ e.1 = hashStr w k
def SetT (w : World) (h : Heap) (a : Addr) (S : Str → Bool) (n : Nat) : Prop :=
 ∃ o es ep t, h.get? a = some o ∧ o.ExactSet ∧ o.data = .set es ep t ∧ (∀ e ∈ es.toList, GoodT w e) ∧ (es.toList.map keyT).Nodup ∧ (∀ k, S k = true ↔ k ∈ es.toList.map keyT) ∧
  es.size < scanBound ∧ t.fits es.size = true ∧ es.size = n ∧ Ris t.place.toList ∧ (w.params.followText "set-order" = true ∨ t.led = true)
section
variable {P : Program} {w : World} {h h' : Heap} {a : Addr} {S : Str → Bool} {n : Nat}
theorem SetT.at (R : SetT w h a S n) (k : ∀ o, h.get? a = some o → h'.get? a = some o) : SetT w h' a S n :=
 let ⟨o, es, ep, t, ho, r⟩ := R
 ⟨o, es, ep, t, k o ho, r⟩
end
section
variable {P : Program} {w : World} {A : Around} {E : Value → Shared → Prop} {s : Shared} {a : Addr} {S : Str → Bool} {n : Nat}
end
def SetTq (w : World) (a : Addr) (S : Str → Bool) (n : Nat) : HO := .ext fun h => SetT w h a S n
section
variable {X : Cx}
end
end G
namespace G
open PySem PySem.Spec PyProof.Rows L2
section
variable {X : Cx}
end
section
variable {H0 H : Hp} {ft : List Addr} {l : List Cell} {t : Nat} {a p : Addr} {σ : L2.St} {Q : VK} {w : World}
end
def MemOf (S : Str → Bool) (l : List Str) : Prop := l.Nodup ∧ ∀ k, S k = true ↔ k ∈ l
theorem MemOf.nil : MemOf (fun _ => false) [] := ⟨List.nodup_nil, fun k => ⟨fun z => absurd z Bool.false_ne_true, fun z => nomatch z⟩⟩
theorem MemOf.add {S : Str → Bool} {l : List Str} (h : MemOf S l) (c : Str) : ∃ l', MemOf (fun j => S j || decide (j = c)) l' ∧ l'.length = (if S c = true then l.length else l.length + 1) ∧ ∀ k, k ∈ l' ↔ (k ∈ l ∨ k = c) := by
 by_cases q : S c = true
 ·refine ⟨l, ⟨h.1, fun k => ?_⟩, by rw [if_pos q], fun k => ⟨.inl, fun z => z.elim id fun e => e ▸ (h.2 c).mp q⟩⟩
  rw [Bool.or_eq_true, decide_eq_true_eq, h.2 k]
  exact ⟨fun z => z.elim id fun e => e ▸ (h.2 c).mp q, .inl⟩
 ·refine ⟨c :: l, ⟨List.nodup_cons.mpr ⟨fun z => q ((h.2 c).mpr z), h.1⟩, fun k => ?_⟩, by rw [if_neg q]; rfl, fun k => by rw [List.mem_cons]; exact Or.comm⟩
  rw [Bool.or_eq_true, decide_eq_true_eq, h.2 k, List.mem_cons]
  exact Or.comm
theorem cps_eq {a b : Str} (h : a.cps.toList = b.cps.toList) : a = b := by cases a; cases b; congr; exact Array.toList_inj.mp h
theorem ris_pair : ∀ (l : List Str) (p : Str), risingS p l = true → (p :: l).Pairwise (fun a b => ¬ b.cps.toList < a.cps.toList)
 | [], p, _ => List.pairwise_singleton _ _
 | x :: r, p, h => by
  unfold risingS at h
  rw [Bool.and_eq_true, Bool.not_eq_true', ltCps_eq, decide_eq_false_iff_not] at h
  have ih := ris_pair r x h.2
  refine List.pairwise_cons.mpr ⟨fun y hy => ?_, ih⟩
  rcases List.mem_cons.mp hy with rfl | hy
  ·exact h.1
  ·have h2 := (List.pairwise_cons.mp ih).1 y hy
   exact fun z => absurd (Std.lt_of_lt_of_le z (List.not_lt.mp h.1)) h2
theorem sorted_pair {l : List Str} (h : sortedS l = true) : l.Pairwise (fun a b => ¬ b.cps.toList < a.cps.toList) := by
 cases l with
 | nil => exact List.Pairwise.nil
 | cons x r => exact ris_pair r x h
theorem sorted_oneI {a b : List Int} (p : a.Perm b) (ha : a.Pairwise (· ≤ ·)) (hb : b.Pairwise (· ≤ ·)) : a = b := List.Perm.eq_of_pairwise (fun x y _ _ h1 h2 => by omega) ha hb p
end G
namespace G
open PySem PySem.Spec PyProof.Rows L2
section
variable {H0 H : Hp} {ft : List Addr} {l : List Cell} {t : Nat} {p : Addr} {Q : VK} {w : World} {K : PySem.W.Frag}
end
def ThN (n : Nat) (L : List Cell) (tk : List (List Key × V)) : Prop := ∀ k v, valV tk k = some v → ∃ d, DpL L v d ∧ PlainD n d
theorem ThN.nil {n : Nat} {L : List Cell} : ThN n L [] := fun _ _ h => nomatch h
theorem GoneIn.there {L : List Cell} {s : Str} {tk : List (List Key × V)} : ∀ {g : List Int} {ws : List V}, GoneIn L s tk g ws → ∀ x ∈ g, ∃ v, valV tk (kSN s x) = some v
 | _, _, .cons ⟨a, v, h1, h2, h3⟩ r, x, hx => (List.mem_cons.mp hx).elim (fun e => ⟨v, by rw [e]; exact h2⟩) (GoneIn.there r x)
end G
namespace G
open PySem PySem.Spec PyProof.Rows L2
section
variable {H0 H : Hp} {ft : List Addr} {l : List Cell} {t t' : Nat} {p b : Addr} {Q : VK} {v : V}
end
section
variable {κ : Type} [DecidableEq κ]
end
def ThT (n : Nat) (L : List Cell) (a b : List (List Key × V)) : Prop := b.map (·.1) = a.map (·.1) ∧ ∀ k v, valV a k = some v → ∃ w d, valV b k = some w ∧ DpL L v d ∧ DpL L w d ∧ PlainD n d
theorem ThT.nil {n : Nat} {L : List Cell} : ThT n L [] [] := ⟨rfl, fun _ _ h => nomatch h⟩
def MetAll (tk : List (List Key × V)) (ms : MS) : Prop := ∀ s n, kSN s n ∈ tk.map (·.1) → ms s ≠ none
theorem MetAll.nil {ms : MS} : MetAll [] ms := fun _ _ h => nomatch h
theorem MetAll.met {tk : List (List Key × V)} {ms : MS} (h : MetAll tk ms) (s : Str) (b f : Int) : MetAll tk (msPut ms s b f) := fun x m hm => by
 unfold msPut
 by_cases e : x = s
 ·rw [if_pos e]; exact fun z => nomatch z
 ·rw [if_neg e]; exact h x m hm
end G
namespace G
open PySem PySem.Spec PyProof.Rows L2
section
variable {X : Cx}
end
section
variable {H0 H : Hp} {ft : List Addr} {l : List Cell} {t : Nat} {p : Addr} {Q : VK} {K : PySem.W.Frag}
end
def rInt1 : List V → Hp → VK → Prop := fun xs H Q => (∃ i, xs = [.int i] ∧ Q (.int i) H) ∨ ∃ k, xs = [.bl k] ∧ Q (.int (if k then 1 else 0)) H
theorem cl_int1 {X : Cx} : CallR X (.type "int") rInt1 := call_int1
end G
namespace G
open PySem PySem.Spec PyProof.Rows L2
structure Fr where
 s : Str
 b : Int
 n : Int
 f : Int
def ksOut (s : Str) (al : Bool) (fl : Int) (ks : List (Str × Int)) : List (Str × Int) := ks.filter fun k => !goes s al fl (kSN k.1 k.2)
theorem mem_ksOut {s x : Str} {al : Bool} {fl n : Int} {ks : List (Str × Int)} : (x, n) ∈ ksOut s al fl ks ↔ (x, n) ∈ ks ∧ ¬ (x = s ∧ (al = true ∨ n < fl)) := by
 unfold ksOut
 rw [List.mem_filter]
 refine and_congr Iff.rfl ?_
 show (!(decide (x = s) && lvs al fl n)) = true ↔ _
 unfold lvs
 by_cases h1 : x = s <;> cases al <;> by_cases h2 : n < fl <;> simp [h1, h2]
theorem msPut_self {ms : MS} {s : Str} {b f : Int} : msPut ms s b f s = some (b, f) := by unfold msPut; rw [if_pos rfl]
theorem msPut_ne {ms : MS} {s x : Str} {b f : Int} (h : x ≠ s) : msPut ms s b f x = ms x := by unfold msPut; rw [if_neg h]
structure P1 (fr : List Fr) (ms : MS) (ks : List (Str × Int)) (bg : List (Str × Int × Int)) : Prop where
 e1 : ∀ s b n, (s, b, n) ∈ bg → ∃ kb kf, ms s = some (kb, kf) ∧ b ≤ kb ∧ (b = kb → n < kf ∨ (s, n) ∈ ks)
 e2 : bg.Nodup
 e3 : ks.length ≤ bg.length
 e5 : ∀ u ∈ fr, ∃ kb kf, ms u.s = some (kb, kf) ∧ u.b ≤ kb
 e6 : ∀ s kb kf, ms s = some (kb, kf) → ∃ u ∈ fr, u.s = s ∧ kf = u.f
 e7 : ∀ s n, (s, n) ∈ ks → ∃ u ∈ fr, u.s = s ∧ u.n = n
theorem P1.nil : P1 [] (fun _ => none) [] [] where
 e1 := fun _ _ _ h => nomatch h
 e2 := List.nodup_nil
 e3 := Nat.le_refl _
 e5 := fun _ h => nomatch h
 e6 := fun _ _ _ h => nomatch h
 e7 := fun _ _ h => nomatch h
theorem some_kn {ms : MS} {s : Str} (h : ms s ≠ none) : ms s = some (kn ms s) := by
 unfold kn
 cases e : ms s with
 | none => exact absurd e h
 | some p => rfl
theorem P1.new {fr : List Fr} {ms : MS} {ks : List (Str × Int)} {bg : List (Str × Int × Int)} (h : P1 fr ms ks bg) {u : Fr} (hu : u ∈ fr) {kf : Int} (hk : ms u.s = some (u.b, kf)) (hn : (u.s, u.n) ∉ ks) (hge : ¬ u.n < kf) : P1 fr ms (ks ++ [(u.s, u.n)]) (bg ++ [(u.s, u.b, u.n)]) := by
 refine ⟨fun s b n hm => ?_, ?_, by rw [List.length_append, List.length_append]; exact Nat.add_le_add_right h.e3 1, h.e5, h.e6, fun s n hm => ?_⟩
 ·rcases List.mem_append.mp hm with hm | hm
  ·obtain ⟨kb, k2, h1, h2, h3⟩ := h.e1 s b n hm
   exact ⟨kb, k2, h1, h2, fun e => (h3 e).imp id (List.mem_append_left _)⟩
  ·cases List.mem_singleton.mp hm
   exact ⟨u.b, kf, hk, Int.le_refl _, fun _ => .inr (List.mem_append_right _ (List.mem_singleton.mpr rfl))⟩
 ·refine List.nodup_append.mpr ⟨h.e2, List.nodup_cons.mpr ⟨List.not_mem_nil, List.nodup_nil⟩, fun a ha b hb e => ?_⟩
  rw [List.mem_singleton.mp hb] at e
  rw [e] at ha
  obtain ⟨kb, k2, h1, _, h3⟩ := h.e1 _ _ _ ha
  rw [hk] at h1
  cases h1
  exact (h3 rfl).elim hge hn
 ·rcases List.mem_append.mp hm with hm | hm
  ·exact h.e7 s n hm
  ·cases List.mem_singleton.mp hm
   exact ⟨u, hu, rfl, rfl⟩
structure P2 (top way : Int) (fr : List Fr) (done : List Str) (ms : MS) (ks : List (Str × Int)) : Prop where
 a : ∀ u ∈ fr, ∃ kb kf, ms u.s = some (kb, kf) ∧ u.n < top ∧ u.f < top ∧ (u.s ∉ done → u.b ≤ kb ∧ kf < top) ∧ (u.s ∈ done → (way = 0 ∧ u.b ≤ kb ∧ kf = top) ∨ (way = 1 ∧ u.b < kb ∧ kf = 1))
 b : ∀ s n, (s, n) ∈ ks → s ∉ done ∧ ∃ u ∈ fr, u.s = s ∧ u.n = n
def lb (way : Int) (ms : MS) (s : Str) : Int := (kn ms s).1 + way
def lf (top way : Int) : Int := if way = 0 then top else 1
theorem P2.all {top way : Int} {fr : List Fr} {done : List Str} {ms : MS} {ks : List (Str × Int)} (h : P2 top way fr done ms ks) (hw : way = 0 ∨ way = 1) {s : Str} (hs : ∃ u ∈ fr, u.s = s) (hd : s ∉ done) {n : Int} (hn : (s, n) ∈ ks) :
  mAl ms s (lb way ms s) = true ∨ n < mFl ms s (lb way ms s) (lf top way) := by
 obtain ⟨u, hu, rfl, rfl⟩ := (h.b _ _ hn).2
 obtain ⟨kb, kf, h1, h2, h3, h4, _⟩ := h.a u hu
 unfold mAl mFl lb lf
 rw [kn_some h1]
 rcases hw with rfl | rfl
 ·refine .inr ?_
  rw [if_pos (show kb + 0 = kb by omega), if_pos rfl]
  show u.n < max top kf
  omega
 ·refine .inl (decide_eq_true ?_)
  show ¬ kb + 1 = kb
  omega
end G
namespace G
open PySem PySem.Spec PyProof.Rows L2
section
variable {H0 H : Hp} {ft : List Addr} {l : List Cell} {t t' : Nat} {p q : Addr} {Q : VK} {K : PySem.W.Frag}
end
structure F5 where
 k : Str
 s : Str
 b : Int
 n : Int
 f : Int
abbrev pst : Str := "past"
abbrev BE := Str × Int × Int
def dueP (arr : List F5) (u : F5) : Prop := u.k = ("ask" : Str) ∧ (∀ x ∈ arr, x.s = u.s → x.b ≤ u.b) ∧ (∀ x ∈ arr, x.s = u.s → x.b = u.b → x.f ≤ u.n) ∧ u.f ≤ u.n ∧ ¬ ∃ x ∈ arr, x.s = u.s ∧ x.k ≠ pst ∧ x.b = u.b ∧ x.n = u.n
structure Q1 (arr : List F5) (ms : MS) (ks : List (Str × Int)) (bg : List BE) : Prop where
 a : ∀ s kb kf, ms s = some (kb, kf) → (∃ x ∈ arr, x.s = s ∧ x.b = kb ∧ x.f = kf) ∧ ∀ x ∈ arr, x.s = s → x.b ≤ kb ∧ (x.b = kb → x.f ≤ kf)
 a0 : ∀ x ∈ arr, ms x.s ≠ none
 t : ∀ s n, (s, n) ∈ ks ↔ ∃ kb kf, ms s = some (kb, kf) ∧ kf ≤ n ∧ ∃ x ∈ arr, x.s = s ∧ x.b = kb ∧ x.n = n ∧ x.k ≠ pst
 g : ∀ e ∈ bg, ∃ x ∈ arr, x.s = e.1 ∧ x.b = e.2.1 ∧ x.n = e.2.2 ∧ x.k ≠ pst
 gd : bg.Nodup
theorem Q1.nil : Q1 [] (fun _ => none) [] [] where
 a := fun _ _ _ h => nomatch h
 a0 := fun _ h => nomatch h
 t := fun s n => ⟨(fun h => nomatch h), (fun ⟨_, _, h, _⟩ => nomatch h)⟩
 g := fun _ h => nomatch h
 gd := List.nodup_nil
theorem some_kn2 {ms : MS} {s : Str} (h : ms s ≠ none) : ms s = some ((kn ms s).1, (kn ms s).2) := some_kn h
section
variable {arr : List F5} {ms : MS} {ks : List (Str × Int)} {bg : List BE} {u : F5}
theorem mem_snoc {x : F5} : x ∈ arr ++ [u] ↔ x ∈ arr ∨ x = u := by rw [List.mem_append, List.mem_singleton]
theorem Q1.met (h : Q1 arr ms ks bg) (hb : 1 ≤ u.b) (he : ¬ u.b < (kn ms u.s).1) :
  (∀ s kb kf, msPut ms u.s u.b (mFl ms u.s u.b u.f) s = some (kb, kf) → (∃ x ∈ arr ++ [u], x.s = s ∧ x.b = kb ∧ x.f = kf) ∧ ∀ x ∈ arr ++ [u], x.s = s → x.b ≤ kb ∧ (x.b = kb → x.f ≤ kf)) ∧ (∀ x ∈ arr ++ [u], msPut ms u.s u.b (mFl ms u.s u.b u.f) x.s ≠ none) ∧
  (∀ s n, (s, n) ∈ ksOut u.s (mAl ms u.s u.b) (mFl ms u.s u.b u.f) ks ↔ ∃ kb kf, msPut ms u.s u.b (mFl ms u.s u.b u.f) s = some (kb, kf) ∧ kf ≤ n ∧ ∃ x ∈ arr, x.s = s ∧ x.b = kb ∧ x.n = n ∧ x.k ≠ pst) := by
 -- what is known of its boots
 have hle : ∀ x ∈ arr, x.s = u.s → x.b ≤ (kn ms u.s).1 ∧ (x.b = (kn ms u.s).1 → x.f ≤ (kn ms u.s).2) := fun x hx es => by
  have hm := h.a0 x hx
  rw [es] at hm
  exact (h.a _ _ _ (some_kn2 hm)).2 x hx es
 refine ⟨fun s kb kf e => ?_, fun x hx => ?_, fun s n => ?_⟩
 ·by_cases es : s = u.s
  ·subst es
   rw [msPut_self] at e
   cases e
   constructor
   ·by_cases c : u.b = (kn ms u.s).1
    ·have hfl : mFl ms u.s u.b u.f = max u.f (kn ms u.s).2 := if_pos c
     rw [hfl]
     rcases Int.le_total (kn ms u.s).2 u.f with c2 | c2
     ·exact ⟨u, mem_snoc.mpr (.inr rfl), rfl, rfl, by omega⟩
     ·by_cases hz : ms u.s = none
      ·exfalso
       rw [kn_none hz] at c
       have c : u.b = 0 := c
       omega
      ·obtain ⟨⟨x, hx, h1, h2, h3⟩, _⟩ := h.a _ _ _ (some_kn2 hz)
       exact ⟨x, mem_snoc.mpr (.inl hx), h1, by rw [h2, c], by rw [h3]; omega⟩
    ·exact ⟨u, mem_snoc.mpr (.inr rfl), rfl, rfl, by unfold mFl; rw [if_neg c]⟩
   ·intro x hx es
    rcases mem_snoc.mp hx with hx | rfl
    ·obtain ⟨h1, h2⟩ := hle x hx es
     refine ⟨by omega, fun eb => ?_⟩
     have c : u.b = (kn ms u.s).1 := by omega
     have hfl : mFl ms u.s u.b u.f = max u.f (kn ms u.s).2 := if_pos c
     have := h2 (by omega)
     rw [hfl]; omega
    ·refine ⟨Int.le_refl _, fun _ => ?_⟩
     unfold mFl
     split <;> omega
  ·rw [msPut_ne es] at e
   obtain ⟨⟨y, hy, r⟩, h4⟩ := h.a s kb kf e
   refine ⟨⟨y, mem_snoc.mpr (.inl hy), r⟩, fun z hz e2 => ?_⟩
   rcases mem_snoc.mp hz with hz | rfl
   ·exact h4 z hz e2
   ·exact absurd e2.symm es
 ·by_cases es : x.s = u.s
  ·rw [es, msPut_self]; exact fun z => nomatch z
  ·rw [msPut_ne es]
   rcases mem_snoc.mp hx with hx | rfl
   ·exact h.a0 x hx
   ·exact absurd rfl es
 ·rw [mem_ksOut, h.t s n]
  by_cases es : s = u.s
  ·subst es
   rw [msPut_self]
   constructor
   ·rintro ⟨⟨kb, kf, e, h3, x, hx, e1, e2, r⟩, hno⟩
    have hk := kn_some e
    have hal : ¬ mAl ms u.s u.b = true := fun z => hno ⟨rfl, .inl z⟩
    have hfl : ¬ n < mFl ms u.s u.b u.f := fun z => hno ⟨rfl, .inr z⟩
    have c : u.b = kb := by
     unfold mAl at hal
     rw [hk] at hal
     exact Decidable.not_not.mp (fun z => hal (decide_eq_true z))
    exact ⟨u.b, _, rfl, by omega, x, hx, e1, by omega, r⟩
   ·rintro ⟨kb, kf, e, h3, x, hx, e1, e2, r⟩
    cases e
    have hm := h.a0 x hx
    rw [e1] at hm
    have hk := some_kn2 hm
    obtain ⟨h1, _⟩ := hle x hx e1
    have c : u.b = (kn ms u.s).1 := by omega
    have hfl : mFl ms u.s u.b u.f = max u.f (kn ms u.s).2 := if_pos c
    rw [hfl] at h3
    refine ⟨⟨_, _, hk, by omega, x, hx, e1, by omega, r⟩, fun z => ?_⟩
    rcases z.2 with z | z
    ·unfold mAl at z
     exact of_decide_eq_true z c
    ·rw [hfl] at z; omega
  ·rw [msPut_ne es]
   exact ⟨fun z => z.1, fun z => ⟨z, fun w => es w.1⟩⟩
theorem Q1.fl (h : Q1 arr ms ks bg) (hb : 1 ≤ u.b) (he : ¬ u.b < (kn ms u.s).1) : ((∀ x ∈ arr, x.s = u.s → x.b = u.b → x.f ≤ u.n) ∧ u.f ≤ u.n) ↔ mFl ms u.s u.b u.f ≤ u.n := by
 obtain ⟨⟨x, hx, h1, h2, h3⟩, h4⟩ := (h.met hb he).1 u.s _ _ msPut_self
 constructor
 ·rintro ⟨g1, g2⟩
  rcases mem_snoc.mp hx with hx | rfl
  ·rw [← h3]; exact g1 x hx h1 h2
  ·rw [← h3]; exact g2
 ·intro g
  exact ⟨fun y hy es eb => Int.le_trans ((h4 y (mem_snoc.mpr (.inl hy)) es).2 eb) g, Int.le_trans ((h4 u (mem_snoc.mpr (.inr rfl)) rfl).2 rfl) g⟩
theorem Q1.le (h : Q1 arr ms ks bg) (he : ¬ u.b < (kn ms u.s).1) : ∀ x ∈ arr, x.s = u.s → x.b ≤ u.b := fun x hx es => by
 have hm := h.a0 x hx
 rw [es] at hm
 have := ((h.a _ _ _ (some_kn2 hm)).2 x hx es).1
 omega
theorem Q1.new (h : Q1 arr ms ks bg) (hb : 1 ≤ u.b) (he : ¬ u.b < (kn ms u.s).1) (hk : u.k ≠ pst) (hn : (u.s, u.n) ∉ ksOut u.s (mAl ms u.s u.b) (mFl ms u.s u.b u.f) ks) (hf : mFl ms u.s u.b u.f ≤ u.n) :
  Q1 (arr ++ [u]) (msPut ms u.s u.b (mFl ms u.s u.b u.f)) (ksOut u.s (mAl ms u.s u.b) (mFl ms u.s u.b u.f) ks ++ [(u.s, u.n)]) bg ∧ (dueP arr u ↔ u.k = ("ask" : Str)) := by
 obtain ⟨m1, m2, m3⟩ := h.met hb he
 refine ⟨⟨m1, m2, fun s n => ?_, fun e he => let ⟨y, hy, r⟩ := h.g e he; ⟨y, mem_snoc.mpr (.inl hy), r⟩, h.gd⟩, ⟨fun d => d.1, fun ek => ⟨ek, h.le he, ((h.fl hb he).mpr hf).1, ((h.fl hb he).mpr hf).2, fun ⟨x, hx, e1, e2, e3, e4⟩ => hn ((m3 _ _).mpr ⟨_, _, msPut_self, hf, x, hx, e1, e3, e4, e2⟩)⟩⟩⟩
 rw [List.mem_append, List.mem_singleton, m3 s n]
 constructor
 ·rintro (⟨kb, kf, e, h3, y, hy, r⟩ | e)
  ·exact ⟨kb, kf, e, h3, y, mem_snoc.mpr (.inl hy), r⟩
  ·cases e
   exact ⟨_, _, msPut_self, hf, u, mem_snoc.mpr (.inr rfl), rfl, rfl, rfl, hk⟩
 ·rintro ⟨kb, kf, e, h3, y, hy, es, eb, en, ek⟩
  rcases mem_snoc.mp hy with hy | rfl
  ·exact .inl ⟨kb, kf, e, h3, y, hy, es, eb, en, ek⟩
  ·exact .inr (by rw [es, en])
end
end G
namespace G
open PySem PySem.Spec PyProof.Rows L2
def keyD : Key → PyData
 | .inl i => .int i
 | .inr s => .str s
mutual
inductive DH (H : Hp) : V → PyData → Prop
 | non : DH H .non .none
 | bl (b : Bool) : DH H (.bl b) (.bool b)
 | int (i : Int) : DH H (.int i) (.int i)
 | str (s : Str) : s.length ≤ 100000 → DH H (.str s) (.str s)
 | lst {a : Addr} {xs : List V} {ds : List PyData} : H a = some (.lst xs) → DHs H xs ds → DH H (.ref a) (.list ds)
 | tup {a : Addr} {xs : List V} {ds : List PyData} : H a = some (.tup xs) → DHs H xs ds → DH H (.ref a) (.tuple ds)
 | dct {a : Addr} {kvs : List (Key × V)} {ds : List (PyData × PyData)} : H a = some (.dK kvs) → DHk H kvs ds → DH H (.ref a) (.dict ds)
inductive DHs (H : Hp) : List V → List PyData → Prop
 | nil : DHs H [] []
 | cons {v : V} {d : PyData} {xs : List V} {ds : List PyData} : DH H v d → DHs H xs ds → DHs H (v :: xs) (d :: ds)
inductive DHk (H : Hp) : List (Key × V) → List (PyData × PyData) → Prop
 | nil : DHk H [] []
 | cons {k : Key} {v : V} {d : PyData} {xs : List (Key × V)} {ds : List (PyData × PyData)} : DH H v d → DHk H xs ds → DHk H ((k, v) :: xs) ((keyD k, d) :: ds)
end
abbrev Le (H H' : Hp) : Prop := ∀ a o, H a = some o → H' a = some o
section
variable {H H' : Hp} (F : Le H H')
include F
end
section
variable {H : Hp}
theorem DHs.get : ∀ {xs : List V} {ds : List PyData} {i : Nat} {x : V}, DHs H xs ds → xs[i]? = some x → ∃ d, ds[i]? = some d ∧ DH H x d
 | _, _, 0, _, .cons h _, e => by cases (Option.some.inj e); exact ⟨_, rfl, h⟩
 | _, _, i + 1, _, .cons _ r, e => r.get (i := i) (by simpa using e)
theorem DHs.take : ∀ {xs : List V} {ds : List PyData} (n : Nat), DHs H xs ds → DHs H (xs.take n) (ds.take n)
 | _, _, 0, _ => .nil
 | _, _, _ + 1, .nil => .nil
 | _, _, n + 1, .cons a r => .cons a (r.take n)
theorem DHs.drop : ∀ {xs : List V} {ds : List PyData} (n : Nat), DHs H xs ds → DHs H (xs.drop n) (ds.drop n)
 | _, _, 0, h => h
 | _, _, _ + 1, .nil => .nil
 | _, _, n + 1, .cons _ r => r.drop n
def isDctD : PyData → Bool
 | .dict _ => true
 | _ => false
variable {K : PySem.W.Frag} {v : V} {d : PyData} {Q : VK}
theorem DH.isDct (h : DH H v d) (q : Q (.bl (isDctD d)) H) : rIsi K [v, .ty "dict"] H Q := by
 cases h with
 | non => exact x_isi ty_non (by decide +kernel : kitB "NoneType" "dict" = some false) q
 | bl b => exact x_isi ty_bl (by decide +kernel : kitB "bool" "dict" = some false) q
 | int i => exact x_isi ty_int (by decide +kernel : kitB "int" "dict" = some false) q
 | str s hl => exact x_isi ty_str (by decide +kernel : kitB "str" "dict" = some false) q
 | lst h r => exact x_isi (.base (.lst h)) (by decide +kernel : kitB "list" "dict" = some false) q
 | tup h r => exact x_isi (.base (.tup h)) (by decide +kernel : kitB "tuple" "dict" = some false) q
 | dct h r => exact x_isi (.base (.dK h)) (by decide +kernel : kitB "dict" "dict" = some true) q
end
def tl (T : List Cell) : Hp := fun a => (T.find? fun c => decide (c.2.1 = a)).map (·.2.2)
theorem tl_of {T : List Cell} {a : Addr} {o : HO} (h : tl T a = some o) : ∃ t, (t, a, o) ∈ T := by
 unfold tl at h
 obtain ⟨c, hc, e⟩ := Option.map_eq_some_iff.mp h
 have h1 : c.2.1 = a := by have := List.find?_some hc; simpa using this
 have h2 := List.mem_of_find?_eq_some hc
 obtain ⟨t, b, u⟩ := c
 cases h1
 cases e
 exact ⟨t, h2⟩
theorem tl_mem {T : List Cell} (nd : (T.map (·.2.1)).Nodup) {c : Cell} (h : c ∈ T) : tl T c.2.1 = some c.2.2 := by
 unfold tl
 induction T with
 | nil => cases h
 | cons x T ih =>
  obtain ⟨n1, n2⟩ := List.nodup_cons.mp nd
  by_cases e : x.2.1 = c.2.1
  ·rw [List.find?_cons_of_pos (by exact decide_eq_true e)]
   rcases List.mem_cons.mp h with r | m
   ·rw [r]; rfl
   ·exact absurd (List.mem_map.mpr ⟨c, m, e.symm⟩) n1
  ·rw [List.find?_cons_of_neg (by rw [decide_eq_false e]; exact Bool.false_ne_true)]
   rcases List.mem_cons.mp h with r | m
   ·exact absurd (by rw [r]) e
   ·exact ih n2 m
section
variable {H0 H H' : Hp} {ft : List Addr} {l m T T' : List Cell} {t : Nat} {a p : Addr} {o : HO}
theorem Sep.tl (S : Sep H0 ft H l) (h : ∀ c ∈ T, c ∈ l) : Le (tl T) H := fun a o e => by
 obtain ⟨t, m⟩ := tl_of e
 exact S.rd _ (h _ m)
theorem tl_le (nd : (T'.map (·.2.1)).Nodup) (h : ∀ c ∈ T, ∃ c' ∈ T', c'.2 = c.2) : Le (tl T) (tl T') := fun a o e => by
 obtain ⟨t, m⟩ := tl_of e
 obtain ⟨c', m', e'⟩ := h _ m
 have := tl_mem nd m'
 rw [e'] at this
 exact this
theorem Sep.ndT (S : Sep H0 ft H (l ++ T)) : (T.map (·.2.1)).Nodup := by
 have := S.nd
 rw [List.map_append] at this
 exact (List.nodup_append.mp this).2.1
theorem tl_grow (nd : ((m ++ T).map (·.2.1)).Nodup) : Le (tl T) (tl (m ++ T)) := tl_le nd fun c h => ⟨c, List.mem_append_right _ h, rfl⟩
end
def rEqNil (K : PySem.W.Frag) : R2 := fun x y H Q => ∃ p q xs, x = .ref p ∧ y = .ref q ∧ ((SqL K H p xs ∧ SqL K H q []) ∨ (SqT K H p xs ∧ SqT K H q [])) ∧ Q (.bl (decide (xs = []))) H
def rNeNil (K : PySem.W.Frag) : R2 := fun x y H Q => ∃ p q xs, x = .ref p ∧ y = .ref q ∧ ((SqL K H p xs ∧ SqL K H q []) ∨ (SqT K H p xs ∧ SqT K H q [])) ∧ Q (.bl (!decide (xs = []))) H
section
variable {X : Cx}
theorem op_eqNil (K : PySem.W.Frag) (hu : X.A.units < cLine) (hK : X.K = K := by rfl) : OpR X (compareOp .Eq) (rEqNil K) := by
 subst hK
 intro pins s σ H x y v u Q I rx ry ⟨p, q, xs, ex, ey, h, z⟩
 subst ex; subst ey
 obtain rfl : v = Value.ref p := rx
 obtain rfl : u = Value.ref q := ry
 rcases h with ⟨h1, h2⟩ | ⟨h1, h2⟩
 ·obtain ⟨i1, r1, p1, _⟩ := I.list h1
  obtain ⟨i2, r2, p2, _⟩ := I.list h2
  cases r2
  by_cases hx : xs = []
  ·subst hx
   cases r1
   exact SeqAt.eq_listAt (e := fun _ => true) p1.isList p2.isList rfl hu (fun j j1 _ => absurd j1 (Nat.not_lt_zero j)) ⟨.bl true, H, I, rfl, z⟩
  ·have hl := r1.length
   rw [decide_eq_false hx] at z
   refine SeqAt.eq_list_lengthsAt p1.isList p2.isList ?_ hu ⟨.bl false, H, I, rfl, z⟩
   rw [bne_iff_ne, List.size_toArray]
   intro e
   exact hx (List.length_eq_zero_iff.mp (by rw [hl, e]; rfl))
 ·obtain ⟨i1, r1, p1, _⟩ := I.tuple h1
  obtain ⟨i2, r2, p2, _⟩ := I.tuple h2
  cases r2
  have hl := r1.length
  refine SeqAt.eq_tupleAt (e := fun _ => true) p1 p2 hu (fun j _ j2 => absurd j2 (Nat.not_lt_zero j)) ⟨.bl _, H, I, rfl, ?_⟩
  have e : ((List.range (min i1.toArray.size ([] : List Value).toArray.size)).all (fun _ => true) && (i1.toArray.size == ([] : List Value).toArray.size)) = decide (xs = []) := by
   rw [show (List.range (min i1.toArray.size ([] : List Value).toArray.size)) = [] by rw [show ([] : List Value).toArray.size = 0 from rfl, Nat.min_zero]; rfl, List.all_nil, Bool.true_and, List.size_toArray, ← hl]
   cases xs <;> rfl
  rw [e]; exact z
theorem op_neNil (K : PySem.W.Frag) (hu : X.A.units < cLine) (hK : X.K = K := by rfl) : OpR X (compareOp .NotEq) (rNeNil K) := by
 subst hK
 intro pins s σ H x y v u Q I rx ry ⟨p, q, xs, ex, ey, h, z⟩
 subst ex; subst ey
 obtain rfl : v = Value.ref p := rx
 obtain rfl : u = Value.ref q := ry
 rcases h with ⟨h1, h2⟩ | ⟨h1, h2⟩
 ·obtain ⟨i1, r1, p1, _⟩ := I.list h1
  obtain ⟨i2, r2, p2, _⟩ := I.list h2
  cases r2
  by_cases hx : xs = []
  ·subst hx
   cases r1
   exact SeqAt.RcNeAt.lists (e := fun _ => true) p1.isList p2.isList rfl hu (fun j j1 _ => absurd j1 (Nat.not_lt_zero j)) X.prog X.w _ _ ⟨.bl false, H, I, rfl, z⟩
  ·have hl := r1.length
   rw [decide_eq_false hx] at z
   refine SeqAt.RcNeAt.lists_lengths p1.isList p2.isList ?_ hu X.prog X.w _ _ ⟨.bl true, H, I, rfl, z⟩
   rw [bne_iff_ne, List.size_toArray]
   intro e
   exact hx (List.length_eq_zero_iff.mp (by rw [hl, e]; rfl))
 ·obtain ⟨i1, r1, p1, _⟩ := I.tuple h1
  obtain ⟨i2, r2, p2, _⟩ := I.tuple h2
  cases r2
  have hl := r1.length
  refine SeqAt.RcNeAt.tuples (e := fun _ => true) p1 p2 hu (fun j _ j2 => absurd j2 (Nat.not_lt_zero j)) X.prog X.w _ _ ⟨.bl _, H, I, rfl, ?_⟩
  have e : ((List.range (min i1.toArray.size ([] : List Value).toArray.size)).all (fun _ => true) && (i1.toArray.size == ([] : List Value).toArray.size)) = decide (xs = []) := by
   rw [show (List.range (min i1.toArray.size ([] : List Value).toArray.size)) = [] by rw [show ([] : List Value).toArray.size = 0 from rfl, Nat.min_zero]; rfl, List.all_nil, Bool.true_and, List.size_toArray, ← hl]
   cases xs <;> rfl
  rw [e]; exact z
def rLenX (K : PySem.W.Frag) : List V → Hp → VK → Prop := fun xs H Q => ∃ x n, xs = [x] ∧ LenV K x H n ∧ Q (.int n) H
theorem cl_lenX (K : PySem.W.Frag) (h : X.K = K := by rfl) : CallR X (.builtin "len") (rLenX K) := by subst h; exact call_len
def rTupOf (K : PySem.W.Frag) : List V → Hp → VK → Prop := fun xs H Q => ∃ p ys, xs = [.ref p] ∧ ((SqL K H p ys ∧ ∀ l, H l = none → Q (.ref l) (upd H l (.tup ys))) ∨ (SqT K H p ys ∧ Q (.ref p) H))
theorem cl_tupleK (K : PySem.W.Frag) (h : X.K = K := by rfl) : CallR X (.type "tuple") (rTupOf K) := by subst h; exact call_tuple_of
theorem op_catAK (K : PySem.W.Frag) (h : X.K = K := by rfl) : OpR X (binaryOp .Add) (rCatA K) := by subst h; exact op_catA
theorem sl_tupAK (K : PySem.W.Frag) (h : X.K = K := by rfl) : SlR X (rSlA K) := by subst h; exact sl_tupA
end
section
variable {H0 H : Hp} {ft : List Addr} {l : List Cell} {t : Nat} {a p q : Addr} {K : PySem.W.Frag} {Q : VK}
end
def abcL : List Nat := [97, 98, 99, 100, 101, 102, 103, 104, 105, 106, 107, 108, 109, 110, 111, 112, 113, 114, 115, 116, 117, 118, 119, 120, 121, 122]
def isName : PyData → Bool
 | .str s => decide (1 ≤ s.length) && decide (s.length ≤ 8) && s.cps.toList.all fun c => decide (c ∈ abcL)
 | _ => false
end G
namespace G
open PySem PySem.Spec PyProof.Rows L2
def Grow (T T' : List Cell) : Prop := ∃ m, T' = m ++ T ∧ ∀ c ∈ m, c.1 = 2
theorem Grow.trans {T T' T'' : List Cell} (a : Grow T T') (b : Grow T' T'') : Grow T T'' := by
 obtain ⟨m, rfl, hm⟩ := a
 obtain ⟨n, rfl, hn⟩ := b
 exact ⟨n ++ m, by rw [List.append_assoc], fun c h => (List.mem_append.mp h).elim (hn c) (hm c)⟩
theorem Grow.one (T : List Cell) (a : Addr) (o : HO) : Grow T ((2, a, o) :: T) := ⟨[(2, a, o)], rfl, fun c h => by rw [List.mem_singleton.mp h]⟩
theorem Grow.le {T T' : List Cell} (g : Grow T T') (nd : (T'.map (·.2.1)).Nodup) : Le (tl T) (tl T') := by
 obtain ⟨m, rfl, _⟩ := g
 exact tl_grow nd
section
variable {H0 H H' : Hp} {ft : List Addr} {l m T : List Cell} {t : Nat} {a p : Addr} {o u : HO}
end
section
variable {H0 H : Hp} {ft : List Addr} {l : List Cell} {t t' : Nat} {a p q1 : Addr} {K : PySem.W.Frag} {Q : VK} {α : Type}
end
end G
namespace G
open PySem PySem.Spec PyProof.Rows
section
variable {prog : Program} {w : World} {A : Around} {E : Value → Shared → Prop} {s : Shared}
end
end G
namespace G
open PySem PySem.Spec PyProof.Rows L2
section
variable {H0 H : Hp} {ft : List Addr} {l T : List Cell} {p q1 : Addr} {K : PySem.W.Frag} {Q : VK}
theorem Sep.newT (S : Sep H0 ft H l) (n : Nat) (hT : l.drop n = T) (hp : H p = none) (o : HO) : Grow T ((2, p, o) :: T) ∧ Le (G.tl T) (G.tl ((2, p, o) :: T)) ∧ G.tl ((2, p, o) :: T) p = some o ∧ Sep H0 ft (upd H p o) (l.take n ++ ((2, p, o) :: T)) := by
 subst hT
 have S1 := S.new hp o
 have S2 : Sep H0 ft (upd H p o) (l.take n ++ ((2, p, o) :: l.drop n)) := S1.perm (List.perm_middle.trans (List.Perm.of_eq (by rw [List.take_append_drop])))
 exact ⟨Grow.one _ p o, (Grow.one _ p o).le S2.ndT, tl_mem S2.ndT (c := (2, p, o)) List.mem_cons_self, S2⟩
end
theorem DHs.some {H : Hp} : ∀ {ys : List V}, (∀ y ∈ ys, ∃ d, DH H y d) → ∃ ds, DHs H ys ds
 | [], _ => ⟨[], .nil⟩
 | y :: r, h => by
  obtain ⟨d, hd⟩ := h y List.mem_cons_self
  obtain ⟨ds, hds⟩ := DHs.some fun z hz => h z (List.mem_cons_of_mem _ hz)
  exact ⟨d :: ds, .cons hd hds⟩
theorem log_big {i : Int} (h : i.natAbs < 10 ^ 500) : i.natAbs.log2 < 1920 := by
 by_cases z : i.natAbs = 0
 ·rw [z]; decide
 ·exact (Nat.log2_lt z).mpr (Nat.lt_trans h (by decide +kernel))
def okO : PyData → Prop
 | .str s => s.length ≤ 1000
 | .int i => i.natAbs < 10 ^ 100
 | .tuple ds => ds.length ≤ 1000
 | _ => False
def okS : Nat → PyData → Prop
 | _, .str s => s.length ≤ 1000
 | _, .int i => i.natAbs < 10 ^ 100
 | n + 1, .tuple ds => ds.length ≤ 1000 ∧ ∀ d ∈ ds, okS n d
 | _, _ => False
theorem okS.o {n : Nat} {d : PyData} (h : okS n d) : okO d := by
 cases d <;> cases n <;> first | exact h | exact h.1 | exact h.elim
section
variable {H0 H : Hp} {ft : List Addr} {l T : List Cell} {p q1 : Addr} {K : PySem.W.Frag} {Q : VK}
end
end G
namespace ZM
open PySem PySem.Spec PyProof.Rows L2
structure Sq (I : Heap → Addr → Addr → Nat → Prop) (L : Heap → Addr → Array Value → Prop) : Prop where
 keep : ∀ {h h' : Heap} {it l : Addr} {i : Nat}, I h it l i → (∀ o, h.get? it = some o → h'.get? it = some o) → I h' it l i
 row : ∀ {h h' : Heap} {l : Addr} {xs : Array Value}, L h l xs → (∀ o, h.get? l = some o → h'.get? l = some o) → L h' l xs
 lt : ∀ {h : Heap} {it l : Addr} {i : Nat}, I h it l i → it < h.objs.size
 item : ∀ {prog : Program} {w : World} {A : Around} {E : Value → Shared → Prop} {s : Shared} {it l : Addr} {i : Nat} {xs : Array Value} {x : Value} {Q : Value → Shared → Prop}, I s.heap it l i → L s.heap l xs → xs[i]? = some x →
  (∀ h', I h' it l (i + 1) → Heap.SameBut it s.heap h' → Q x { s with heap := h' }) → wpAny (model prog w) A (Builtin.SmallTypes.nextOf (.ref it)) Q E s
 fin : ∀ {prog : Program} {w : World} {A : Around} {E : Value → Shared → Prop} {s : Shared} {it l : Addr} {i : Nat} {xs : Array Value} {Q : Value → Shared → Prop}, A.handled = none → I s.heap it l i → L s.heap l xs → xs[i]? = none →
  (∀ h' e, Heap.ExtBut it s.heap h' → (∃ o, h'.get? e = some o ∧ o.cls = .type "StopIteration") → E (.ref e) { s with heap := h' }) → wpAny (model prog w) A (Builtin.SmallTypes.nextOf (.ref it)) Q E s
section
variable {I1 I2 : Heap → Addr → Addr → Nat → Prop} {L1 L2 : Heap → Addr → Array Value → Prop} (S1 : Sq I1 L1) (S2 : Sq I2 L2)
variable {prog : Program} {w : World} {A : Around} {E : Value → Shared → Prop} {s : Shared}
variable {z TI TO i1 i2 l1 l2 : Addr} {k1 k2 : Nat} {xs ys : Array Value} {x y a b : Value}
include S1 S2
end
section
variable {prog : Program} {w : World} {A : Around} {E : Value → Shared → Prop} {s : Shared}
end
def itName (c : Bool) : String := if c = true then "list_iterator" else "tuple_iterator"
abbrev m1 (c1 : Bool) (h : Heap) (l1 : Addr) : Heap := h.push { cls := .type (itName c1), data := .fields #[.ref l1, .int 0 0] }
abbrev m2 (c1 c2 : Bool) (h : Heap) (l1 l2 : Addr) : Heap := (m1 c1 h l1).push { cls := .type (itName c2), data := .fields #[.ref l2, .int 0 0] }
abbrev m3 (c1 c2 : Bool) (h : Heap) (l1 l2 : Addr) : Heap := (m2 c1 c2 h l1 l2).push { cls := .type "tuple", data := .seq #[.ref h.objs.size, .ref (m1 c1 h l1).objs.size] }
section
variable {prog : Program} {w : World} {A : Around} {E : Value → Shared → Prop} {s : Shared}
end
end ZM
namespace G
open PySem PySem.Spec PyProof.Rows L2
def KTab (K : PySem.W.Frag) (w : World) (a : Addr) (kvs : List (Str × V)) : Prop :=
 ∃ es n, K.lookup a = some ⟨.type "dict", none, .dict es n, #[]⟩ ∧ PySem.W.KeysLit w.params es.toList ∧ (a == sysModules) = false ∧ Paired (fun (e : DictEntry) (kv : Str × V) => (∃ t, e.key = .str kv.1 t) ∧ RelV kv.2 e.val) es.toList kvs
def lookS {α : Type} (kvs : List (Str × α)) (z : Str) : Option α := (kvs.find? fun kv => decide (kv.1 = z)).map (·.2)
theorem tab_find {kvs : List (Str × V)} {es : List DictEntry} (h : Paired (fun (e : DictEntry) (kv : Str × V) => (∃ t, e.key = .str kv.1 t) ∧ RelV kv.2 e.val) es kvs) (z : Str) :
  (es.any (·.refKey) = false) ∧ ((lookS kvs z = none ∧ es.find? (·.key.isStr z) = none) ∨ ∃ v e, lookS kvs z = some v ∧ es.find? (·.key.isStr z) = some e ∧ RelV v e.val) := by
 induction h with
 | nil => exact ⟨rfl, .inl ⟨rfl, rfl⟩⟩
 | @cons e kv es kvs h t ih =>
  obtain ⟨⟨tk, hk⟩, hv⟩ := h
  obtain ⟨ih1, ih2⟩ := ih
  refine ⟨by rw [List.any_cons, ih1, Bool.or_false]; unfold DictEntry.refKey; rw [hk], ?_⟩
  by_cases hz : kv.1 = z
  ·refine .inr ⟨kv.2, e, ?_, ?_, hv⟩
   ·unfold lookS; rw [List.find?_cons_of_pos (by simpa using hz)]; rfl
   ·rw [List.find?_cons_of_pos (by rw [hk]; subst hz; unfold Value.isStr; simp)]
  ·have e1 : lookS (kv :: kvs) z = lookS kvs z := by unfold lookS; rw [List.find?_cons_of_neg (by simpa using hz)]
   have e2 : (e :: es).find? (·.key.isStr z) = es.find? (·.key.isStr z) := List.find?_cons_of_neg (by rw [hk]; unfold Value.isStr; simpa using hz)
   rw [e1, e2]; exact ih2
theorem tab_ns {K : PySem.W.Frag} {w : World} {a : Addr} {kvs : List (Str × V)} (h : KTab K w a kvs) (z : Str) :
  (lookS kvs z = none ∧ PySem.W.nsIn K a z = some none) ∨ ∃ v u, lookS kvs z = some v ∧ PySem.W.nsIn K a z = some (some u) ∧ RelV v u := by
 obtain ⟨es, n, hl, hk, hs, hp⟩ := h
 obtain ⟨h1, h2⟩ := tab_find hp z
 unfold PySem.W.nsIn
 rw [hl]
 rcases h2 with ⟨e1, e2⟩ | ⟨v, e, e1, e2, r⟩
 ·refine .inl ⟨e1, ?_⟩
  simp only [e2, h1]
  rfl
 ·refine .inr ⟨v, e.val, e1, ?_, r⟩
  simp only [e2]
def rInTab (K : PySem.W.Frag) (w : World) (neg : Bool) : R2 := fun x y H Q => ∃ p z kvs, x = .str z ∧ y = .ref p ∧ KTab K w p kvs ∧ Q (.bl (if neg then !(lookS kvs z).isSome else (lookS kvs z).isSome)) H
def rIxTab (K : PySem.W.Frag) (w : World) : R2 := fun x y H Q => ∃ p z kvs v, x = .ref p ∧ y = .str z ∧ KTab K w p kvs ∧ lookS kvs z = some v ∧ Q v H
section
variable {X : Cx}
theorem op_inTab (K : PySem.W.Frag) (w : World) (hK : X.K = K := by rfl) (hw : X.w = w := by rfl) : OpR X (compareOp .In) (rInTab K w false) := by
 subst hK; subst hw
 intro pins s σ H x y v u Q I rx ry ⟨p, z, kvs, ex, ey, ht, q⟩
 subst ex; subst ey
 obtain ⟨t, rfl⟩ := rx
 obtain rfl : u = Value.ref p := ry
 have hn := tab_ns ht z
 obtain ⟨es, n, hl, hk, hs, hp⟩ := ht
 have hm := PySem.W.mapOf_K (prog := X.prog) (w := X.w) I.kIn hl hk
 refine wpAny_in_of (strKind_is X.prog X.w z t) hs hm ?_
 rcases hn with ⟨e1, e2⟩ | ⟨v, u, e1, e2, r⟩
 ·rw [PySem.W.find_K hl e2]
  rw [e1] at q
  exact ⟨.bl false, H, I.tok _, rfl, q⟩
 ·rw [PySem.W.find_K hl e2]
  rw [e1] at q
  exact ⟨.bl true, H, I.tok _, rfl, q⟩
theorem op_niTab (K : PySem.W.Frag) (w : World) (hK : X.K = K := by rfl) (hw : X.w = w := by rfl) : OpR X (compareOp .NotIn) (rInTab K w true) := by
 subst hK; subst hw
 intro pins s σ H x y v u Q I rx ry ⟨p, z, kvs, ex, ey, ht, q⟩
 subst ex; subst ey
 obtain ⟨t, rfl⟩ := rx
 obtain rfl : u = Value.ref p := ry
 have hn := tab_ns ht z
 obtain ⟨es, n, hl, hk, hs, hp⟩ := ht
 have hm := PySem.W.mapOf_K (prog := X.prog) (w := X.w) I.kIn hl hk
 refine wpAny_notIn_of (strKind_is X.prog X.w z t) hs hm ?_
 rcases hn with ⟨e1, e2⟩ | ⟨v, u, e1, e2, r⟩
 ·rw [PySem.W.find_K hl e2]
  rw [e1] at q
  exact ⟨.bl true, H, I.tok _, rfl, q⟩
 ·rw [PySem.W.find_K hl e2]
  rw [e1] at q
  exact ⟨.bl false, H, I.tok _, rfl, q⟩
theorem ix_tab (K : PySem.W.Frag) (w : World) (hK : X.K = K := by rfl) (hw : X.w = w := by rfl) : IxR X (rIxTab K w) := by
 subst hK; subst hw
 intro value slice pins s σ H x y v u Q I rx ry ⟨p, z, kvs, r, ex, ey, ht, e, q⟩ hs
 have hn := tab_ns ht z
 obtain ⟨es, n, hl, hk, hs', hp⟩ := ht
 rcases hn with ⟨e1, e2⟩ | ⟨v', u', e1, e2, rv⟩
 ·rw [e1] at e; cases e
 ·rw [e1] at e
  cases e
  exact ix_kdict value slice pins s σ H x y v u Q I rx ry ⟨p, z, _, ex, ey, ⟨es, n, u', hl, hk, e2, rv⟩, q⟩ hs
end
section
variable {K : PySem.W.Frag} {w : World} {H : Hp} {Q : VK} {p : Addr} {z : Str} {kvs : List (Str × V)}
end
def KTup (K : PySem.W.Frag) (a : Addr) (xs : List V) : Prop := ∃ (o : Obj) (its : Array Value) (n : Nat), K.lookup a = some o ∧ o.cls = .type "tuple" ∧ o.data = .seq its n ∧ its.size ≤ sizeLine ∧ Vals xs its.toList
theorem KTup.sq {K : PySem.W.Frag} {a : Addr} {xs : List V} (h : KTup K a xs) {H : Hp} : SqT K H a xs := .inr h
def b01 (b : Bool) : Int := if b = true then 1 else 0
def rNegN : V → Hp → VK → Prop := fun x H Q => (∃ i : Int, x = .int i ∧ Q (.int (-i)) H) ∨ ∃ b, x = .bl b ∧ Q (.int (-(b01 b))) H
theorem gives_neg_bool (b : Bool) : Gives (Builtin.«int.__neg__» ⟨[.bool b], []⟩) (.int (-(b01 b))) := by
 cases b <;> exact .of_eq rfl
section
variable {X : Cx}
theorem un_negN : UnR X (unaryOp .USub) rNegN := by
 intro pins s σ H x v Q I rx h
 rcases h with ⟨i, ex, q⟩ | ⟨b, ex, q⟩
 ·subst ex
  obtain ⟨t, rfl⟩ := rx
  exact neg_int ⟨.int (-i), H, I.tok _, ⟨_, rfl⟩, q⟩
 ·subst ex
  obtain rfl : v = Value.bool b := rx
  exact unaryOp_gives (op := .USub) (PySem.typeIs_bool s b) rfl F.slot_bool_neg F.entry_int_neg (F.args_int_neg_1 _) (gives_neg_bool b) ⟨.int (-(b01 b)), H, I.tok _, ⟨_, rfl⟩, q⟩
end
end G
namespace M
open PySem PySem.Spec PyProof.Rows L2 G
inductive D where
 | non | bl (b : Bool) | int (i : Int) | str (s : Str) | tup (xs : List D) | ref (n : Nat) | scr (ns : List Int) | kd (kvs : List (Str × D)) | fn (n : Nat) | exc (cls : Nat) (f : Option (Nat × Int)) | kt (xs : List D)
inductive Ob where
 | lst (xs : List D) | dK (kvs : List (Key × D)) | dT (kvs : List (List Key × D)) | ins (C : Nat) (fs : List (Nat × D)) | lk (o : Ob)
abbrev Sto := List Ob
structure Ex where
 cls : Nat
 f : Option (Nat × Int)
abbrev R (α : Type) := Except Ex α
abbrev Mo (α : Type) := Sto → Option (R α × Sto)
abbrev Env := List (Option D)
structure MC where
 K : PySem.W.Frag
 w : World
 /-- where classes and defs stand; the fields' names -/
 ca : Nat → Addr
 fa : Nat → Addr
 nm : Nat → Str
 inj : ∀ i j, nm i = nm j → i = j
variable {c : MC}
def TupAt (ρ : List Addr) (H : Hp) (a : Addr) (vs : List V) : Prop := H a = some (.tup vs) ∧ a ∉ ρ
def ScrAt (c : MC) (ρ : List Addr) (H : Hp) (a : Addr) (vs : List V) : Prop := (Rd H a (.lst vs) ∧ a ∉ ρ) ∨
  ∃ (o : Obj) (its : Array Value) (n : Nat), c.K.lookup a = some o ∧ o.cls = .type "list" ∧ o.dict = none ∧ o.data = .seq its n ∧ its.size ≤ sizeLine ∧ Vals vs its.toList
theorem ScrAt.sq {ρ : List Addr} {H : Hp} {a : Addr} {vs : List V} (h : ScrAt c ρ H a vs) : SqL c.K H a vs := h.elim (fun h => .inl h.1) fun h => .inr h
def XdAt (c : MC) (ρ : List Addr) (H : Hp) (d : Option Addr) : Option (Nat × Int) → Prop
 | none => d = none
 | some (k, i) => ∃ dd, d = some dd ∧ H dd = some (.xd [(c.nm k, .int i)]) ∧ dd ∉ ρ
mutual
inductive RV (c : MC) (ρ : List Addr) (H : Hp) : V → D → Prop
 | non : RV c ρ H .non .non
 | bl (b : Bool) : RV c ρ H (.bl b) (.bl b)
 | int (i : Int) : RV c ρ H (.int i) (.int i)
 | str (s : Str) : RV c ρ H (.str s) (.str s)
 | tup {a : Addr} {vs : List V} {ds : List D} : TupAt ρ H a vs → RVs c ρ H vs ds → RV c ρ H (.ref a) (.tup ds)
 | kt {a : Addr} {vs : List V} {ds : List D} : KTup c.K a vs → RVs c ρ H vs ds → RV c ρ H (.ref a) (.kt ds)
 | ref {a : Addr} {n : Nat} : ρ[n]? = some a → RV c ρ H (.ref a) (.ref n)
 | scr {a : Addr} {ns : List Int} : ScrAt c ρ H a (ns.map V.int) → RV c ρ H (.ref a) (.scr ns)
 | kd {a : Addr} {ks : List Str} {vs : List V} {ds : List D} : KTab c.K c.w a (ks.zip vs) → vs.length = ks.length → RVs c ρ H vs ds → RV c ρ H (.ref a) (.kd (ks.zip ds))
 | fn (n : Nat) : RV c ρ H (.ref (c.fa n)) (.fn n)
 | exc {a : Addr} {d : Option Addr} {cls : Nat} {f : Option (Nat × Int)} : H a = some (ExS (.ref (c.ca cls)) d a) → a ∉ ρ → XdAt c ρ H d f → RV c ρ H (.ref a) (.exc cls f)
inductive RVs (c : MC) (ρ : List Addr) (H : Hp) : List V → List D → Prop
 | nil : RVs c ρ H [] []
 | cons {v : V} {d : D} {vs : List V} {ds : List D} : RV c ρ H v d → RVs c ρ H vs ds → RVs c ρ H (v :: vs) (d :: ds)
end
inductive RKs {κ : Type} (c : MC) (ρ : List Addr) (H : Hp) : List (κ × V) → List (κ × D) → Prop
 | nil : RKs c ρ H [] []
 | cons {k : κ} {v : V} {d : D} {vs : List (κ × V)} {ds : List (κ × D)} : RV c ρ H v d → RKs c ρ H vs ds → RKs c ρ H ((k, v) :: vs) ((k, d) :: ds)
inductive RFs (c : MC) (ρ : List Addr) (H : Hp) : List (Str × V) → List (Nat × D) → Prop
 | nil : RFs c ρ H [] []
 | cons {k : Nat} {v : V} {d : D} {vs : List (Str × V)} {ds : List (Nat × D)} : RV c ρ H v d → RFs c ρ H vs ds → RFs c ρ H ((c.nm k, v) :: vs) ((k, d) :: ds)
inductive RO0 (c : MC) (ρ : List Addr) (H : Hp) : HO → Ob → Prop
 | lst {vs : List V} {ds : List D} : RVs c ρ H vs ds → RO0 c ρ H (.lst vs) (.lst ds)
 | dK {vs : List (Key × V)} {ds : List (Key × D)} : RKs c ρ H vs ds → RO0 c ρ H (.dK vs) (.dK ds)
 | dT {vs : List (List Key × V)} {ds : List (List Key × D)} : RKs c ρ H vs ds → RO0 c ρ H (.dT vs) (.dT ds)
 | ins {C : Nat} {dx : Addr} {vs : List (Str × V)} {ds : List (Nat × D)} : RFs c ρ H vs ds → RO0 c ρ H (.ins (c.ca C) dx vs) (.ins C ds)
inductive RO (c : MC) (ρ : List Addr) (H : Hp) : HO → Ob → Prop
 | un {o : HO} {u : Ob} : RO0 c ρ H o u → RO c ρ H o u
 | lk {ob : Obj} {o : HO} {u : Ob} : RO0 c ρ H o u → RO c ρ H (.frz ob o) (.lk u)
structure Rel (c : MC) (ρ : List Addr) (st : Sto) (H : Hp) : Prop where
 len : ρ.length = st.length
 nd : ρ.Nodup
 ob : ∀ (n : Nat) (o : Ob), st[n]? = some o → ∃ a ho, ρ[n]? = some a ∧ H a = some ho ∧ RO c ρ H ho o
def isSet (o : HO) (b : Addr) : Prop := ∃ w S n, o = SetTq w b S n
theorem ns_tup {vs : List V} {b : Addr} : ¬ isSet (.tup vs) b := fun ⟨_, _, _, e⟩ => by unfold SetTq at e; cases e
theorem ns_lst {vs : List V} {b : Addr} : ¬ isSet (.lst vs) b := fun ⟨_, _, _, e⟩ => by unfold SetTq at e; cases e
theorem ns_frz {o : Obj} {u : HO} {b : Addr} : ¬ isSet (.frz o u) b := fun ⟨_, _, _, e⟩ => by unfold SetTq at e; cases e
theorem ns_xd {fs : List (Str × V)} {b : Addr} : ¬ isSet (.xd fs) b := fun ⟨_, _, _, e⟩ => by unfold SetTq at e; cases e
theorem ns_exc {cls : Value} {d : Option Addr} {b : Addr} : ¬ isSet (ExS cls d b) b := fun ⟨w, S, n, e⟩ => by
 unfold SetTq ExS at e
 injection e with e
 have hg : (⟨Array.replicate (b + 1) (⟨cls, d, .fields #[], #[]⟩ : Obj), {}⟩ : Heap).get? b = some (⟨cls, d, .fields #[], #[]⟩ : Obj) := by
  unfold Heap.get?
  dsimp only
  rw [Array.getElem?_eq_getElem (by simp)]
  simp
 have h1 := congrFun e (⟨Array.replicate (b + 1) (⟨cls, d, .fields #[], #[]⟩ : Obj), {}⟩ : Heap)
 have h2 : ∃ (oe : Obj) (vs : Array Value), (⟨Array.replicate (b + 1) (⟨cls, d, .fields #[], #[]⟩ : Obj), {}⟩ : Heap).get? b = some oe ∧ Zc cls d oe ∧ oe.data = .fields vs := ⟨_, #[], hg, ⟨rfl, rfl⟩, rfl⟩
 rw [h1] at h2
 obtain ⟨o, es, ep, t, q1, _, q2, _⟩ := h2
 rw [hg] at q1
 cases q1
 cases q2
structure Step0 (ρ : List Addr) (H : Hp) (ρ' : List Addr) (H' : Hp) : Prop where
 ext : ∃ l, ρ' = ρ ++ l ∧ ∀ b ∈ l, H b = none
 keep : ∀ b o, H b = some o → b ∉ ρ → ¬ isSet o b → H' b = some o
 there : ∀ b o, H b = some o → ∃ o', H' b = some o'
structure StepS (ρ : List Addr) (H : Hp) (ρ' : List Addr) (H' : Hp) : Prop where
 ext : ∃ l, ρ' = ρ ++ l ∧ ∀ b ∈ l, H b = none
 keep : ∀ b o, H b = some o → b ∉ ρ → ¬ isSet o b → H' b = some o
 there : ∀ b o, H b = some o → ∃ o', H' b = some o'
 frz : ∀ b od u, H b = some (.frz od u) → H' b = some (.frz od u)
structure Step (ρ : List Addr) (H : Hp) (ρ' : List Addr) (H' : Hp) : Prop where
 ext : ∃ l, ρ' = ρ ++ l ∧ ∀ b ∈ l, H b = none
 keep : ∀ b o, H b = some o → b ∉ ρ → H' b = some o
 there : ∀ b o, H b = some o → ∃ o', H' b = some o'
 frz : ∀ b od u, H b = some (.frz od u) → H' b = some (.frz od u)
section
variable {ρ ρ' ρ1 ρ2 : List Addr} {H H' H1 H2 : Hp} {st st' : Sto}
theorem StepS.to0 (s : StepS ρ H ρ1 H1) : Step0 ρ H ρ1 H1 := ⟨s.ext, s.keep, s.there⟩
theorem Step.toS (s : Step ρ H ρ1 H1) : StepS ρ H ρ1 H1 := ⟨s.ext, fun b o h hn _ => s.keep b o h hn, s.there, s.frz⟩
theorem Step.to0 (s : Step ρ H ρ1 H1) : Step0 ρ H ρ1 H1 := s.toS.to0
instance : Coe (StepS ρ H ρ1 H1) (Step0 ρ H ρ1 H1) := ⟨StepS.to0⟩
instance : Coe (Step ρ H ρ1 H1) (StepS ρ H ρ1 H1) := ⟨Step.toS⟩
instance : Coe (Step ρ H ρ1 H1) (Step0 ρ H ρ1 H1) := ⟨Step.to0⟩
theorem Step.refl : Step ρ H ρ H := ⟨⟨[], (List.append_nil _).symm, fun _ h => nomatch h⟩, fun _ _ h _ => h, fun _ o h => ⟨o, h⟩, fun _ _ _ h => h⟩
theorem Step0.notin (s : Step0 ρ H ρ1 H1) {b : Addr} {o : HO} (h : H b = some o) (hn : b ∉ ρ) : b ∉ ρ1 := by
 obtain ⟨l, rfl, hl⟩ := s.ext
 intro hm
 rcases List.mem_append.mp hm with hm | hm
 ·exact hn hm
 ·rw [hl b hm] at h; cases h
theorem Step.notin (s : Step ρ H ρ1 H1) {b : Addr} {o : HO} (h : H b = some o) (hn : b ∉ ρ) : b ∉ ρ1 := s.to0.notin h hn
theorem Step.trans (s : Step ρ H ρ1 H1) (t : Step ρ1 H1 ρ2 H2) : Step ρ H ρ2 H2 := by
 obtain ⟨l, e, hl⟩ := s.ext
 obtain ⟨l', e', hl'⟩ := t.ext
 refine ⟨⟨l ++ l', by rw [e', e, List.append_assoc], fun b hb => ?_⟩, fun b o h hn => t.keep b o (s.keep b o h hn) (s.notin h hn), fun b o h => ?_, fun b od u h => t.frz _ _ _ (s.frz _ _ _ h)⟩
 ·rcases List.mem_append.mp hb with hb | hb
  ·exact hl b hb
  ·cases hH : H b with
   | none => rfl
   | some o =>
    obtain ⟨o', h'⟩ := s.there b o hH
    rw [hl' b hb] at h'; cases h'
 ·obtain ⟨o', h'⟩ := s.there b o h
  exact t.there b o' h'
theorem StepS.trans (s : StepS ρ H ρ1 H1) (t : StepS ρ1 H1 ρ2 H2) : StepS ρ H ρ2 H2 := by
 obtain ⟨l, e, hl⟩ := s.ext
 obtain ⟨l', e', hl'⟩ := t.ext
 refine ⟨⟨l ++ l', by rw [e', e, List.append_assoc], fun b hb => ?_⟩, fun b o h hn hs => t.keep b o (s.keep b o h hn hs) (s.to0.notin h hn) hs, fun b o h => let ⟨o', h'⟩ := s.there b o h; t.there b o' h', fun b od u h => t.frz _ _ _ (s.frz _ _ _ h)⟩
 rcases List.mem_append.mp hb with hb | hb
 ·exact hl b hb
 ·cases hH : H b with
  | none => rfl
  | some o =>
   obtain ⟨o', h'⟩ := s.there b o hH
   rw [hl' b hb] at h'; cases h'
theorem Step0.get (s : Step0 ρ H ρ1 H1) {n : Nat} {a : Addr} (h : ρ[n]? = some a) : ρ1[n]? = some a := by
 obtain ⟨l, rfl, _⟩ := s.ext
 rw [List.getElem?_append_left (List.getElem?_eq_some_iff.mp h).1]; exact h
theorem Step.get (s : Step ρ H ρ1 H1) {n : Nat} {a : Addr} (h : ρ[n]? = some a) : ρ1[n]? = some a := s.to0.get h
theorem TupAt.mono (s : Step0 ρ H ρ1 H1) {a : Addr} {vs : List V} (h : TupAt ρ H a vs) : TupAt ρ1 H1 a vs := ⟨s.keep _ _ h.1 h.2 ns_tup, s.notin h.1 h.2⟩
theorem ScrAt.mono (s : Step0 ρ H ρ1 H1) {a : Addr} {vs : List V} (h : ScrAt c ρ H a vs) : ScrAt c ρ1 H1 a vs := by
 refine h.imp (fun ⟨h, hn⟩ => ?_) id
 rcases h with h | ⟨o, h⟩
 ·exact ⟨.inl (s.keep _ _ h hn ns_lst), s.notin h hn⟩
 ·exact ⟨.inr ⟨o, s.keep _ _ h hn ns_frz⟩, s.notin h hn⟩
theorem XdAt.mono (s : Step0 ρ H ρ1 H1) {d : Option Addr} {f : Option (Nat × Int)} (h : XdAt c ρ H d f) : XdAt c ρ1 H1 d f := by
 cases f with
 | none => exact h
 | some p =>
  obtain ⟨dd, e, h1, h2⟩ := h
  exact ⟨dd, e, s.keep _ _ h1 h2 ns_xd, s.notin h1 h2⟩
mutual
theorem RV.mono (s : Step0 ρ H ρ1 H1) : ∀ {v : V} {d : D}, RV c ρ H v d → RV c ρ1 H1 v d
 | _, _, .non => .non
 | _, _, .bl b => .bl b
 | _, _, .int i => .int i
 | _, _, .str x => .str x
 | _, _, .tup h hs => .tup (h.mono s) (RVs.mono s hs)
 | _, _, .kt h hs => .kt h (RVs.mono s hs)
 | _, _, .ref h => .ref (s.get h)
 | _, _, .scr h => .scr (h.mono s)
 | _, _, .kd h e hs => .kd h e (RVs.mono s hs)
 | _, _, .fn n => .fn n
 | _, _, .exc h hn hx => .exc (s.keep _ _ h hn ns_exc) (s.notin h hn) (hx.mono s)
theorem RVs.mono (s : Step0 ρ H ρ1 H1) : ∀ {vs : List V} {ds : List D}, RVs c ρ H vs ds → RVs c ρ1 H1 vs ds
 | _, _, .nil => .nil
 | _, _, .cons h t => .cons (RV.mono s h) (RVs.mono s t)
end
theorem RKs.mono {κ : Type} (s : Step0 ρ H ρ1 H1) : ∀ {vs : List (κ × V)} {ds : List (κ × D)}, RKs c ρ H vs ds → RKs c ρ1 H1 vs ds
 | _, _, .nil => .nil
 | _, _, .cons h t => .cons (h.mono s) (RKs.mono s t)
theorem RFs.mono (s : Step0 ρ H ρ1 H1) : ∀ {vs : List (Str × V)} {ds : List (Nat × D)}, RFs c ρ H vs ds → RFs c ρ1 H1 vs ds
 | _, _, .nil => .nil
 | _, _, .cons h t => .cons (h.mono s) (RFs.mono s t)
theorem RFs.length : ∀ {vs : List (Str × V)} {ds : List (Nat × D)}, RFs c ρ H vs ds → vs.length = ds.length
 | _, _, .nil => rfl
 | _, _, .cons _ t => by rw [List.length_cons, List.length_cons, RFs.length t]
theorem RFs.look {f : Nat} : ∀ {vs : List (Str × V)} {ds : List (Nat × D)}, RFs c ρ H vs ds → (vs.lookup (c.nm f) = none ∧ ds.lookup f = none) ∨ ∃ v d, vs.lookup (c.nm f) = some v ∧ ds.lookup f = some d ∧ RV c ρ H v d
 | _, _, .nil => .inl ⟨rfl, rfl⟩
 | _, _, .cons (k := k) (v := v) (d := d) (vs := vs) (ds := ds) h t => by
  by_cases e : f = k
  ·subst e
   exact .inr ⟨v, d, by rw [List.lookup_cons_self], by rw [List.lookup_cons_self], h⟩
  ·have e1 : (c.nm f == c.nm k) = false := beq_eq_false_iff_ne.mpr fun z => e (c.inj _ _ z)
   have e2 : (f == k) = false := beq_eq_false_iff_ne.mpr e
   have a1 : List.lookup (c.nm f) ((c.nm k, v) :: vs) = vs.lookup (c.nm f) := by rw [List.lookup_cons, e1]
   have a2 : List.lookup f ((k, d) :: ds) = ds.lookup f := by rw [List.lookup_cons, e2]
   rw [a1, a2]; exact RFs.look t
theorem RFs.no {m : Str} : ∀ {vs : List (Str × V)} {ds : List (Nat × D)}, RFs c ρ H vs ds → (∀ k ∈ ds.map (·.1), c.nm k ≠ m) → vs.lookup m = none
 | _, _, .nil, _ => rfl
 | _, _, .cons (k := k) _ t, h => by
  rw [List.lookup_cons, show (m == c.nm k) = false from beq_eq_false_iff_ne.mpr fun z => h k (by simp) z.symm]
  exact RFs.no t fun j hj => h j (List.mem_cons_of_mem _ hj)
def putFD (f : Nat) (d : D) : List (Nat × D) → List (Nat × D)
 | [] => [(f, d)]
 | (k, x) :: r => if k = f then (k, d) :: r else (k, x) :: putFD f d r
theorem RO0.mono (s : Step0 ρ H ρ1 H1) {o : HO} {u : Ob} (h : RO0 c ρ H o u) : RO0 c ρ1 H1 o u := by
 cases h with
 | lst h => exact .lst (h.mono s)
 | dK h => exact .dK (h.mono s)
 | dT h => exact .dT (h.mono s)
 | ins h => exact .ins (h.mono s)
theorem RO.mono (s : Step0 ρ H ρ1 H1) {o : HO} {u : Ob} (h : RO c ρ H o u) : RO c ρ1 H1 o u := by
 cases h with
 | un h => exact .un (h.mono s)
 | lk h => exact .lk (h.mono s)
theorem RVs.length {vs : List V} {ds : List D} (h : RVs c ρ H vs ds) : vs.length = ds.length := by
 induction vs generalizing ds with
 | nil => cases h; rfl
 | cons v vs ih => cases h with | cons a t => rw [List.length_cons, List.length_cons, ih t]
theorem RVs.get {vs : List V} {ds : List D} (h : RVs c ρ H vs ds) {i : Nat} {d : D} (hd : ds[i]? = some d) : ∃ v, vs[i]? = some v ∧ RV c ρ H v d := by
 induction vs generalizing ds i with
 | nil => cases h; cases hd
 | cons v vs ih =>
  cases h with
  | cons a t =>
   cases i with
   | zero => cases hd; exact ⟨v, rfl, a⟩
   | succ i => exact ih t hd
theorem RVs.getV {vs : List V} {ds : List D} (h : RVs c ρ H vs ds) {i : Nat} {v : V} (hv : vs[i]? = some v) : ∃ d, ds[i]? = some d ∧ RV c ρ H v d := by
 induction vs generalizing ds i with
 | nil => cases hv
 | cons x vs ih =>
  cases h with
  | cons a t =>
   cases i with
   | zero => cases hv; exact ⟨_, rfl, a⟩
   | succ i => exact ih t hv
theorem RVs.app {xs ys : List V} {ds es : List D} (h : RVs c ρ H xs ds) (h' : RVs c ρ H ys es) : RVs c ρ H (xs ++ ys) (ds ++ es) := by
 induction xs generalizing ds with
 | nil => cases h; exact h'
 | cons v vs ih => cases h with | cons a t => exact .cons a (ih t)
theorem RVs.take {xs : List V} {ds : List D} (n : Nat) (h : RVs c ρ H xs ds) : RVs c ρ H (xs.take n) (ds.take n) := by
 induction n generalizing xs ds with
 | zero => exact .nil
 | succ n ih => cases h with
  | nil => exact .nil
  | cons a t => exact .cons a (ih t)
theorem RVs.drop {xs : List V} {ds : List D} (n : Nat) (h : RVs c ρ H xs ds) : RVs c ρ H (xs.drop n) (ds.drop n) := by
 induction n generalizing xs ds with
 | zero => exact h
 | succ n ih => cases h with
  | nil => exact .nil
  | cons a t => exact ih t
theorem RVs.set {xs : List V} {ds : List D} {v : V} {d : D} (h : RVs c ρ H xs ds) (i : Nat) (r : RV c ρ H v d) : RVs c ρ H (xs.set i v) (ds.set i d) := by
 induction xs generalizing ds i with
 | nil => cases h; exact .nil
 | cons x xs ih => cases h with
  | cons a t => cases i with
   | zero => exact .cons r t
   | succ i => exact .cons a (ih t i)
theorem RVs.eraseIdx {xs : List V} {ds : List D} (h : RVs c ρ H xs ds) (i : Nat) : RVs c ρ H (xs.eraseIdx i) (ds.eraseIdx i) := by
 induction xs generalizing ds i with
 | nil => cases h; exact .nil
 | cons x xs ih => cases h with
  | cons a t => cases i with
   | zero => exact t
   | succ i => exact .cons a (ih t i)
theorem RKs.length {κ : Type} : ∀ {vs : List (κ × V)} {ds : List (κ × D)}, RKs c ρ H vs ds → vs.length = ds.length
 | _, _, .nil => rfl
 | _, _, .cons _ t => by rw [List.length_cons, List.length_cons, RKs.length t]
theorem RKs.keys {κ : Type} : ∀ {vs : List (κ × V)} {ds : List (κ × D)}, RKs c ρ H vs ds → vs.map (·.1) = ds.map (·.1)
 | _, _, .nil => rfl
 | _, _, .cons _ t => by rw [List.map_cons, List.map_cons, RKs.keys t]
theorem RKs.vals {κ : Type} : ∀ {vs : List (κ × V)} {ds : List (κ × D)}, RKs c ρ H vs ds → RVs c ρ H (vs.map (·.2)) (ds.map (·.2))
 | _, _, .nil => .nil
 | _, _, .cons h t => .cons h (RKs.vals t)
def valD {κ : Type} [DecidableEq κ] (ds : List (κ × D)) (k : κ) : Option D := (ds.find? fun kv => decide (kv.1 = k)).map (·.2)
def putD {κ : Type} [DecidableEq κ] (ds : List (κ × D)) (k : κ) (d : D) : List (κ × D) := if ds.any (fun kv => decide (kv.1 = k)) then ds.map fun kv => if kv.1 = k then (kv.1, d) else kv else ds ++ [(k, d)]
def dropD {κ : Type} [DecidableEq κ] (ds : List (κ × D)) (k : κ) : List (κ × D) := ds.filter fun kv => decide (kv.1 ≠ k)
theorem RKs.val {κ : Type} [DecidableEq κ] {k : κ} : ∀ {vs : List (κ × V)} {ds : List (κ × D)}, RKs c ρ H vs ds → (valV vs k = none ∧ valD ds k = none) ∨ ∃ v d, valV vs k = some v ∧ valD ds k = some d ∧ RV c ρ H v d
 | _, _, .nil => .inl ⟨rfl, rfl⟩
 | _, _, .cons (k := k') (v := v) (d := d) (vs := vs) (ds := ds) h t => by
  by_cases e : k' = k
  ·refine .inr ⟨v, d, ?_, ?_, h⟩
   ·unfold valV; rw [List.find?_cons_of_pos (by simpa using e)]; rfl
   ·unfold valD; rw [List.find?_cons_of_pos (by simpa using e)]; rfl
  ·have e1 : valV ((k', v) :: vs) k = valV vs k := by unfold valV; rw [List.find?_cons_of_neg (by simpa using e)]
   have e2 : valD ((k', d) :: ds) k = valD ds k := by unfold valD; rw [List.find?_cons_of_neg (by simpa using e)]
   rw [e1, e2]; exact RKs.val t
theorem RKs.app {κ : Type} : ∀ {vs us : List (κ × V)} {ds es : List (κ × D)}, RKs c ρ H vs ds → RKs c ρ H us es → RKs c ρ H (vs ++ us) (ds ++ es)
 | _, _, _, _, .nil, h => h
 | _, _, _, _, .cons a t, h => .cons a (RKs.app t h)
theorem RKs.drop {κ : Type} [DecidableEq κ] {k : κ} : ∀ {vs : List (κ × V)} {ds : List (κ × D)}, RKs c ρ H vs ds → RKs c ρ H (dropK vs k) (dropD ds k)
 | _, _, .nil => .nil
 | _, _, .cons (k := k') h t => by
  unfold dropK dropD
  by_cases e : k' = k
  ·rw [List.filter_cons_of_neg (by simpa using e), List.filter_cons_of_neg (by simpa using e)]; exact RKs.drop t
  ·rw [List.filter_cons_of_pos (by simpa using e), List.filter_cons_of_pos (by simpa using e)]; exact .cons h (RKs.drop t)
theorem Rel.get (R : Rel c ρ st H) {n : Nat} {o : Ob} (h : st[n]? = some o) : ∃ a ho, ρ[n]? = some a ∧ H a = some ho ∧ RO c ρ H ho o := R.ob n o h
theorem Rel.at {R : Rel c ρ st H} {n : Nat} {a : Addr} (h : ρ[n]? = some a) : ∃ o, st[n]? = some o := by
 have := (List.getElem?_eq_some_iff.mp h).1
 rw [R.len] at this
 exact ⟨_, List.getElem?_eq_getElem this⟩
theorem Rel.mem (R : Rel c ρ st H) {a : Addr} (h : a ∈ ρ) : ∃ (n : Nat) (ho : HO) (o : Ob), ρ[n]? = some a ∧ st[n]? = some o ∧ H a = some ho ∧ RO c ρ H ho o := by
 obtain ⟨n, hn⟩ := List.mem_iff_getElem?.mp h
 obtain ⟨o, ho⟩ := Rel.at (R := R) hn
 obtain ⟨a', u, h1, h2, h3⟩ := R.ob n o ho
 rw [hn] at h1; cases h1
 exact ⟨n, u, o, hn, ho, h2, h3⟩
theorem Rel.fresh (R : Rel c ρ st H) {p : Addr} (hp : H p = none) : p ∉ ρ := fun h => by
 obtain ⟨_, _, _, _, _, h2, _⟩ := R.mem h
 rw [hp] at h2; cases h2
theorem Rel.step (R : Rel c ρ st H) (s : Step ρ H ρ H') (h : ∀ a ∈ ρ, H' a = H a) : Rel c ρ st H' :=
 ⟨R.len, R.nd, fun n o e => by
  obtain ⟨a, ho, h1, h2, h3⟩ := R.ob n o e
  exact ⟨a, ho, h1, by rw [h a (List.mem_of_getElem? h1)]; exact h2, h3.mono s⟩⟩
theorem step_upd {p : Addr} {o : HO} (hp : H p = none) : Step ρ H ρ (upd H p o) :=
 ⟨⟨[], (List.append_nil _).symm, fun _ h => nomatch h⟩, fun b u h _ => by rw [upd_ne (ne_of_none h hp)]; exact h, fun b u h => ⟨u, by rw [upd_ne (ne_of_none h hp)]; exact h⟩, fun b od u h => by rw [upd_ne (ne_of_none h hp)]; exact h⟩
theorem Rel.side (R : Rel c ρ st H) {p : Addr} (o : HO) (hp : H p = none) : Rel c ρ st (upd H p o) ∧ Step ρ H ρ (upd H p o) :=
 ⟨R.step (step_upd hp) fun a ha => upd_ne fun e => by subst e; exact R.fresh hp ha, step_upd hp⟩
theorem Rel.tup (R : Rel c ρ st H) {p : Addr} {vs : List V} {ds : List D} (hp : H p = none) (hd : RVs c ρ H vs ds) : Rel c ρ st (upd H p (.tup vs)) ∧ Step ρ H ρ (upd H p (.tup vs)) ∧ RV c ρ (upd H p (.tup vs)) (.ref p) (.tup ds) :=
 ⟨(R.side _ hp).1, (R.side _ hp).2, RV.tup ⟨upd_same, R.fresh hp⟩ (hd.mono (R.side (.tup vs) hp).2.to0)⟩
theorem Rel.new (R : Rel c ρ st H) {p : Addr} {o : HO} {u : Ob} (hp : H p = none) (h : RO0 c ρ H o u) : Rel c (ρ ++ [p]) (st ++ [u]) (upd H p o) ∧ Step ρ H (ρ ++ [p]) (upd H p o) ∧ RV c (ρ ++ [p]) (upd H p o) (.ref p) (.ref st.length) := by
 have s : Step ρ H (ρ ++ [p]) (upd H p o) := ⟨⟨[p], rfl, fun b hb => by rw [List.mem_singleton.mp hb]; exact hp⟩, (step_upd (ρ := ρ) hp).keep, (step_upd (ρ := ρ) hp).there, (step_upd (ρ := ρ) hp).frz⟩
 have hg : (ρ ++ [p])[st.length]? = some p := by rw [← R.len, List.getElem?_append_right (Nat.le_refl _), Nat.sub_self]; rfl
 refine ⟨⟨by rw [List.length_append, List.length_append, R.len]; rfl, ?_, fun n v e => ?_⟩, s, .ref hg⟩
 ·rw [List.nodup_append]
  exact ⟨R.nd, by simp, fun a ha b hb e => R.fresh hp (by rw [List.mem_singleton.mp hb] at e; rw [← e]; exact ha)⟩
 ·by_cases hn : n < st.length
  ·rw [List.getElem?_append_left hn] at e
   obtain ⟨a, ho, h1, h2, h3⟩ := R.ob n v e
   exact ⟨a, ho, s.get h1, by rw [upd_ne fun z => R.fresh hp (by rw [← z]; exact List.mem_of_getElem? h1)]; exact h2, h3.mono s⟩
  ·rw [List.getElem?_append_right (by omega)] at e
   have hz : n - st.length = 0 := by
    have := (List.getElem?_eq_some_iff.mp e).1
    simp only [List.length_cons, List.length_nil] at this
    omega
   rw [hz] at e
   cases e
   exact ⟨p, o, by rw [show n = st.length by omega]; exact hg, upd_same, .un (h.mono s)⟩
theorem Rel.newAt (R : Rel c ρ st H) (p : Addr) : (ρ ++ [p])[st.length]? = some p := by rw [← R.len, List.getElem?_append_right (Nat.le_refl _), Nat.sub_self]; rfl
theorem put_keep {ρ : List Addr} {H : Hp} {n : Nat} {a : Addr} {o : HO} (ha : ρ[n]? = some a) : ∀ b u, H b = some u → b ∉ ρ → (upd H a o) b = some u := fun b u h hn => by rw [upd_ne fun e => hn (by rw [e]; exact List.mem_of_getElem? ha)]; exact h
theorem Rel.put0 (R : Rel c ρ st H) {n : Nat} {a : Addr} {o : HO} {u v : Ob} (h : st[n]? = some v) (ha : ρ[n]? = some a) (ho : RO c ρ H o u) : Rel c ρ (st.set n u) (upd H a o) ∧ Step0 ρ H ρ (upd H a o) := by
  have hm := List.mem_of_getElem? ha
  have s : Step0 ρ H ρ (upd H a o) := ⟨⟨[], (List.append_nil _).symm, fun _ h => nomatch h⟩, fun b u h hn _ => put_keep ha b u h hn,
    fun b u h => by by_cases e : b = a; · exact ⟨o, by rw [e, upd_same]⟩
                    · exact ⟨u, by rw [upd_ne e]; exact h⟩⟩
  refine ⟨⟨by rw [List.length_set]; exact R.len, R.nd, fun m w e => ?_⟩, s⟩
  by_cases hnm : n = m
  · subst hnm
    rw [List.getElem?_set_self (List.getElem?_eq_some_iff.mp h).1] at e
    cases e
    exact ⟨a, o, ha, upd_same, ho.mono s⟩
  · rw [List.getElem?_set_ne hnm] at e
    obtain ⟨b, ho', h1, h2, h3⟩ := R.ob m w e
    refine ⟨b, ho', h1, ?_, h3.mono s⟩
    rw [upd_ne fun z => hnm ?_]
    · exact h2
    · subst z
      obtain ⟨x1, e1⟩ := List.getElem?_eq_some_iff.mp h1
      obtain ⟨x2, e2⟩ := List.getElem?_eq_some_iff.mp ha
      exact ((List.getElem_inj R.nd).mp (e2.trans e1.symm))
theorem Rel.nofrz (R : Rel c ρ st H) {n : Nat} {a : Addr} {v : Ob} (h : st[n]? = some v) (ha : ρ[n]? = some a) (hv : ∀ u, v ≠ .lk u) (od : Obj) (u : HO) : H a ≠ some (.frz od u) := fun e => by
 obtain ⟨a', ho', h1, h2, h3⟩ := R.ob n v h
 rw [ha] at h1; cases h1
 rw [e] at h2; cases h2
 cases h3 with
 | un h4 => cases h4
 | lk h4 => exact hv _ rfl
theorem Rel.put (R : Rel c ρ st H) {n : Nat} {a : Addr} {o : HO} {u v : Ob} (h : st[n]? = some v) (ha : ρ[n]? = some a) (ho : RO c ρ H o u) (hv : ∀ u, v ≠ .lk u := by intro u z; cases z) : Rel c ρ (st.set n u) (upd H a o) ∧ Step ρ H ρ (upd H a o) := by
 obtain ⟨R', s⟩ := R.put0 h ha ho
 exact ⟨R', s.ext, put_keep ha, s.there, fun b od u h2 => upd_ne (H := H) (o := o) (fun e : b = a => R.nofrz h ha hv od u (by rw [← e]; exact h2)) ▸ h2⟩
end
end M
namespace M
open PySem PySem.Spec PyProof.Rows L2 G
variable {c : MC}
abbrev Wx := L2.WX
structure REnv (c : MC) (ρ : List Addr) (H : Hp) (σ : L2.St) (env : Env) : Prop where
 len : σ.length = env.length
 val : ∀ (i : Nat) (d : D), env[i]? = some (some d) → ∃ v, σ[i]? = some (some v) ∧ RV c ρ H v d
def RX (c : MC) (ρ : List Addr) (H : Hp) (cls : Value) (d : Option Addr) (e : Ex) : Prop :=
 cls = .ref (c.ca e.cls) ∧ XdAt c ρ H d e.f
def Fin {α : Type} (c : MC) (W : Wx) (σ : L2.St) (ρ : List Addr) (H : Hp) (r : R α) (st' : Sto) (Q : List Addr → Hp → α → Prop) : Prop :=
 ∀ ρ' H', Step ρ H ρ' H' → Rel c ρ' st' H' → match r with
  | .ok a => Q ρ' H' a
  | .error e => ∀ cls d, RX c ρ' H' cls d e → W cls d σ H'
def tX {α β : Type} (c : MC) (W : Wx) (P : List Addr → Hp → β → α → Prop) (m : Env → Mo α) : L2.St → Hp → (β → Hp → Prop) → Prop := fun σ H Q =>
 ∃ ρ st env r st', Rel c ρ st H ∧ REnv c ρ H σ env ∧ m env st = some (r, st') ∧ Fin c W σ ρ H r st' fun ρ' H' a => ∀ b, P ρ' H' b a → Q b H'
abbrev tM (c : MC) (W : Wx) (m : Env → Mo D) : TE := tX c W (RV c) m
abbrev tA (c : MC) (W : Wx) (m : Env → Mo (List D)) : TA := tX c W (RVs c) m
abbrev tT (c : MC) (W : Wx) (m : Env → Mo Bool) : TT := tX c W (fun _ _ b a => b = a) m
abbrev tO (c : MC) (W : Wx) (m : Env → Mo (Option Int)) : TO := tX c W (fun _ _ b a => b = a) m
def bnd {α β : Type} (m : Mo α) (k : α → Mo β) : Mo β := fun st => match m st with
 | none => none
 | some (.error e, s) => some (.error e, s)
 | some (.ok a, s) => k a s
def ret {α : Type} (a : α) : Mo α := fun st => some (.ok a, st)
def stuck {α : Type} : Mo α := fun _ => none
theorem bnd_ok {α β : Type} {m : Mo α} {k : α → Mo β} {st s : Sto} {a : α} (h : m st = some (.ok a, s)) : bnd m k st = k a s := by unfold bnd; rw [h]
theorem bnd_er {α β : Type} {m : Mo α} {k : α → Mo β} {st s : Sto} {e : Ex} (h : m st = some (.error e, s)) : bnd m k st = some (.error e, s) := by unfold bnd; rw [h]
section
variable {W : Wx} {σ : L2.St} {ρ ρ1 ρ' : List Addr} {H H1 H' : Hp} {st st1 st' : Sto} {env : Env} {α β γ : Type} {X : Cx}
theorem REnv.mono (E : REnv c ρ H σ env) (s : Step0 ρ H ρ1 H1) : REnv c ρ1 H1 σ env := ⟨E.len, fun i d h => let ⟨v, h1, h2⟩ := E.val i d h; ⟨v, h1, h2.mono s⟩⟩
theorem Fin.step {r : R α} {Q : List Addr → Hp → α → Prop} (F : Fin c W σ ρ H r st' Q) (s : Step ρ H ρ1 H1) : Fin c W σ ρ1 H1 r st' Q := fun ρ' H' t R => F ρ' H' (s.trans t) R
theorem Fin.ok {a : α} {Q : List Addr → Hp → α → Prop} (F : Fin c W σ ρ H (.ok a) st' Q) (s : Step ρ H ρ1 H1) (R : Rel c ρ1 st' H1) : Q ρ1 H1 a := F ρ1 H1 s R
theorem tX.bind {P : List Addr → Hp → β → α → Prop} {m : Env → Mo α} {k : α → Mo γ} {r : R γ} {Q : List Addr → Hp → γ → Prop} {G : β → Hp → Prop} (Rl : Rel c ρ st H) (En : REnv c ρ H σ env) (h : bnd (m env) k st = some (r, st')) (F : Fin c W σ ρ H r st' Q)
  (hk : ∀ ρ1 H1 st1 a b, Step ρ H ρ1 H1 → Rel c ρ1 st1 H1 → REnv c ρ1 H1 σ env → P ρ1 H1 b a → k a st1 = some (r, st') → Fin c W σ ρ1 H1 r st' Q → G b H1) : tX c W P m σ H G := by
 cases hm : m env st with
 | none => unfold bnd at h; rw [hm] at h; cases h
 | some p =>
  obtain ⟨r1, s1⟩ := p
  cases r1 with
  | error e =>
   rw [bnd_er hm] at h
   cases h
   exact ⟨ρ, st, env, .error e, _, Rl, En, hm, fun ρ' H' t R => F ρ' H' t R⟩
  | ok a =>
   rw [bnd_ok hm] at h
   exact ⟨ρ, st, env, .ok a, s1, Rl, En, hm, fun ρ' H' t R b hb => hk ρ' H' s1 a b t R (En.mono t) hb h (F.step t)⟩
theorem _root_.L2.PE.imp {e : Expr} {t t' : TE} (h : PE X e t) (hi : ∀ σ H Q, t' σ H Q → t σ H Q) : PE X e t' := ⟨fun pins s σ H Q I q => h.run pins s σ H Q I (hi σ H Q q)⟩
theorem _root_.L2.PT.imp {e : Expr} {t t' : TT} (h : PT X e t) (hi : ∀ σ H Q, t' σ H Q → t σ H Q) : PT X e t' := ⟨fun pins s σ H Q I q => h.run pins s σ H Q I (hi σ H Q q)⟩
theorem _root_.L2.PW.imp {e : Expr} {t t' : TT} (h : PW X e t) (hi : ∀ σ H Q, t' σ H Q → t σ H Q) : PW X e t' := ⟨fun w pins s σ H Q I q => h.run w pins s σ H Q I (hi σ H Q q)⟩
theorem _root_.L2.PA.imp {es : List Expr} {t t' : TA} (h : PA X es t) (hi : ∀ σ H Q, t' σ H Q → t σ H Q) : PA X es t' := ⟨fun pos pins s σ H Q I q => h.run pos pins s σ H Q I (hi σ H Q q)⟩
theorem _root_.L2.PK.imp {ks : List Keyword} {t t' : TA} (h : PK X ks t) (hi : ∀ σ H Q, t' σ H Q → t σ H Q) : PK X ks t' := ⟨fun pos pins s σ H Q I q => h.run pos pins s σ H Q I (hi σ H Q q)⟩
theorem _root_.L2.PO.imp {e : Option Expr} {t t' : TO} (h : PO X e t) (hi : ∀ σ H Q, t' σ H Q → t σ H Q) : PO X e t' := by
 constructor
 intro pins s σ H Q I q
 exact h.run pins s σ H Q I (hi σ H Q q)
def var (i : Nat) : Env → Mo D := fun env => match env[i]? with
 | some (some d) => ret d
 | _ => stuck
def cst (d : D) : Env → Mo D := fun _ => ret d
theorem m_var {e : Expr} {i : Nat} (h : PE X e (tVar i)) : PE X e (tM c W (var i)) := h.imp fun σ H Q ⟨ρ, st, env, r, st', R, E, e, F⟩ => by
 unfold var at e
 cases hx : env[i]? with
 | none => rw [hx] at e; cases e
 | some o =>
  rw [hx] at e
  cases o with
  | none => cases e
  | some d =>
   obtain ⟨v, h1, h2⟩ := E.val i d hx
   cases e
   exact ⟨v, h1, F.ok .refl R v h2⟩
theorem m_cst {e : Expr} {v : V} {d : D} (h : PE X e (tC v)) (r : ∀ ρ H, RV c ρ H v d) : PE X e (tM c W (cst d)) := h.imp fun σ H Q ⟨ρ, st, env, _, st', R, E, e, F⟩ => by
 cases e
 exact F.ok .refl R v (r ρ H)
theorem m_int {i : Int} {j pos} : PE X (.Constant (.int i) j pos) (tM c W (cst (.int i))) := m_cst pe_int fun _ _ => .int i
theorem m_bl {b : Bool} {j pos} : PE X (.Constant (.bool b) j pos) (tM c W (cst (.bl b))) := m_cst pe_bl fun _ _ => .bl b
theorem m_non {j pos} : PE X (.Constant .none j pos) (tM c W (cst .non)) := m_cst pe_non fun _ _ => .non
theorem m_str {x : Str} {j pos} : PE X (.Constant (.str x) j pos) (tM c W (cst (.str x))) := m_cst pe_str fun _ _ => .str x
def OpC (c : MC) (f : D → D → Mo D) (r : R2) : Prop := ∀ {W : Wx} {σ : L2.St} {ρ : List Addr} {st st' : Sto} {H : Hp} {x y : V} {a b : D} {res : R D} {Q : VK}, Rel c ρ st H → RV c ρ H x a → RV c ρ H y b → f a b st = some (res, st') →
 (Fin c W σ ρ H res st' fun ρ' H' d => ∀ v, RV c ρ' H' v d → Q v H') → r x y H Q
def UnC (c : MC) (f : D → Mo D) (r : V → Hp → VK → Prop) : Prop := ∀ {W : Wx} {σ : L2.St} {ρ : List Addr} {st st' : Sto} {H : Hp} {x : V} {a : D} {res : R D} {Q : VK}, Rel c ρ st H → RV c ρ H x a → f a st = some (res, st') →
 (Fin c W σ ρ H res st' fun ρ' H' d => ∀ v, RV c ρ' H' v d → Q v H') → r x H Q
def CallC (c : MC) (f : List D → Mo D) (r : List V → Hp → VK → Prop) : Prop := ∀ {W : Wx} {σ : L2.St} {ρ : List Addr} {st st' : Sto} {H : Hp} {xs : List V} {as : List D} {res : R D} {Q : VK}, Rel c ρ st H → RVs c ρ H xs as → f as st = some (res, st') →
 (Fin c W σ ρ H res st' fun ρ' H' d => ∀ v, RV c ρ' H' v d → Q v H') → r xs H Q
def MtC (c : MC) (f : D → List D → Mo D) (r : V → List V → Hp → VK → Prop) : Prop := ∀ {W : Wx} {σ : L2.St} {ρ : List Addr} {st st' : Sto} {H : Hp} {x : V} {a : D} {xs : List V} {as : List D} {res : R D} {Q : VK}, Rel c ρ st H → RV c ρ H x a → RVs c ρ H xs as → f a as st = some (res, st') →
 (Fin c W σ ρ H res st' fun ρ' H' d => ∀ v, RV c ρ' H' v d → Q v H') → r x xs H Q
def op1 (f : D → Mo D) (m : Env → Mo D) : Env → Mo D := fun env => bnd (m env) f
def op2 (f : D → D → Mo D) (m1 m2 : Env → Mo D) : Env → Mo D := fun env => bnd (m1 env) fun a => bnd (m2 env) fun b => f a b
theorem r_op2 {f : D → D → Mo D} {r : R2} (hc : OpC c f r) {m1 m2 : Env → Mo D} {σ : L2.St} {H : Hp} {Q : VK} (h : tM c W (op2 f m1 m2) σ H Q) : tOp r (tM c W m1) (tM c W m2) σ H Q := by
 obtain ⟨ρ, st, env, res, st', R, E, e, F⟩ := h
 refine tX.bind R E e F fun ρ1 H1 st1 a x s1 R1 E1 r1 e1 F1 => ?_
 exact tX.bind R1 E1 e1 F1 fun ρ2 H2 st2 b y s2 R2 E2 r2 e2 F2 => hc R2 (r1.mono s2) r2 e2 F2
theorem m_op {op : Operator} {f : D → D → Mo D} {r : R2} {a b : Expr} {pos : Pos} {m1 m2 : Env → Mo D} (ho : OpR X (binaryOp op) r) (hc : OpC c f r) (ha : PE X a (tM c W m1)) (hb : PE X b (tM c W m2)) : PE X (.BinOp a op b pos) (tM c W (op2 f m1 m2)) :=
 (pe_op ho ha hb).imp fun _ _ _ => r_op2 hc
theorem m_cmp {op : CmpOp} {f : D → D → Mo D} {r : R2} {a b : Expr} {pos : Pos} {m1 m2 : Env → Mo D} (ho : OpR X (compareOp op) r) (hc : OpC c f r) (hm : behindInMarks op b = false) (ha : PE X a (tM c W m1)) (hb : PE X b (tM c W m2)) : PE X (.Compare a [op] [b] pos) (tM c W (op2 f m1 m2)) :=
 (pe_cmpR ho ha hb hm).imp fun _ _ _ => r_op2 hc
theorem m_ix {f : D → D → Mo D} {r : R2} {a b : Expr} {pos : Pos} {m1 m2 : Env → Mo D} (ho : IxR X r) (hc : OpC c f r) (ha : PE X a (tM c W m1)) (hb : PE X b (tM c W m2)) (hs : PlainIx b) : PE X (.Subscript a b pos) (tM c W (op2 f m1 m2)) :=
 (pe_ix ho ha hb hs).imp fun _ _ _ => r_op2 hc
theorem m_un {op : UnaryOp} {f : D → Mo D} {r : V → Hp → VK → Prop} {a : Expr} {pos : Pos} {m1 : Env → Mo D} (ho : UnR X (unaryOp op) r) (hc : UnC c f r) (ha : PE X a (tM c W m1)) : PE X (.UnaryOp op a pos) (tM c W (op1 f m1)) :=
 (pe_un ho ha).imp fun σ H Q ⟨ρ, st, env, res, st', R, E, e, F⟩ => tX.bind R E e F fun ρ1 H1 st1 a x s1 R1 E1 r1 e1 F1 => hc R1 r1 e1 F1
def toB : D → Mo Bool
 | .bl b => ret b
 | _ => stuck
def tru (m : Env → Mo D) : Env → Mo Bool := fun env => bnd (m env) toB
theorem toB_inv {d : D} {res : R Bool} {st st' : Sto} (h : toB d st = some (res, st')) : ∃ b, d = .bl b ∧ res = .ok b ∧ st' = st := by
 cases d <;> cases h
 exact ⟨_, rfl, rfl, rfl⟩
theorem r_tru {m : Env → Mo D} {σ : L2.St} {H : Hp} {Q : Bool → Hp → Prop} (h : tT c W (tru m) σ H Q) : tB (tM c W m) σ H Q := by
 obtain ⟨ρ, st, env, res, st', R, E, e, F⟩ := h
 refine tX.bind R E e F fun ρ1 H1 st1 a x s1 R1 E1 r1 e1 F1 => ?_
 obtain ⟨b, rfl, rfl, rfl⟩ := toB_inv e1
 cases r1
 exact ⟨b, rfl, F1.ok .refl R1 b rfl⟩
theorem t_val {e : Expr} {m : Env → Mo D} (h : PE X e (tM c W m)) (he : ∀ whole, isTrue e X.env whole = (do let v ← whole; standAt e.pos; holding [v] (truthy v)) := by intro _; rfl) : PT X e (tT c W (tru m)) := (pt_val h he).imp fun _ _ _ => r_tru
theorem t_cmp {op : CmpOp} {f : D → D → Mo D} {r : R2} {a b : Expr} {pos : Pos} {m1 m2 : Env → Mo D} (ho : OpR X (compareOp op) r) (hc : OpC c f r) (hm : behindInMarks op b = false) (ha : PE X a (tM c W m1)) (hb : PE X b (tM c W m2)) : PT X (.Compare a [op] [b] pos) (tT c W (tru (op2 f m1 m2))) := by
 refine (pt_cmpR ho ha hb hm).imp fun σ H Q h => ?_
 obtain ⟨ρ, st, env, res, st', R, E, e, F⟩ := r_tru h
 exact r_op2 hc ⟨ρ, st, env, res, st', R, E, e, F⟩
def chn (f g : D → D → Mo D) (m1 m2 m3 : Env → Mo D) : Env → Mo D := fun env => bnd (m1 env) fun a => bnd (m2 env) fun b => bnd (bnd (f a b) toB) fun k => if k then bnd (m3 env) fun d => g b d else ret (.bl false)
def andT (m1 m2 : Env → Mo Bool) : Env → Mo Bool := fun env => bnd (m1 env) fun k => if k then m2 env else ret false
def orT (m1 m2 : Env → Mo Bool) : Env → Mo Bool := fun env => bnd (m1 env) fun k => if k then ret true else m2 env
def notT (m : Env → Mo Bool) : Env → Mo Bool := fun env => bnd (m env) fun k => ret (!k)
def ifE (m : Env → Mo Bool) (m1 m2 : Env → Mo D) : Env → Mo D := fun env => bnd (m env) fun k => if k then m1 env else m2 env
theorem r_and {m1 m2 : Env → Mo Bool} {σ : L2.St} {H : Hp} {Q : Bool → Hp → Prop} (h : tT c W (andT m1 m2) σ H Q) : tAnd (tT c W m1) (tT c W m2) σ H Q := by
 obtain ⟨ρ, st, env, res, st', R, E, e, F⟩ := h
 refine tX.bind R E e F fun ρ1 H1 st1 a x s1 R1 E1 r1 e1 F1 => ?_
 subst r1
 cases x with
 | true => exact ⟨ρ1, st1, env, res, st', R1, E1, e1, F1⟩
 | false => cases e1; exact F1.ok .refl R1 _ rfl
theorem r_or {m1 m2 : Env → Mo Bool} {σ : L2.St} {H : Hp} {Q : Bool → Hp → Prop} (h : tT c W (orT m1 m2) σ H Q) : tOr (tT c W m1) (tT c W m2) σ H Q := by
 obtain ⟨ρ, st, env, res, st', R, E, e, F⟩ := h
 refine tX.bind R E e F fun ρ1 H1 st1 a x s1 R1 E1 r1 e1 F1 => ?_
 subst r1
 cases x with
 | false => exact ⟨ρ1, st1, env, res, st', R1, E1, e1, F1⟩
 | true => cases e1; exact F1.ok .refl R1 _ rfl
theorem w_one {op} {a : Expr} {pos : Pos} {m : Env → Mo Bool} (h : PT X a (tT c W m)) (hop : op = .And ∨ op = .Or := by first | exact .inl rfl | exact .inr rfl) : PW X (.BoolOp op [a] pos) (tT c W m) := by
 rcases hop with rfl | rfl
 ·exact pw_and1 h
 ·exact pw_or1 h
theorem w_and {a b : Expr} {rest : List Expr} {pos : Pos} {m1 m2 : Env → Mo Bool} (ha : PT X a (tT c W m1)) (hb : PW X (.BoolOp .And (b :: rest) pos) (tT c W m2)) : PW X (.BoolOp .And (a :: b :: rest) pos) (tT c W (andT m1 m2)) := (pw_and ha hb).imp fun _ _ _ => r_and
theorem w_or {a b : Expr} {rest : List Expr} {pos : Pos} {m1 m2 : Env → Mo Bool} (ha : PT X a (tT c W m1)) (hb : PW X (.BoolOp .Or (b :: rest) pos) (tT c W m2)) : PW X (.BoolOp .Or (a :: b :: rest) pos) (tT c W (orT m1 m2)) := (pw_or ha hb).imp fun _ _ _ => r_or
theorem t_not {a : Expr} {pos : Pos} {m : Env → Mo Bool} (ha : PT X a (tT c W m)) : PT X (.UnaryOp .Not a pos) (tT c W (notT m)) := (pt_not ha).imp fun σ H Q ⟨ρ, st, env, res, st', R, E, e, F⟩ => by
 refine tX.bind R E e F fun ρ1 H1 st1 a x s1 R1 E1 r1 e1 F1 => ?_
 subst r1
 cases e1
 exact F1.ok .refl R1 _ rfl
def andV (m1 m2 : Env → Mo D) : Env → Mo D := fun env => bnd (bnd (m1 env) toB) fun k => if k then m2 env else ret (.bl false)
def orV (m1 m2 : Env → Mo D) : Env → Mo D := fun env => bnd (bnd (m1 env) toB) fun k => if k then ret (.bl true) else m2 env
def notV (m : Env → Mo D) : Env → Mo D := fun env => bnd (bnd (m env) toB) fun k => ret (.bl (!k))
theorem bnd_assoc {m : Mo α} {f : α → Mo β} {g : β → Mo γ} : bnd (bnd m f) g = bnd m fun a => bnd (f a) g := by
 funext st
 unfold bnd
 cases m st with
 | none => rfl
 | some p => obtain ⟨r, s⟩ := p; cases r <;> rfl
theorem toB_bnd {d : D} {k : Bool → Mo α} {res : R α} {st st' : Sto} (h : bnd (toB d) k st = some (res, st')) : ∃ b, d = .bl b ∧ k b st = some (res, st') := by
 cases d with
 | bl b => exact ⟨b, rfl, h⟩
 | _ => unfold bnd at h; cases h
theorem m_and {a b : Expr} {rest : List Expr} {pos : Pos} {m1 m2 : Env → Mo D} (ha : PE X a (tM c W m1)) (hb : PE X (.BoolOp .And (b :: rest) pos) (tM c W m2)) : PE X (.BoolOp .And (a :: b :: rest) pos) (tM c W (andV m1 m2)) := (pe_and ha hb).imp fun σ H Q ⟨ρ, st, env, res, st', R, E, e, F⟩ => by
 unfold andV at e
 rw [bnd_assoc] at e
 refine tX.bind R E e F fun ρ1 H1 st1 a x s1 R1 E1 r1 e1 F1 => ?_
 obtain ⟨k, rfl, e2⟩ := toB_bnd e1
 cases r1
 refine ⟨k, rfl, ?_⟩
 cases k with
 | true => exact ⟨ρ1, st1, env, res, st', R1, E1, e2, F1⟩
 | false => cases e2; exact F1.ok .refl R1 _ (.bl false)
theorem m_not {a : Expr} {pos : Pos} {m : Env → Mo D} (ha : PE X a (tM c W m)) : PE X (.UnaryOp .Not a pos) (tM c W (notV m)) := (pe_not ha).imp fun σ H Q ⟨ρ, st, env, res, st', R, E, e, F⟩ => by
 unfold notV at e
 rw [bnd_assoc] at e
 refine tX.bind R E e F fun ρ1 H1 st1 a x s1 R1 E1 r1 e1 F1 => ?_
 obtain ⟨k, rfl, e2⟩ := toB_bnd e1
 cases r1
 cases e2
 exact ⟨k, rfl, F1.ok .refl R1 _ (.bl _)⟩
theorem m_if {t a b : Expr} {pos : Pos} {m : Env → Mo Bool} {m1 m2 : Env → Mo D} (ht : PT X t (tT c W m)) (ha : PE X a (tM c W m1)) (hb : PE X b (tM c W m2)) : PE X (.IfExp t a b pos) (tM c W (ifE m m1 m2)) := (pe_ifExp ht ha hb).imp fun σ H Q ⟨ρ, st, env, res, st', R, E, e, F⟩ => by
 refine tX.bind R E e F fun ρ1 H1 st1 a x s1 R1 E1 r1 e1 F1 => ?_
 subst r1
 cases x <;> exact ⟨ρ1, st1, env, res, st', R1, E1, e1, F1⟩
def aNil : Env → Mo (List D) := fun _ => ret []
def aCons (m : Env → Mo D) (ms : Env → Mo (List D)) : Env → Mo (List D) := fun env => bnd (m env) fun a => bnd (ms env) fun as => ret (a :: as)
theorem r_nil {σ : L2.St} {H : Hp} {Q : List V → Hp → Prop} (h : tA c W aNil σ H Q) : tNil σ H Q := by
 obtain ⟨ρ, st, env, res, st', R, E, e, F⟩ := h
 cases e
 exact F.ok .refl R _ .nil
theorem r_cons {m : Env → Mo D} {ms : Env → Mo (List D)} {σ : L2.St} {H : Hp} {Q : List V → Hp → Prop} (h : tA c W (aCons m ms) σ H Q) : tCons (tM c W m) (tA c W ms) σ H Q := by
 obtain ⟨ρ, st, env, res, st', R, E, e, F⟩ := h
 refine tX.bind R E e F fun ρ1 H1 st1 a x s1 R1 E1 r1 e1 F1 => ?_
 refine tX.bind R1 E1 e1 F1 fun ρ2 H2 st2 b y s2 R2 E2 r2 e2 F2 => ?_
 cases e2
 exact F2.ok .refl R2 _ (.cons (r1.mono s2) r2)
theorem a_nil : PA X [] (tA c W aNil) := pa_nil.imp fun _ _ _ => r_nil
theorem a_cons {e : Expr} {es : List Expr} {m : Env → Mo D} {ms : Env → Mo (List D)} (ha : PE X e (tM c W m)) (hr : PA X es (tA c W ms)) (hs : starEach (e :: es) X.env = (false, eval e X.env) :: starEach es X.env := by rfl) : PA X (e :: es) (tA c W (aCons m ms)) := (pa_cons ha hr hs).imp fun _ _ _ => r_cons
theorem k_nil : PK X [] (tA c W aNil) := pk_nil.imp fun _ _ _ => r_nil
theorem k_cons {e : Expr} {nm : Option Str} {kpos : Pos} {kws : List Keyword} {m : Env → Mo D} {ms : Env → Mo (List D)} (ha : PE X e (tM c W m)) (hr : PK X kws (tA c W ms)) : PK X (⟨nm, e, kpos⟩ :: kws) (tA c W (aCons m ms)) := (pk_cons ha hr).imp fun _ _ _ => r_cons
def opN (f : List D → Mo D) (ms : Env → Mo (List D)) : Env → Mo D := fun env => bnd (ms env) f
theorem r_opN {f : List D → Mo D} {r : List V → Hp → VK → Prop} (hc : CallC c f r) {ms : Env → Mo (List D)} {σ : L2.St} {H : Hp} {Q : VK} (h : tM c W (opN f ms) σ H Q) : tCB r (tA c W ms) σ H Q := by
 obtain ⟨ρ, st, env, res, st', R, E, e, F⟩ := h
 exact tX.bind R E e F fun ρ1 H1 st1 a x s1 R1 E1 r1 e1 F1 => hc R1 r1 e1 F1
theorem m_callB {x : Str} {id : String} {e : Expr} {es : List Expr} {p pos : Pos} {f : List D → Mo D} {r : List V → Hp → VK → Prop} {ms : Env → Mo (List D)} (hr : CallR X (.builtin id) r) (hc : CallC c f r) (hg : Gl X x) (hm : X.mg x = none) (hv : bootBuiltins x = some (.builtin id)) (ha : PA X (e :: es) (tA c W ms)) (hn : x ≠ "__name__" := by decide) (hdb : (x == ("__debug__" : Str)) = false := by decide)
  (he : starEach (e :: es) X.env = (false, eval e X.env) :: starEach es X.env := by rfl) (hpl : (backTo pos (starEach es X.env)).any (·.1) = false := by rfl) : PE X (.Call (.Name x p) (e :: es) [] pos) (tM c W (opN f ms)) := (pe_callB hr hg hm hv ha hn hdb he hpl).imp fun _ _ _ => r_opN hc
theorem m_callTy {x : Str} {T : String} {e : Expr} {es : List Expr} {p pos : Pos} {f : List D → Mo D} {r : List V → Hp → VK → Prop} {ms : Env → Mo (List D)} (hr : CallR X (.type T) r) (hc : CallC c f r) (hg : Gl X x) (hm : X.mg x = none) (hv : bootBuiltins x = some (.type T)) (ha : PA X (e :: es) (tA c W ms)) (hn : x ≠ "__name__" := by decide) (hdb : (x == ("__debug__" : Str)) = false := by decide)
  (he : starEach (e :: es) X.env = (false, eval e X.env) :: starEach es X.env := by rfl) (hpl : (backTo pos (starEach es X.env)).any (·.1) = false := by rfl) : PE X (.Call (.Name x p) (e :: es) [] pos) (tM c W (opN f ms)) := (pe_callTy hr hg hm hv ha hn hdb he hpl).imp fun _ _ _ => r_opN hc
theorem m_lst {es : List Expr} {pos : Pos} {f : List D → Mo D} {ms : Env → Mo (List D)} (hc : CallC c f rLst) (h : PA X es (tA c W ms)) : PE X (.List es pos) (tM c W (opN f ms)) := (pe_lst1 h).imp fun _ _ _ => r_opN hc
theorem m_tup {es : List Expr} {pos : Pos} {x1} {f : List D → Mo D} {ms : Env → Mo (List D)} (hc : CallC c f rTup) (h : PA X es (tA c W ms)) : PE X (.Tuple es x1 pos) (tM c W (opN f ms)) := (pe_tup1 h).imp fun _ _ _ => r_opN hc
def isTy (T : String) (d : D) (st : Sto) : Bool := match d with
 | .str _ => T == "str"
 | .scr _ => T == "list"
 | .ref n => match st[n]? with
  | some (.lst _) => T == "list"
  | some (.dK _) => T == "dict"
  | some (.dT _) => T == "dict"
  | some (.lk (.lst _)) => T == "list"
  | _ => false
 | _ => false
def chk (p : Sto → Bool) {α : Type} (m : Mo α) : Mo α := fun st => if p st then m st else none
def mth (T : String) (f : D → List D → Mo D) (m : Env → Mo D) (ms : Env → Mo (List D)) : Env → Mo D := fun env => bnd (m env) fun a => chk (isTy T a) (bnd (ms env) fun as => f a as)
theorem tyV_of {T : String} {d : D} {x : V} (R : Rel c ρ st H) (r : RV c ρ H x d) (h : isTy T d st = true) : tyV c.K T x H := by
 cases r with
 | str s => exact eq_of_beq h
 | scr hs => exact .inl ⟨eq_of_beq h, _, hs.sq⟩
 | @ref a n hn =>
  unfold isTy at h
  obtain ⟨o, ho⟩ := Rel.at (R := R) hn
  obtain ⟨b, ob, h1, h2, h3⟩ := R.ob n o ho
  rw [hn] at h1; cases h1
  dsimp only at h
  rw [ho] at h
  cases h3 with
  | un h3 => cases h3 with
   | lst hv => exact .inl ⟨eq_of_beq h, _, .of h2⟩
   | dK hv => exact .inr (.inr (.inl ⟨eq_of_beq h, .inl ⟨_, h2⟩⟩))
   | dT hv => exact .inr (.inr (.inl ⟨eq_of_beq h, .inr ⟨_, h2⟩⟩))
   | ins hv => cases h
  | lk h3 => cases h3 with
   | lst hv => exact .inl ⟨eq_of_beq h, _, .inl (.inr ⟨_, h2⟩)⟩
   | _ => cases h
 | _ => cases h
theorem r_mth {T : String} {f : D → List D → Mo D} {r : V → List V → Hp → VK → Prop} (hc : MtC c f r) {m : Env → Mo D} {ms : Env → Mo (List D)} {σ : L2.St} {H : Hp} {Q : VK} (h : tM c W (mth T f m ms) σ H Q) : tBM c.K T r (tM c W m) (tA c W ms) σ H Q := by
 obtain ⟨ρ, st, env, res, st', R, E, e, F⟩ := h
 refine tX.bind R E e F fun ρ1 H1 st1 a x s1 R1 E1 r1 e1 F1 => ?_
 unfold chk at e1
 split at e1
 ·rename_i hp
  exact ⟨tyV_of R1 r1 hp, tX.bind R1 E1 e1 F1 fun ρ2 H2 st2 b y s2 R2 E2 r2 e2 F2 => hc R2 (r1.mono s2) r2 e2 F2⟩
 ·cases e1
theorem r_mth0 {T : String} {f : D → List D → Mo D} {r : V → List V → Hp → VK → Prop} (hc : MtC c f r) {m : Env → Mo D} {σ : L2.St} {H : Hp} {Q : VK} (h : tM c W (mth T f m aNil) σ H Q) : tBM0 c.K T r (tM c W m) σ H Q := by
 obtain ⟨ρ, st, env, res, st', R, E, e, F⟩ := h
 refine tX.bind R E e F fun ρ1 H1 st1 a x s1 R1 E1 r1 e1 F1 => ?_
 unfold chk at e1
 split at e1
 ·rename_i hp
  exact ⟨tyV_of R1 r1 hp, hc R1 r1 .nil e1 F1⟩
 ·cases e1
theorem m_mth {T id : String} {name : Str} {f : D → List D → Mo D} {r : V → List V → Hp → VK → Prop} {m : Env → Mo D} {ms : Env → Mo (List D)} {o e : Expr} {es : List Expr} {apos cpos : Pos} (pa : PlainAttrs T) (slot : Slot T name id) (hty : typeOf (.builtin id) = pure (.type "method_descriptor")) (hm : MtR X id r) (hc : MtC c f r) (ho : PE X o (tM c W m)) (ha : PA X (e :: es) (tA c W ms))
  (hbase : attributeBase o name X.env (eval o X.env) = eval o X.env := by rfl)
  (hfew : ((backTo cpos (starEach (e :: es) X.env)).all (fun x => !x.1) && (backToKw cpos (keywordEach [] X.env)).all (fun x => x.1.isSome)
   && decide ((e :: es).length + ([] : List Keyword).length + (if ([] : List Keyword).isEmpty then 0 else 1) < 30)) = true := by rfl)
  (hline : (apos.endLine == cpos.line) = true := by rfl) (hs : starEach (e :: es) X.env = (false, eval e X.env) :: starEach es X.env := by rfl) (hplain : (backTo cpos (starEach es X.env)).any (·.1) = false := by rfl) (hK : X.K = c.K := by rfl) :
  PE X (.Call (.Attribute o name apos) (e :: es) [] cpos) (tM c W (mth T f m ms)) := (pe_bm pa slot hty hm ho ha hbase hfew hline hs hplain).imp fun _ _ _ h => by rw [hK]; exact r_mth hc h
theorem m_mth0 {T id : String} {name : Str} {f : D → List D → Mo D} {r : V → List V → Hp → VK → Prop} {m : Env → Mo D} {o : Expr} {apos cpos : Pos} (pa : PlainAttrs T) (slot : Slot T name id) (hty : typeOf (.builtin id) = pure (.type "method_descriptor")) (hm : MtR X id r) (hc : MtC c f r) (ho : PE X o (tM c W m))
  (hbase : attributeBase o name X.env (eval o X.env) = eval o X.env := by rfl) (hline : (apos.endLine == cpos.line) = true := by rfl) (hK : X.K = c.K := by rfl) : PE X (.Call (.Attribute o name apos) [] [] cpos) (tM c W (mth T f m aNil)) := (pe_bm0 pa slot hty hm ho hbase hline).imp fun _ _ _ h => by rw [hK]; exact r_mth0 hc h
def pNo : Env → Mo (Option Int) := fun _ => ret none
def toI : D → Mo Int
 | .int i => ret i
 | _ => stuck
def pAt (m : Env → Mo D) : Env → Mo (Option Int) := fun env => bnd (m env) fun d => bnd (toI d) fun i => ret (some i)
theorem toI_bnd {d : D} {k : Int → Mo α} {res : R α} {st st' : Sto} (h : bnd (toI d) k st = some (res, st')) : ∃ i, d = .int i ∧ k i st = some (res, st') := by
 cases d with
 | int i => exact ⟨i, rfl, h⟩
 | _ => unfold bnd at h; cases h
theorem o_no : PO X none (tO c W pNo) := po_none.imp fun σ H Q ⟨ρ, st, env, res, st', R, E, e, F⟩ => by
 cases e
 exact F.ok .refl R _ rfl
theorem o_at {e : Expr} {m : Env → Mo D} (h : PE X e (tM c W m)) : PO X (some e) (tO c W (pAt m)) := (po_some h).imp fun σ H Q ⟨ρ, st, env, res, st', R, E, e, F⟩ => by
 refine tX.bind R E e F fun ρ1 H1 st1 a x s1 R1 E1 r1 e1 F1 => ?_
 obtain ⟨i, rfl, e2⟩ := toI_bnd e1
 cases r1
 cases e2
 exact ⟨i, rfl, F1.ok .refl R1 _ rfl⟩
def SlC (c : MC) (f : D → Option Int → Option Int → Mo D) (r : V → Option Int → Option Int → Hp → VK → Prop) : Prop := ∀ {W : Wx} {σ : L2.St} {ρ : List Addr} {st st' : Sto} {H : Hp} {x : V} {a : D} {l h : Option Int} {res : R D} {Q : VK}, Rel c ρ st H → RV c ρ H x a → f a l h st = some (res, st') →
 (Fin c W σ ρ H res st' fun ρ' H' d => ∀ v, RV c ρ' H' v d → Q v H') → r x l h H Q
def slc (f : D → Option Int → Option Int → Mo D) (m : Env → Mo D) (l h : Env → Mo (Option Int)) : Env → Mo D := fun env => bnd (m env) fun a => bnd (l env) fun lo => bnd (h env) fun hi => f a lo hi
theorem m_slc {e : Expr} {lo hi : Option Expr} {p2 pos : Pos} {f : D → Option Int → Option Int → Mo D} {r : V → Option Int → Option Int → Hp → VK → Prop} {m : Env → Mo D} {l h : Env → Mo (Option Int)} (hr : SlR X r) (hc : SlC c f r) (he : PE X e (tM c W m)) (hl : PO X lo (tO c W l)) (hu : PO X hi (tO c W h)) :
  PE X (.Subscript e (.Slice lo hi none p2) pos) (tM c W (slc f m l h)) := (pe_slice hr he hl hu).imp fun σ H Q ⟨ρ, st, env, res, st', R, E, e, F⟩ => by
 refine tX.bind R E e F fun ρ1 H1 st1 a x s1 R1 E1 r1 e1 F1 => ?_
 refine tX.bind R1 E1 e1 F1 fun ρ2 H2 st2 b y s2 R2 E2 r2 e2 F2 => ?_
 subst r2
 refine tX.bind R2 E2 e2 F2 fun ρ3 H3 st3 d z s3 R3 E3 r3 e3 F3 => ?_
 subst r3
 exact hc R3 ((r1.mono s2).mono s3.to0) e3 F3
end
end M
namespace M
open PySem PySem.Spec PyProof.Rows L2 G
variable {c : MC}
inductive Out where
 | nx | rt (d : D) | bk | ct | er (e : Ex)
abbrev MS := Env → Sto → Option (Out × Env × Sto)
def FinS (c : MC) (W : Wx) (Dn : Ends) (ρ : List Addr) (H : Hp) (o : Out) (env' : Env) (st' : Sto) : Prop :=
 ∀ ρ' H' σ', Step ρ H ρ' H' → Rel c ρ' st' H' → REnv c ρ' H' σ' env' → match o with
  | .nx => Dn.nx σ' H'
  | .rt d => ∀ v, RV c ρ' H' v d → Dn.rt v H'
  | .bk => Dn.bk σ' H'
  | .ct => Dn.ct σ' H'
  | .er e => ∀ cls d, RX c ρ' H' cls d e → W cls d σ' H'
def tS (c : MC) (W : Wx) (m : MS) : TS := fun Dn σ H => ∃ ρ st env o env' st', Rel c ρ st H ∧ REnv c ρ H σ env ∧ m env st = some (o, env', st') ∧ FinS c W Dn ρ H o env' st'
def bndS {α : Type} (m : Env → Mo α) (k : α → MS) : MS := fun env st => match m env st with
 | none => none
 | some (.error e, s) => some (.er e, env, s)
 | some (.ok a, s) => k a env s
theorem bndS_ok {α : Type} {m : Env → Mo α} {k : α → MS} {env : Env} {st s : Sto} {a : α} (h : m env st = some (.ok a, s)) : bndS m k env st = k a env s := by unfold bndS; rw [h]
theorem bndS_er {α : Type} {m : Env → Mo α} {k : α → MS} {env : Env} {st s : Sto} {e : Ex} (h : m env st = some (.error e, s)) : bndS m k env st = some (.er e, env, s) := by unfold bndS; rw [h]
def passS : MS := fun env st => some (.nx, env, st)
def retS (m : Env → Mo D) : MS := bndS m fun d env st => some (.rt d, env, st)
def retN : MS := fun env st => some (.rt .non, env, st)
def ctnS : MS := fun env st => some (.ct, env, st)
def exprS (m : Env → Mo D) : MS := bndS m fun _ => passS
def seqS (m1 m2 : MS) : MS := fun env st => match m1 env st with
 | some (.nx, env1, st1) => m2 env1 st1
 | r => r
def ifS (t : Env → Mo Bool) (a b : MS) : MS := bndS t fun k => if k then a else b
def setS (i : Nat) (m : Env → Mo D) : MS := bndS m fun d env st => some (.nx, env.set i (some d), st)
section
variable {W : Wx} {σ : L2.St} {ρ ρ1 ρ' : List Addr} {H H1 H' : Hp} {st st1 st' : Sto} {env env' : Env} {α β γ : Type} {X : Cx} {Dn : Ends} {o : Out}
theorem _root_.L2.PS.imp {s : Stmt} {t t' : TS} (h : PS X s t) (hi : ∀ D σ H, t' D σ H → t D σ H) : PS X s t' := ⟨fun pins s σ H D I q => h.run pins s σ H D I (hi D σ H q)⟩
theorem _root_.L2.PSs.imp {s : List Stmt} {t t' : TS} (h : PSs X s t) (hi : ∀ D σ H, t' D σ H → t D σ H) : PSs X s t' := ⟨fun pins s σ H D I q => h.run pins s σ H D I (hi D σ H q)⟩
theorem FinS.step (F : FinS c W Dn ρ H o env' st') (s : Step ρ H ρ1 H1) : FinS c W Dn ρ1 H1 o env' st' := fun ρ' H' σ' t R E => F ρ' H' σ' (s.trans t) R E
theorem FinS.nx (F : FinS c W Dn ρ H .nx env' st') (s : Step ρ H ρ1 H1) (R : Rel c ρ1 st' H1) (E : REnv c ρ1 H1 σ env') : Dn.nx σ H1 := F ρ1 H1 σ s R E
theorem tX.bindS {P : List Addr → Hp → β → α → Prop} {m : Env → Mo α} {k : α → MS} {G : β → Hp → Prop} (Rl : Rel c ρ st H) (En : REnv c ρ H σ env) (h : bndS m k env st = some (o, env', st')) (F : FinS c W Dn ρ H o env' st')
  (hk : ∀ ρ1 H1 st1 a b, Step ρ H ρ1 H1 → Rel c ρ1 st1 H1 → REnv c ρ1 H1 σ env → P ρ1 H1 b a → k a env st1 = some (o, env', st') → FinS c W Dn ρ1 H1 o env' st' → G b H1) : tX c W P m σ H G := by
 cases hm : m env st with
 | none => unfold bndS at h; rw [hm] at h; cases h
 | some p =>
  obtain ⟨r1, s1⟩ := p
  cases r1 with
  | error e =>
   rw [bndS_er hm] at h
   cases h
   exact ⟨ρ, st, env, .error e, _, Rl, En, hm, fun ρ' H' t R => F ρ' H' σ t R (En.mono t)⟩
  | ok a =>
   rw [bndS_ok hm] at h
   exact ⟨ρ, st, env, .ok a, s1, Rl, En, hm, fun ρ' H' t R b hb => hk ρ' H' s1 a b t R (En.mono t) hb h (F.step t)⟩
theorem REnv.set (E : REnv c ρ H σ env) {v : V} {d : D} (i : Nat) (r : RV c ρ H v d) : REnv c ρ H (σ.set i (some v)) (env.set i (some d)) := by
 refine ⟨by rw [List.length_set, List.length_set]; exact E.len, fun j e h => ?_⟩
 by_cases hij : i = j
 ·subst hij
  by_cases hi : i < env.length
  ·rw [List.getElem?_set_self hi] at h
   cases h
   exact ⟨v, List.getElem?_set_self (by rw [E.len]; exact hi), r⟩
  ·rw [List.getElem?_eq_none (by rw [List.length_set]; omega)] at h; cases h
 ·rw [List.getElem?_set_ne hij] at h
  rw [List.getElem?_set_ne hij]
  exact E.val j e h
theorem s_pass {pos : Pos} : PS X (.Pass pos) (tS c W passS) := ps_pass.imp fun D σ H ⟨ρ, st, env, o, env', st', R, E, e, F⟩ => by
 cases e; exact F.nx .refl R E
theorem s_ctn {pos : Pos} : PS X (.Continue pos) (tS c W ctnS) := ps_continue.imp fun D σ H ⟨ρ, st, env, o, env', st', R, E, e, F⟩ => by
 cases e; exact F ρ H σ .refl R E
theorem s_retN {pos : Pos} : PS X (.Return none pos) (tS c W retN) := ps_retN.imp fun D σ H ⟨ρ, st, env, o, env', st', R, E, e, F⟩ => by
 cases e; exact F ρ H σ .refl R E _ .non
theorem s_ret {e : Expr} {pos : Pos} {m : Env → Mo D} (h : PE X e (tM c W m)) : PS X (.Return (some e) pos) (tS c W (retS m)) := (ps_ret h).imp fun D σ H ⟨ρ, st, env, o, env', st', R, E, e, F⟩ =>
 tX.bindS R E e F fun ρ1 H1 st1 a x s1 R1 E1 r1 e1 F1 => by cases e1; exact F1 ρ1 H1 σ .refl R1 E1 _ r1
theorem s_expr {e : Expr} {pos : Pos} {m : Env → Mo D} (h : PE X e (tM c W m)) (hs : swapsWith e none pos.line X.env = pure false := by rfl) : PS X (.Expr e pos) (tS c W (exprS m)) := (ps_expr h hs).imp fun D σ H ⟨ρ, st, env, o, env', st', R, E, e, F⟩ =>
 tX.bindS R E e F fun ρ1 H1 st1 a x s1 R1 E1 r1 e1 F1 => by cases e1; exact F1.nx .refl R1 E1
theorem s_if {t : Expr} {a b : List Stmt} {pos : Pos} {m : Env → Mo Bool} {m1 m2 : MS} (ht : PT X t (tT c W m)) (ha : PSs X a (tS c W m1)) (hb : PSs X b (tS c W m2)) : PS X (.If t a b pos) (tS c W (ifS m m1 m2)) := (ps_if ht ha hb).imp fun D σ H ⟨ρ, st, env, o, env', st', R, E, e, F⟩ =>
 tX.bindS R E e F fun ρ1 H1 st1 a x s1 R1 E1 r1 e1 F1 => by
  subst r1
  cases x <;> exact ⟨ρ1, st1, env, o, env', st', R1, E1, e1, F1⟩
theorem ss_nil : PSs X [] (tS c W passS) := pss_nil.imp fun D σ H ⟨ρ, st, env, o, env', st', R, E, e, F⟩ => by
 cases e; exact F.nx .refl R E
theorem ss_one {s : Stmt} {m : MS} (h : PS X s (tS c W m)) : PSs X [s] (tS c W m) := pss_one h
theorem r_seq {m1 m2 : MS} {D : Ends} (h : tS c W (seqS m1 m2) D σ H) : tSeq (tS c W m1) (tS c W m2) D σ H := by
 obtain ⟨ρ, st, env, o, env', st', R, E, e, F⟩ := h
 unfold seqS at e
 cases hm : m1 env st with
 | none => rw [hm] at e; cases e
 | some p =>
  obtain ⟨o1, env1, st1⟩ := p
  rw [hm] at e
  refine ⟨ρ, st, env, o1, env1, st1, R, E, hm, fun ρ' H' σ' t R' E' => ?_⟩
  cases o1 with
  | nx => exact ⟨ρ', st1, env1, o, env', st', R', E', e, F.step t⟩
  | rt d => cases e; exact F ρ' H' σ' t R' E'
  | bk => cases e; exact F ρ' H' σ' t R' E'
  | ct => cases e; exact F ρ' H' σ' t R' E'
  | er x => cases e; exact F ρ' H' σ' t R' E'
theorem ss_cons {s : Stmt} {rest : List Stmt} {m1 m2 : MS} (h : PS X s (tS c W m1)) (hr : PSs X rest (tS c W m2)) : PSs X (s :: rest) (tS c W (seqS m1 m2)) := (pss_cons h hr).imp fun _ _ _ => r_seq
abbrev MG := D → Env → Sto → Option (Env × Sto)
def tG (c : MC) (vs : List Nat) (g : MG) : TG := fun v σ H Q => ∃ ρ st env d env' st', Rel c ρ st H ∧ REnv c ρ H σ env ∧ RV c ρ H v d ∧ g d env st = some (env', st') ∧
 ∀ ρ' H' σ', Step ρ H ρ' H' → Rel c ρ' st' H' → REnv c ρ' H' σ' env' → σ'.length = σ.length → (∀ j, j ∉ vs → σ'[j]? = σ[j]?) → Q σ' H'
def tGs (c : MC) (vs : List Nat) (g : List D → Env → Sto → Option (Env × Sto)) : TGs := fun us σ H Q => ∃ ρ st env ds env' st', Rel c ρ st H ∧ REnv c ρ H σ env ∧ RVs c ρ H us ds ∧ g ds env st = some (env', st') ∧
 ∀ ρ' H' σ', Step ρ H ρ' H' → Rel c ρ' st' H' → REnv c ρ' H' σ' env' → σ'.length = σ.length → (∀ j, j ∉ vs → σ'[j]? = σ[j]?) → Q σ' H'
theorem _root_.L2.PG.imp {e : Expr} {t t' : TG} (h : PG X e t) (hi : ∀ v σ H Q, t' v σ H Q → t v σ H Q) : PG X e t' := ⟨fun pins s σ H v u Q I r q => h.run pins s σ H v u Q I r (hi v σ H Q q)⟩
theorem _root_.L2.PGs.imp {e : List Expr} {t t' : TGs} (h : PGs X e t) (hi : ∀ v σ H Q, t' v σ H Q → t v σ H Q) : PGs X e t' := ⟨fun pins s σ H v u Q I r q => h.run pins s σ H v u Q I r (hi v σ H Q q)⟩
def gVar (i : Nat) : MG := fun d env st => some (env.set i (some d), st)
theorem r_gVar {v : V} {i : Nat} {Q : L2.St → Hp → Prop} (h : tG c [i] (gVar i) v σ H Q) : gName i v σ H Q := by
 obtain ⟨ρ, st, env, d, env', st', R, E, r, e, F⟩ := h
 cases e
 exact F ρ H _ .refl R (E.set i r) List.length_set fun j hj => List.getElem?_set_ne fun z => hj (by rw [z]; exact List.mem_singleton_self _)
theorem g_var {i : Nat} {x : Str} {pos : Pos} (hN : X.N.Nodup) (hi : X.N[i]? = some x) (hx : Loc X.env.scope x) (hf : X.fn x = true ∨ X.env.scope.names.lookup x = some .local := by first | exact .inl rfl | exact .inr rfl | assumption) : PG X (.Name x pos) (tG c [i] (gVar i)) := (pg_name hN hi hx hf).imp fun _ _ _ _ => r_gVar
def gsNil : List D → Env → Sto → Option (Env × Sto) := fun ds env st => match ds with
 | [] => some (env, st)
 | _ => none
def gsCons (g : MG) (gs : List D → Env → Sto → Option (Env × Sto)) : List D → Env → Sto → Option (Env × Sto) := fun ds env st => match ds with
 | [] => none
 | d :: r => match g d env st with
  | none => none
  | some (env1, st1) => gs r env1 st1
theorem gs_nil : PGs X [] (tGs c [] gsNil) := pgs_nil.imp fun us σ H Q ⟨ρ, st, env, ds, env', st', R, E, r, e, F⟩ => by
 cases r with
 | nil => cases e; exact ⟨rfl, F ρ H σ .refl R E rfl fun _ _ => rfl⟩
 | cons a t => cases e
theorem gs_cons {e : Expr} {es : List Expr} {g : MG} {gs : List D → Env → Sto → Option (Env × Sto)} {vs ws : List Nat} (h1 : PG X e (tG c vs g)) (h2 : PGs X es (tGs c ws gs))
  (hs : (assignEach (e :: es) X.env).map (·.2) = assign e X.env :: (assignEach es X.env).map (·.2) := by rfl) : PGs X (e :: es) (tGs c (vs ++ ws) (gsCons g gs)) := (pgs_cons h1 h2 hs).imp fun us σ H Q ⟨ρ, st, env, ds, env', st', R, E, r, e, F⟩ => by
 cases r with
 | nil => cases e
 | @cons v d us ds hv ht =>
  unfold gsCons at e
  try dsimp only at e
  cases hg : g d env st with
  | none => rw [hg] at e; cases e
  | some p =>
   obtain ⟨env1, st1⟩ := p
   rw [hg] at e
   refine ⟨v, us, rfl, ρ, st, env, d, env1, st1, R, E, hv, hg, fun ρ1 H1 σ1 t1 R1 E1 l1 a1 => ?_⟩
   refine ⟨ρ1, st1, env1, ds, env', st', R1, E1, ht.mono t1, e, fun ρ2 H2 σ2 t2 R2 E2 l2 a2 => ?_⟩
   exact F ρ2 H2 σ2 (t1.trans t2) R2 E2 (l2.trans l1) fun j hj => (a2 j fun m => hj (List.mem_append_right _ m)).trans (a1 j fun m => hj (List.mem_append_left _ m))
def gTupM (n : Nat) (gs : List D → Env → Sto → Option (Env × Sto)) : MG := fun d env st => match d with
 | .tup ds => if ds.length = n then gs ds env st else none
 | _ => none
theorem g_tup {es : List Expr} {k n : Nat} {gs : List D → Env → Sto → Option (Env × Sto)} {vs : List Nat} {pos : Pos} (hc : X.calm = true) (h : PGs X es (tGs c vs gs)) (hn : (assignEach es X.env).length = n := by rfl) (hst : (assignEach es X.env).findIdx? (·.1) = none := by rfl) (hK : X.K = c.K := by rfl) : PG X (.Tuple es k pos) (tG c vs (gTupM n gs)) :=
 (pg_tup hc h hn hst).imp fun v σ H Q ⟨ρ, st, env, d, env', st', R, E, r, e, F⟩ => by
  unfold gTupM at e
  cases r with
  | @tup a us ds ha hs =>
   try dsimp only at e
   split at e
   ·rename_i hl
    exact ⟨a, us, rfl, by rw [hK]; exact SqT.of ha.1, by rw [hs.length]; exact hl, ρ, st, env, ds, env', st', R, E, hs, e, F⟩
   ·cases e
  | _ => cases e
def asgS (m : Env → Mo D) (g : MG) : MS := bndS m fun d env st => match g d env st with
 | none => none
 | some (env1, st1) => some (.nx, env1, st1)
theorem s_asg {tg e : Expr} {pos : Pos} {m : Env → Mo D} {g : MG} {vs : List Nat} (he : PE X e (tM c W m)) (hg : PG X tg (tG c vs g)) (hs : swapsWithSole [tg] e pos.line X.env = pure false := by rfl) (hw : swappedStores [tg] e X.env = pure none := by rfl)
  (h1 : (assignEach [tg] X.env).map (·.2) = [assign tg X.env] := by rfl) : PS X (.Assign [tg] e pos) (tS c W (asgS m g)) := (ps_asg he hg hs hw h1).imp fun D σ H ⟨ρ, st, env, o, env', st', R, E, e, F⟩ =>
 tX.bindS R E e F fun ρ1 H1 st1 a x s1 R1 E1 r1 e1 F1 => by
  cases hg : g a env st1 with
  | none => rw [hg] at e1; cases e1
  | some p =>
   obtain ⟨env2, st2⟩ := p
   try dsimp only at e1
   rw [hg] at e1
   cases e1
   exact ⟨ρ1, st1, env, a, _, _, R1, E1, r1, hg, fun ρ2 H2 σ2 t2 R2 E2 _ _ => F1.nx t2 R2 E2⟩
theorem s_set {i : Nat} {x : Str} {e : Expr} {pos pos' : Pos} {m : Env → Mo D} (hN : X.N.Nodup) (hi : X.N[i]? = some x) (hx : Loc X.env.scope x) (he : PE X e (tM c W m)) (hs : swapsWith e (some (.Name x pos')) pos.line X.env = pure false := by rfl) (hf : X.fn x = true ∨ X.env.scope.names.lookup x = some .local := by first | exact .inl rfl | exact .inr rfl | assumption) :
  PS X (.Assign [.Name x pos'] e pos) (tS c W (setS i m)) := (ps_set hN hi hx he hs hf).imp fun D σ H ⟨ρ, st, env, o, env', st', R, E, e, F⟩ =>
 tX.bindS R E e F fun ρ1 H1 st1 a v s1 R1 E1 r1 e1 F1 => by
  cases e1
  exact F1.nx .refl R1 (E1.set i r1)
def FUEL : Nat := 1073741824
def whileM (t : Env → Mo Bool) (b : MS) : Nat → MS
 | 0 => fun _ _ => none
 | n + 1 => bndS t fun k => if k then fun env st => match b env st with
   | some (.nx, env1, st1) => whileM t b n env1 st1
   | some (.ct, env1, st1) => whileM t b n env1 st1
   | some (.bk, env1, st1) => some (.nx, env1, st1)
   | r => r
  else passS
theorem r_while {t : Env → Mo Bool} {b : MS} {n : Nat} {D : Ends} (h : tS c W (whileM t b n) D σ H) : tWhile (tT c W t) (tS c W b) D σ H := by
 refine ⟨fun m σ H => tS c W (whileM t b m) D σ H, ⟨n, h⟩, fun m σ H ⟨ρ, st, env, o, env', st', R, E, e, F⟩ => ?_⟩
 cases m with
 | zero => cases e
 | succ m =>
  refine tX.bindS R E e F fun ρ1 H1 st1 a x s1 R1 E1 r1 e1 F1 => ?_
  subst r1
  cases x with
  | false => cases e1; exact F1.nx .refl R1 E1
  | true =>
   refine ⟨fun σ H => tS c W (whileM t b m) D σ H, fun σ' H' h => ⟨m, Nat.lt_succ_self m, h⟩, ?_⟩
   rw [if_pos rfl] at e1
   cases hb : b env st1 with
   | none => rw [hb] at e1; cases e1
   | some p =>
    obtain ⟨o2, env2, st2⟩ := p
    rw [hb] at e1
    refine ⟨ρ1, st1, env, o2, env2, st2, R1, E1, hb, fun ρ2 H2 σ2 t2 R2 E2 => ?_⟩
    cases o2 with
    | nx => exact ⟨ρ2, st2, env2, o, env', st', R2, E2, e1, F1.step t2⟩
    | ct => exact ⟨ρ2, st2, env2, o, env', st', R2, E2, e1, F1.step t2⟩
    | bk => cases e1; exact F1 ρ2 H2 σ2 t2 R2 E2
    | rt d => cases e1; exact F1 ρ2 H2 σ2 t2 R2 E2
    | er x => cases e1; exact F1 ρ2 H2 σ2 t2 R2 E2
def whileS (t : Env → Mo Bool) (b : MS) : MS := whileM t b FUEL
theorem s_while {t : Expr} {body : List Stmt} {pos : Pos} {m : Env → Mo Bool} {b : MS} (hp : PassesOwn (model X.prog X.w) X.A X.env X.xe) (ht : PT X t (tT c W m)) (hb : PSs X body (tS c W b)) : PS X (.While t body [] pos) (tS c W (whileS m b)) := (ps_while hp ht hb).imp fun _ _ _ => r_while
abbrev Gt := Nat → Sto → Option (Option D)
def ItC (c : MC) (ρ0 : List Addr) (H0 : Hp) (J : It) (g : Gt) : Prop := ∀ ρ st H i, StepS ρ0 H0 ρ H → Rel c ρ st H → (g i st = some none → J.stop i H) ∧ ∀ d, g i st = some (some d) → J.go i H ∧ ∀ x H', J.yld i H x H' → Step ρ H ρ H' ∧ Rel c ρ st H' ∧ RV c ρ H' x d
theorem ItC.mono {J : It} {g : Gt} (h : ItC c ρ H J g) (s : Step ρ H ρ1 H1) : ItC c ρ1 H1 J g := fun ρ st H i t R => h ρ st H i (s.toS.trans t) R
abbrev tI (c : MC) (W : Wx) (m : Env → Mo Gt) : TI := tX c W (fun ρ H J g => ItC c ρ H J g) m
theorem _root_.L2.PI.imp {tg e : Expr} {t t' : TI} (h : PI X tg e t) (hi : ∀ σ H Q, t' σ H Q → t σ H Q) : PI X tg e t' := ⟨fun pins s σ H R I q => h.run pins s σ H R I (hi σ H R q)⟩
def forM (g : Gt) (tg : MG) (b : MS) : Nat → Nat → MS
 | 0, _ => fun _ _ => none
 | n + 1, i => fun env st => match g i st with
  | none => none
  | some none => some (.nx, env, st)
  | some (some d) => match tg d env st with
   | none => none
   | some (env1, st1) => match b env1 st1 with
    | some (.nx, env2, st2) => forM g tg b n (i + 1) env2 st2
    | some (.ct, env2, st2) => forM g tg b n (i + 1) env2 st2
    | some (.bk, env2, st2) => some (.nx, env2, st2)
    | r => r
def forS (m : Env → Mo Gt) (tg : MG) (b : MS) : MS := bndS m fun g => forM g tg b FUEL 0
theorem r_for {m : Env → Mo Gt} {tg : MG} {b : MS} {vs : List Nat} {D : Ends} (h : tS c W (forS m tg b) D σ H) : tFor (tI c W m) (tG c vs tg) (tS c W b) D σ H := by
 obtain ⟨ρ, st, env, o, env', st', R, E, e, F⟩ := h
 refine tX.bindS R E e F fun ρ1 H1 st1 g J s1 R1 E1 hJ e1 F1 => ?_
 refine ⟨fun i n σ H => ∃ ρ st env, Step ρ1 H1 ρ H ∧ Rel c ρ st H ∧ REnv c ρ H σ env ∧ forM g tg b n i env st = some (o, env', st'), ⟨FUEL, ρ1, st1, env, .refl, R1, E1, e1⟩, fun i n σ H ⟨ρ, st, env, t, R, E, e⟩ => ?_⟩
 cases n with
 | zero => cases e
 | succ n =>
  unfold forM at e
  obtain ⟨h1, h2⟩ := hJ ρ st H i t R
  cases hg : g i st with
  | none => rw [hg] at e; cases e
  | some q =>
   rw [hg] at e
   cases q with
   | none =>
    cases e
    exact .inl ⟨h1 hg, F1.nx t R E⟩
   | some d =>
    obtain ⟨hgo, hy⟩ := h2 d hg
    refine .inr ⟨hgo, fun σ' H' => ∃ ρ st env, Step ρ1 H1 ρ H' ∧ Rel c ρ st H' ∧ REnv c ρ H' σ' env ∧ forM g tg b n (i + 1) env st = some (o, env', st'), fun σ' H' h => ⟨n, Nat.lt_succ_self n, h⟩, fun x H' hyl => ?_⟩
    obtain ⟨t2, R2, r2⟩ := hy x H' hyl
    try dsimp only at e
    cases ht : tg d env st with
    | none => rw [ht] at e; cases e
    | some p =>
     obtain ⟨env2, st2⟩ := p
     rw [ht] at e
     refine ⟨ρ, st, env, d, env2, st2, R2, E.mono t2, r2, ht, fun ρ3 H3 σ3 t3 R3 E3 _ _ => ?_⟩
     try dsimp only at e
     cases hb : b env2 st2 with
     | none => rw [hb] at e; cases e
     | some p =>
      obtain ⟨o4, env4, st4⟩ := p
      rw [hb] at e
      refine ⟨ρ3, st2, env2, o4, env4, st4, R3, E3, hb, fun ρ4 H4 σ4 t4 R4 E4 => ?_⟩
      have T := ((t.trans t2).trans t3).trans t4
      cases o4 with
      | nx => exact ⟨ρ4, st4, env4, T, R4, E4, e⟩
      | ct => exact ⟨ρ4, st4, env4, T, R4, E4, e⟩
      | bk => cases e; exact F1 ρ4 H4 σ4 T R4 E4
      | rt d => cases e; exact F1 ρ4 H4 σ4 T R4 E4
      | er x => cases e; exact F1 ρ4 H4 σ4 T R4 E4
theorem s_for {tg iter : Expr} {body : List Stmt} {pos : Pos} {m : Env → Mo Gt} {g : MG} {vs : List Nat} {b : MS} (hp : PassesOwn (model X.prog X.w) X.A X.env X.xe) (hc : X.calm = true) (hi : PI X tg iter (tI c W m)) (hg : PG X tg (tG c vs g)) (hb : PSs X body (tS c W b))
  (hs : ∀ x, foldedSetIterable iter X.env x = pure x := by intro _; rfl) : PS X (.For tg iter body [] pos) (tS c W (forS m g b)) := (ps_for hp hc hi hg hb hs).imp fun _ _ _ => r_for
def wipeE (env : Env) : List Nat → Env
 | [] => env
 | v :: vs => (wipeE env vs).set v none
theorem wipeE_len : ∀ vs : List Nat, (wipeE env vs).length = env.length
 | [] => rfl
 | v :: vs => by unfold wipeE; rw [List.length_set, wipeE_len vs]
theorem wipeE_some {i : Nat} {d : D} : ∀ {vs : List Nat}, (wipeE env vs)[i]? = some (some d) → env[i]? = some (some d) ∧ i ∉ vs
 | [], h => ⟨h, List.not_mem_nil⟩
 | v :: vs, h => by
  unfold wipeE at h
  by_cases hi : v = i
  ·subst hi
   by_cases hv : v < (wipeE env vs).length
   ·rw [List.getElem?_set_self hv] at h; cases h
   ·rw [List.getElem?_eq_none (by simpa using hv)] at h; cases h
  ·rw [List.getElem?_set_ne hi] at h
   obtain ⟨h1, h2⟩ := wipeE_some h
   exact ⟨h1, fun m => (List.mem_cons.mp m).elim (fun e => hi e.symm) h2⟩
theorem wipe_out {i : Nat} : ∀ {vs : List Nat}, i ∉ vs → (wipe σ vs)[i]? = σ[i]?
 | [], _ => rfl
 | v :: vs, h => by
  unfold wipe
  rw [List.getElem?_set_ne fun z => h (by rw [z]; exact List.mem_cons_self)]
  exact wipe_out fun m => h (List.mem_cons_of_mem _ m)
theorem wipe_in {i : Nat} : ∀ {vs : List Nat}, i ∈ vs → i < σ.length → (wipe σ vs)[i]? = some none
 | v :: vs, h, hl => by
  unfold wipe
  by_cases e : v = i
  ·subst e; exact List.getElem?_set_self (by rw [wipe_length]; exact hl)
  ·rw [List.getElem?_set_ne e]
   exact wipe_in ((List.mem_cons.mp h).resolve_left fun z => e z.symm) hl
theorem wipe_eq {σ2 : L2.St} {vs : List Nat} (hl : σ2.length = σ.length) (h : ∀ j, j ∉ vs → σ2[j]? = σ[j]?) : wipe σ2 vs = wipe σ vs := by
 apply List.ext_getElem?
 intro i
 by_cases hi : i ∈ vs
 ·by_cases hlt : i < σ.length
  ·rw [wipe_in hi (by omega), wipe_in hi hlt]
  ·rw [List.getElem?_eq_none (by rw [wipe_length]; omega), List.getElem?_eq_none (by rw [wipe_length]; omega)]
 ·rw [wipe_out hi, wipe_out hi, h i hi]
theorem REnv.wipe (E : REnv c ρ H σ env) (vs : List Nat) : REnv c ρ H (wipe σ vs) (wipeE env vs) := ⟨by rw [wipe_length, wipeE_len]; exact E.len, fun i d h => by
 obtain ⟨h1, h2⟩ := wipeE_some h
 obtain ⟨v, h3, h4⟩ := E.val i d h1
 exact ⟨v, by rw [wipe_out h2]; exact h3, h4⟩⟩
def W0 : Wx := fun _ _ _ _ => False
def lcM (g : Gt) (tg : MG) (t : Env → Mo Bool) (e : Env → Mo D) (env0 : Env) (n0 : Nat) : Nat → Nat → Sto → Option Sto
 | 0, _ => fun _ => none
 | n + 1, i => fun st => match g i st with
  | none => none
  | some none => some st
  | some (some d) => match tg d env0 st with
   | none => none
   | some (env1, st1) => match t env1 st1 with
    | some (.ok true, st2) => match e env1 st2 with
     | some (.ok y, st3) => match st3[n0]? with
      | some (.lst acc) => if acc.length < 1000000 then lcM g tg t e env0 n0 n (i + 1) (st3.set n0 (.lst (acc ++ [y]))) else none
      | _ => none
     | _ => none
    | some (.ok false, st2) => lcM g tg t e env0 n0 n (i + 1) st2
    | _ => none
def lcE (m : Env → Mo Gt) (tg : MG) (t : Env → Mo Bool) (e : Env → Mo D) (vs : List Nat) : Env → Mo D := fun env => bnd (m env) fun g st => match lcM g tg t e (wipeE env vs) st.length FUEL 0 (st ++ [.lst []]) with
 | none => none
 | some st1 => some (.ok (.ref st.length), st1)
def yesT : Env → Mo Bool := fun _ => ret true
theorem wipe_wipe {vs ws : List Nat} (hs : ∀ v ∈ ws, v ∈ vs) {σ2 : L2.St} (hl : σ2.length = (wipe σ vs).length) (h : ∀ j, j ∉ ws → σ2[j]? = (wipe σ vs)[j]?) : wipe σ2 vs = wipe σ vs :=
 wipe_eq (by rw [hl, wipe_length]) fun j hj => by rw [h j fun m => hj (hs j m), wipe_out hj]
theorem r_lc {m : Env → Mo Gt} {tg : MG} {t : Env → Mo Bool} {el : Env → Mo D} {vs ws : List Nat} {Q : VK} (hs : ∀ v ∈ ws, v ∈ vs) (h : tM c W (lcE m tg t el vs) σ H Q) : tLc (tI c W m) (tG c ws tg) (tT c W0 t) (tM c W0 el) vs σ H Q := by
 obtain ⟨ρ, st, env, r, st', R, E, e0, F⟩ := h
 refine tX.bind R E e0 F fun ρ1 H1 st1 g J s1 R1 E1 hJ e1 F1 => ?_
 intro P hP
 cases hm : lcM g tg t el (wipeE env vs) st1.length FUEL 0 (st1 ++ [.lst []]) with
 | none => rw [hm] at e1; cases e1
 | some st2 =>
  rw [hm] at e1
  cases e1
  obtain ⟨R1', T0, rP⟩ := R1.new hP (.lst (c := c) .nil)
  refine ⟨fun i n H => ∃ ρ st, Step (ρ1 ++ [P]) (upd H1 P (.lst [])) ρ H ∧ Rel c ρ st H ∧ lcM g tg t el (wipeE env vs) st1.length n i st = some st',
   ⟨FUEL, _, _, .refl, R1', hm⟩, fun i n H ⟨ρ, st, tt, R, e⟩ => ?_⟩
  have hPn : ρ[st1.length]? = some P := by
   cases rP with | ref h => exact tt.get h
  cases n with
  | zero => cases e
  | succ n =>
   unfold lcM at e
   obtain ⟨h1, h2⟩ := (hJ.mono T0) ρ st H i tt R
   cases hg : g i st with
   | none => rw [hg] at e; cases e
   | some q =>
    rw [hg] at e
    cases q with
    | none =>
     cases e
     exact .inl ⟨h1 hg, F1.ok (T0.trans tt) R _ (.ref hPn)⟩
    | some d =>
     obtain ⟨hgo, hy⟩ := h2 d hg
     refine .inr ⟨hgo, fun H => ∃ ρ st, Step (ρ1 ++ [P]) (upd H1 P (.lst [])) ρ H ∧ Rel c ρ st H ∧ lcM g tg t el (wipeE env vs) st1.length n (i + 1) st = some st', fun H' h => ⟨n, Nat.lt_succ_self n, h⟩, fun x H' hyl => ?_⟩
     obtain ⟨t2, R2, r2⟩ := hy x H' hyl
     try dsimp only at e
     have E0 : REnv c ρ H' (wipe σ vs) (wipeE env vs) := (E1.wipe vs).mono ((T0.trans tt).trans t2)
     cases ht : tg d (wipeE env vs) st with
     | none => rw [ht] at e; cases e
     | some p =>
      obtain ⟨env2, st3⟩ := p
      rw [ht] at e
      refine ⟨ρ, st, _, d, env2, st3, R2, E0, r2, ht, fun ρ3 H3 σ3 t3 R3 E3 l3 a3 => ⟨wipe_wipe hs l3 a3, ?_⟩⟩
      have T3 := (tt.trans t2).trans t3
      try dsimp only at e
      cases hb : t env2 st3 with
      | none => rw [hb] at e; cases e
      | some p =>
       obtain ⟨rb, st4⟩ := p
       rw [hb] at e
       cases rb with
       | error x => cases e
       | ok k =>
        refine ⟨ρ3, st3, env2, .ok k, st4, R3, E3, hb, fun ρ4 H4 t4 R4 b hbk => ?_⟩
        subst hbk
        cases b with
        | false =>
         rw [if_neg Bool.false_ne_true]
         exact ⟨ρ4, st4, T3.trans t4, R4, e⟩
        | true =>
         rw [if_pos rfl]
         try dsimp only at e
         cases he : el env2 st4 with
         | none => rw [he] at e; cases e
         | some p =>
          obtain ⟨ry, st5⟩ := p
          rw [he] at e
          cases ry with
          | error x => cases e
          | ok y =>
           refine ⟨ρ4, st4, env2, .ok y, st5, R4, E3.mono t4, he, fun ρ5 H5 t5 R5 v hv => ?_⟩
           try dsimp only at e
           have T5 := (T3.trans t4).trans t5
           have hP5 : ρ5[st1.length]? = some P := by cases rP with | ref h => exact T5.get h
           cases ha : st5[st1.length]? with
           | none => rw [ha] at e; cases e
           | some ob =>
            rw [ha] at e
            cases ob with
            | lst acc =>
             try dsimp only at e
             by_cases hl : acc.length < 1000000
             ·rw [if_pos hl] at e
              obtain ⟨a, ho, q1, q2, q3⟩ := R5.ob _ _ ha
              rw [hP5] at q1; cases q1
              cases q3 with
              | un q3 => cases q3 with
               | @lst us _ q3 =>
                refine ⟨us, q2, by rw [q3.length]; exact Nat.lt_of_lt_of_le hl (by decide), ?_⟩
                obtain ⟨R6, T6⟩ := R5.put ha hP5 (.un (.lst (q3.app (.cons hv .nil))))
                exact ⟨ρ5, _, T5.trans T6, R6, e⟩
             ·rw [if_neg hl] at e; cases e
            | _ => cases e
end
end M
namespace M
open PySem PySem.Spec PyProof.Rows L2 G
variable {c : MC}
section
variable {W : Wx} {σ : L2.St} {ρ ρ1 ρ' : List Addr} {H H1 H' : Hp} {st st1 st' : Sto} {env env' : Env} {α β γ : Type} {X : Cx} {Dn : Ends} {o : Out}
def FldOk (c : MC) (C f : Nat) : Prop := Cls c.K (c.ca C) ∧ NoAttr c.K (c.ca C) (c.nm f)
def fldD (cs : List Nat) (f : Nat) : D → Mo D := fun d st => match d with
 | .ref n => match st[n]? with
  | some (.ins C fs) => if C ∈ cs then match fs.lookup f with
    | some d => some (.ok d, st)
    | none => none
   else none
  | _ => none
 | _ => none
theorem ins_inv {n C : Nat} {fs : List (Nat × D)} {x : V} (R : Rel c ρ st H) (r : RV c ρ H x (.ref n)) (h : st[n]? = some (.ins C fs)) : ∃ a dx vs, x = .ref a ∧ ρ[n]? = some a ∧ H a = some (.ins (c.ca C) dx vs) ∧ RFs c ρ H vs fs := by
 cases r with
 | @ref a n hn =>
  obtain ⟨b, ob, h1, h2, h3⟩ := R.ob n _ h
  rw [hn] at h1; cases h1
  cases h3 with
  | un h3 => cases h3 with
   | ins hv => exact ⟨a, _, _, rfl, hn, h2, hv⟩
theorem fldD_inv {cs : List Nat} {f : Nat} {d : D} {r : R D} (h : fldD cs f d st = some (r, st')) : ∃ n C fs x, d = .ref n ∧ st[n]? = some (.ins C fs) ∧ C ∈ cs ∧ fs.lookup f = some x ∧ r = .ok x ∧ st' = st := by
 unfold fldD at h
 cases d with
 | ref n =>
  dsimp only at h
  cases hs : st[n]? with
  | none => rw [hs] at h; cases h
  | some o =>
   rw [hs] at h
   cases o with
   | ins C fs =>
    dsimp only at h
    by_cases hc : C ∈ cs
    ·rw [if_pos hc] at h
     cases hl : fs.lookup f with
     | none => rw [hl] at h; cases h
     | some x => rw [hl] at h; cases h; exact ⟨n, C, fs, x, rfl, hs, hc, hl, rfl, rfl⟩
    ·rw [if_neg hc] at h; cases h
   | _ => cases h
 | _ => cases h
theorem c_fld {cs : List Nat} {f : Nat} (hc : ∀ C ∈ cs, FldOk c C f) : UnC c (fldD cs f) (rFld c.K (c.nm f)) := fun {W σ ρ st st' H x a res Q} R r e F => by
 obtain ⟨n, C, fs, d, rfl, hs, hm, hl, rfl, rfl⟩ := fldD_inv e
 obtain ⟨a, dx, vs, rfl, _, hH, hv⟩ := ins_inv R r hs
 rcases hv.look (f := f) with ⟨_, h2⟩ | ⟨v, d', h1, h2, h3⟩
 ·rw [hl] at h2; cases h2
 ·rw [hl] at h2; cases h2
  exact ⟨a, _, dx, vs, v, rfl, hH, (hc C hm).1, (hc C hm).2, h1, F.ok .refl R v h3⟩
theorem m_fld {e : Expr} {nm : Str} {pos : Pos} {cs : List Nat} {f : Nat} {m : Env → Mo D} (hc : ∀ C ∈ cs, FldOk c C f) (hf : c.nm f = nm) (he : PE X e (tM c W m)) (hb : attributeBase e nm X.env (eval e X.env) = eval e X.env := by rfl) (hK : X.K = c.K := by rfl) : PE X (.Attribute e nm pos) (tM c W (op1 (fldD cs f) m)) :=
 (pe_fldK c.K he hb hK).imp fun σ H Q ⟨ρ, st, env, res, st', R, E, e, F⟩ => tX.bind R E e F fun ρ1 H1 st1 a x s1 R1 E1 r1 e1 F1 => by rw [← hf]; exact c_fld hc R1 r1 e1 F1
def setFld (cs : List Nat) (f : Nat) : D → D → Sto → Option Sto := fun o d st => match o with
 | .ref n => match st[n]? with
  | some (.ins C fs) => if C ∈ cs ∧ fs.length < 900 then some (st.set n (.ins C (putFD f d fs))) else none
  | _ => none
 | _ => none
theorem RFs.put {f : Nat} {v : V} {d : D} (r : RV c ρ H v d) : ∀ {vs : List (Str × V)} {ds : List (Nat × D)}, RFs c ρ H vs ds → RFs c ρ H (putF (c.nm f) v vs) (putFD f d ds)
 | _, _, .nil => .cons r .nil
 | _, _, .cons (k := k) h t => by
  unfold putF putFD
  by_cases e : k = f
  ·rw [if_pos e, if_pos (by rw [e])]; exact .cons r t
  ·rw [if_neg e, if_neg fun z => e (c.inj _ _ z)]; exact .cons h (RFs.put r t)
theorem setFld_inv {cs : List Nat} {f : Nat} {o d : D} (h : setFld cs f o d st = some st') : ∃ n C fs, o = .ref n ∧ st[n]? = some (.ins C fs) ∧ C ∈ cs ∧ fs.length < 900 ∧ st' = st.set n (.ins C (putFD f d fs)) := by
 unfold setFld at h
 cases o with
 | ref n =>
  dsimp only at h
  cases hs : st[n]? with
  | none => rw [hs] at h; cases h
  | some o =>
   rw [hs] at h
   cases o with
   | ins C fs =>
    dsimp only at h
    by_cases hc : C ∈ cs ∧ fs.length < 900
    ·rw [if_pos hc] at h; cases h; exact ⟨n, C, fs, rfl, hs, hc.1, hc.2, rfl⟩
    ·rw [if_neg hc] at h; cases h
   | _ => cases h
 | _ => cases h
theorem c_setFld {cs : List Nat} {f : Nat} (hc : ∀ C ∈ cs, FldOk c C f) {x y : V} {a d : D} {Q : Hp → Prop} (R : Rel c ρ st H) (r : RV c ρ H x a) (ry : RV c ρ H y d) (e : setFld cs f a d st = some st') (k : ∀ H', Step ρ H ρ H' → Rel c ρ st' H' → Q H') : rSFld c.K (c.nm f) x y H Q := by
 obtain ⟨n, C, fs, rfl, hs, hm, hl, rfl⟩ := setFld_inv e
 obtain ⟨a, dx, vs, rfl, hn, hH, hv⟩ := ins_inv R r hs
 obtain ⟨R', T⟩ := R.put hs hn (.un (.ins (C := C) (dx := dx) (hv.put (f := f) ry)))
 exact ⟨a, _, dx, vs, rfl, hH, (hc C hm).1, (hc C hm).2, by rw [hv.length]; omega, k _ T R'⟩
def fldS (cs : List Nat) (f : Nat) (mo m : Env → Mo D) : MS := bndS m fun d => bndS mo fun a env st => match setFld cs f a d st with
 | none => none
 | some st1 => some (.nx, env, st1)
theorem s_fld {e value : Expr} {nm : Str} {pos pos' : Pos} {cs : List Nat} {f : Nat} {mo m : Env → Mo D} (hc : ∀ C ∈ cs, FldOk c C f) (hf : c.nm f = nm) (ha : PE X e (tM c W mo)) (hv : PE X value (tM c W m)) (hs : swapsWith value (some (.Attribute e nm pos')) pos.line X.env = pure false := by rfl) (hK : X.K = c.K := by rfl) :
  PS X (.Assign [.Attribute e nm pos'] value pos) (tS c W (fldS cs f mo m)) := (ps_fld1 ha hv hs).imp fun Dn σ H ⟨ρ, st, env, o, env', st', R, E, e, F⟩ =>
 tX.bindS R E e F fun ρ1 H1 st1 d y s1 R1 E1 r1 e1 F1 => tX.bindS R1 E1 e1 F1 fun ρ2 H2 st2 a x s2 R2 E2 r2 e2 F2 => by
  cases hm : setFld cs f a d st2 with
  | none => rw [hm] at e2; cases e2
  | some st3 =>
   rw [hm] at e2
   cases e2
   rw [hK, ← hf]
   exact c_setFld hc R2 r2 (r1.mono s2) hm fun H' T R' => F2.nx T R' (E2.mono T)
def fldC (cs : List Nat) (f : Nat) : D → Mo (Nat × Nat × D) := fun d st => match d with
 | .ref n => match st[n]? with
  | some (.ins C fs) => if C ∈ cs then match fs.lookup f with
    | some d => some (.ok (n, C, d), st)
    | none => none
   else none
  | _ => none
 | _ => none
theorem fldC_inv {cs : List Nat} {f : Nat} {d : D} {r : R (Nat × Nat × D)} (h : fldC cs f d st = some (r, st')) : ∃ n C fs x, d = .ref n ∧ st[n]? = some (.ins C fs) ∧ C ∈ cs ∧ fs.lookup f = some x ∧ r = .ok (n, C, x) ∧ st' = st := by
 unfold fldC at h
 cases d with
 | ref n =>
  dsimp only at h
  cases hs : st[n]? with
  | none => rw [hs] at h; cases h
  | some o =>
   rw [hs] at h
   cases o with
   | ins C fs =>
    dsimp only at h
    by_cases hc : C ∈ cs
    ·rw [if_pos hc] at h
     cases hl : fs.lookup f with
     | none => rw [hl] at h; cases h
     | some x => rw [hl] at h; cases h; exact ⟨n, C, fs, x, rfl, hs, hc, hl, rfl, rfl⟩
    ·rw [if_neg hc] at h; cases h
   | _ => cases h
 | _ => cases h
def putC (n C f : Nat) (d : D) : Sto → Option Sto := fun st => match st[n]? with
 | some (.ins C' fs) => if C' = C ∧ fs.length < 900 then some (st.set n (.ins C (putFD f d fs))) else none
 | _ => none
theorem putC_inv {n C f : Nat} {d : D} (h : putC n C f d st = some st') : ∃ fs, st[n]? = some (.ins C fs) ∧ fs.length < 900 ∧ st' = st.set n (.ins C (putFD f d fs)) := by
 unfold putC at h
 cases hs : st[n]? with
 | none => rw [hs] at h; cases h
 | some o =>
  rw [hs] at h
  cases o with
  | ins C' fs =>
   dsimp only at h
   by_cases hc : C' = C ∧ fs.length < 900
   ·rw [if_pos hc] at h; cases h; exact ⟨fs, by rw [hc.1], hc.2, rfl⟩
   ·rw [if_neg hc] at h; cases h
  | _ => cases h
def fldAug (cs : List Nat) (f : Nat) (op : D → D → Mo D) (mo m : Env → Mo D) : MS := bndS mo fun a env st => match fldC cs f a st with
 | some (.ok (n, C, x), st1) => bndS m (fun y => bndS (fun _ => op x y) fun z env st => match putC n C f z st with
  | none => none
  | some st1 => some (.nx, env, st1)) env st1
 | _ => none
theorem s_fldAug {e value : Expr} {nm : Str} {op : Operator} {pos tpos : Pos} {cs : List Nat} {f : Nat} {g : D → D → Mo D} {rd : V → V → Hp → VK → Prop} {mo m : Env → Mo D} (hc : ∀ C ∈ cs, FldOk c C f) (hf : c.nm f = nm) (hop : InOp X op rd) (hg : OpC c g rd) (ha : PE X e (tM c W mo)) (hv : PE X value (tM c W m)) (hK : X.K = c.K := by rfl) :
  PS X (.AugAssign (.Attribute e nm tpos) op value pos) (tS c W (fldAug cs f g mo m)) := (ps_fldaug1 ha hv hop).imp fun Dn σ H ⟨ρ, st, env, o, env', st', R, E, e, F⟩ =>
 tX.bindS R E e F fun ρ1 H1 st1 a x s1 R1 E1 r1 e1 F1 => by
  cases hx : fldC cs f a st1 with
  | none => rw [hx] at e1; cases e1
  | some p =>
   obtain ⟨r, st2⟩ := p
   obtain ⟨n, C, fs, d, rfl, hs, hm, hl, rfl, rfl⟩ := fldC_inv hx
   rw [hx] at e1
   dsimp only at e1
   obtain ⟨b, dx, vs, rfl, hn, hH, hvs⟩ := ins_inv R1 r1 hs
   rcases hvs.look (f := f) with ⟨_, h2⟩ | ⟨v, d', h1, h2, h3⟩
   ·rw [hl] at h2; cases h2
   rw [hl] at h2; cases h2
   refine ⟨b, _, dx, vs, v, rfl, hH, by rw [hK]; exact (hc C hm).1, by rw [hK, ← hf]; exact (hc C hm).2, by rw [← hf]; exact h1, ?_⟩
   refine tX.bindS R1 E1 e1 F1 fun ρ2 H2 st3 y yv s2 R2 E2 r2 e2 F2 => ?_
   cases hg2 : g d y st3 with
   | none => unfold bndS at e2; dsimp only at e2; rw [hg2] at e2; cases e2
   | some p =>
    obtain ⟨rz, st4⟩ := p
    refine hg (W := W) (σ := σ) R2 (h3.mono s2) r2 hg2 fun ρ3 H3 t3 R3 => ?_
    unfold bndS at e2
    dsimp only at e2
    rw [hg2] at e2
    cases rz with
    | error x =>
     cases e2
     exact F2 ρ3 H3 σ t3 R3 (E2.mono t3)
    | ok z =>
     intro u hu
     dsimp only at e2
     cases hm2 : putC n C f z st4 with
     | none => rw [hm2] at e2; cases e2
     | some st5 =>
      rw [hm2] at e2
      cases e2
      obtain ⟨fs', hs', hl', rfl⟩ := putC_inv hm2
      obtain ⟨b', dx', vs', e', hn', hH', hv'⟩ := ins_inv R3 ((r1.mono s2).mono t3.to0) hs'
      cases e'
      obtain ⟨R4, T4⟩ := R3.put hs' hn' (.un (.ins (C := C) (dx := dx') (hv'.put (f := f) hu)))
      rw [← hf]
      exact ⟨dx', vs', hH', by rw [hv'.length]; omega, F2.nx (t3.trans T4) R4 (E2.mono (t3.trans T4))⟩
def runF (n k : Nat) (m : MS) : List D → Mo D := fun ds st => if ds.length = k then match m (ds.map some ++ List.replicate (n - k) none) st with
  | some (.nx, _, s) => some (.ok .non, s)
  | some (.rt d, _, s) => some (.ok d, s)
  | some (.er e, _, s) => some (.error e, s)
  | _ => none
 else none
def spM (c : MC) (n : Nat) (f : List D → Mo D) : Sp := fun vs H Q E => ∃ ρ st ds r st', Rel c ρ st H ∧ RVs c ρ H vs ds ∧ ds.length = n ∧ f ds st = some (r, st') ∧ ∀ σ, Fin c (fun cls d _ H => E cls d H) σ ρ H r st' fun ρ' H' d => ∀ v, RV c ρ' H' v d → Q v H'
abbrev WD (E : XK) : Wx := fun cls d _ H => E cls d H
theorem REnv.start {N : List Str} {vs : List V} {ds : List D} (h : RVs c ρ H vs ds) : REnv c ρ H (L2.start N vs) (ds.map some ++ List.replicate (N.length - ds.length) none) := by
 refine ⟨by unfold L2.start; rw [List.length_append, List.length_append, List.length_map, List.length_map, List.length_replicate, List.length_replicate, h.length], fun i d hd => ?_⟩
 by_cases hi : i < ds.length
 ·rw [List.getElem?_append_left (by rw [List.length_map]; exact hi), List.getElem?_map] at hd
  cases hg : ds[i]? with
  | none => rw [hg] at hd; cases hd
  | some d' =>
   rw [hg] at hd; cases hd
   obtain ⟨v, hv, r⟩ := h.get hg
   refine ⟨v, ?_, r⟩
   unfold L2.start
   rw [List.getElem?_append_left (by rw [List.length_map, h.length]; exact hi), List.getElem?_map, hv]; rfl
 ·rw [List.getElem?_append_right (by rw [List.length_map]; omega), List.getElem?_replicate] at hd
  split at hd <;> cases hd
theorem fn_m {P : Program} {w : World} {K : PySem.W.Frag} {mg : Str → Option Value} {base : Heap} {x qual : Str} {st : Stmt} {f : Addr} {fd : FuncData} {N ps : List Str} {k : Nat} {m : MS} (F : L2.Fun K x qual st f fd) (S : FnScope N ps (defScope st))
  (hbody : ∀ (cdv : Value) (A : Around) (outer : List PySem.Env) (s : Shared) (H : Hp) (E : XK), Room k (A.deeper (envOfC qual (defScope st) s.heap.objs.size f cdv)) → Takes (cxOf (L2.CX P w) P w K mg base N qual (defScope st) f cdv A outer s H E) (WD E) →
   PSs (cxOf (L2.CX P w) P w K mg base N qual (defScope st) f cdv A outer s H E) (defBody st) (tS c (WD E) m)) : FnOk P w K mg base (L2.CX P w) (k + 1) f fd ps (spM c ps.length (runF N.length ps.length m)) := by
 refine F.okX S (fun vs H Q E h => ?_) fun cdv A outer s H vs Q E hr h => ⟨_, hbody cdv A outer s H E hr (takes_of rfl rfl rfl rfl), ?_⟩
 ·obtain ⟨ρ, st, ds, r, st', R, h1, h2, _⟩ := h
  rw [h1.length]; exact h2
 ·obtain ⟨ρ, st0, ds, r, st', R, h1, h2, e, F⟩ := h
  unfold runF at e
  rw [if_pos h2] at e
  cases hm : m (ds.map some ++ List.replicate (N.length - ps.length) none) st0 with
  | none => rw [hm] at e; cases e
  | some p =>
   obtain ⟨o, env', s1⟩ := p
   rw [hm] at e
   refine ⟨ρ, st0, _, o, env', s1, R, (by have h9 := REnv.start (N := N) h1; rw [h2] at h9; exact h9), hm, fun ρ' H' σ' T R' E' => ?_⟩
   cases o with
   | nx => cases e; exact F σ' ρ' H' T R' _ .non
   | rt d => cases e; exact F σ' ρ' H' T R'
   | er x => cases e; exact F σ' ρ' H' T R'
   | bk => cases e
   | ct => cases e
theorem takes0 : Takes X W0 := fun u s' ⟨_, _, _, _, _, _, _, _, _, _, _, _, _, _, _, _, h⟩ => h.elim
def LenOk (n : Nat) (f : List D → Mo D) : Prop := ∀ ds st p, f ds st = some p → ds.length = n
theorem runF_len {n k : Nat} {m : MS} : LenOk k (runF n k m) := fun ds st p h => by
 unfold runF at h
 by_cases e : ds.length = k
 ·exact e
 ·rw [if_neg e] at h; cases h
structure Bnd (c : MC) (K : PySem.W.Frag) (fd : FuncData) (ps : List Str) (n : Nat) (ks : List Str) (g : List D → List D → List D) : Prop where
 ex : ∃ (gU : List Value → List Value → List Value) (gV : List V → List V → List V), KBn K fd ps n ks gU gV ∧ ∀ (ρ : List Addr) (H : Hp) (vs zs : List V) (as bs : List D), RVs c ρ H vs as → RVs c ρ H zs bs → RVs c ρ H (gV vs zs) (g as bs)
structure CalB (c : MC) (P : Program) (w : World) (K : PySem.W.Frag) (mg : Str → Option Value) (base : Heap) (k : Nat) (x : Str) (n : Nat) (ks : List Str) (g : List D → List D → List D) (f : List D → Mo D) : Prop where
 ex : ∃ (a : Addr) (fd : FuncData) (ps : List Str), FnOk P w K mg base (L2.CX P w) k a fd ps (spM c ps.length f) ∧ mg x = some (.ref a) ∧ PySem.W.keepIn K (.ref a) = true ∧ Bnd c K fd ps n ks g ∧ LenOk ps.length f
structure MetB (c : MC) (P : Program) (w : World) (K : PySem.W.Frag) (mg : Str → Option Value) (base : Heap) (k : Nat) (C : Nat) (m : Str) (n : Nat) (ks : List Str) (g : List D → List D → List D) (f : List D → Mo D) : Prop where
 ex : ∃ (a : Addr) (fd : FuncData) (ps : List Str), Cls K (c.ca C) ∧ L2.Meth K (c.ca C) m a ∧ FnOk P w K mg base (L2.CX P w) k a fd ps (spM c ps.length f) ∧ Bnd c K fd ps n ks g ∧ LenOk ps.length f
structure MakB (c : MC) (P : Program) (w : World) (K : PySem.W.Frag) (mg : Str → Option Value) (base : Heap) (k : Nat) (x : Str) (C : Nat) (n : Nat) (ks : List Str) (g : List D → List D → List D) (f : List D → Mo D) : Prop where
 ex : ∃ (a : Addr) (fd : FuncData) (ps : List Str), Mk K (c.ca C) a ∧ FnOk P w K mg base (L2.CX P w) k a fd ps (spM c ps.length f) ∧ mg x = some (.ref (c.ca C)) ∧ Bnd c K fd ps n ks g ∧ LenOk ps.length f
def LenA (n : Nat) (ms : Env → Mo (List D)) : Prop := ∀ env st as st', ms env st = some (.ok as, st') → as.length = n
theorem la_nil : LenA 0 aNil := fun env st as st' h => by cases h; rfl
theorem la_cons {n : Nat} {m : Env → Mo D} {ms : Env → Mo (List D)} (h : LenA n ms) : LenA (n + 1) (aCons m ms) := fun env st as st' e => by
 unfold aCons bnd at e
 cases hm : m env st with
 | none => rw [hm] at e; cases e
 | some p =>
  obtain ⟨r, s⟩ := p
  rw [hm] at e
  cases r with
  | error x => cases e
  | ok a =>
   dsimp only at e
   cases h2 : ms env s with
   | none => rw [h2] at e; cases e
   | some p =>
    obtain ⟨r, s2⟩ := p
    rw [h2] at e
    cases r with
    | error x => cases e
    | ok bs => cases e; rw [List.length_cons, h env s bs _ h2]
def callB (g : List D → List D → List D) (f : List D → Mo D) (ms ks : Env → Mo (List D)) : Env → Mo D := fun env => bnd (ms env) fun as => bnd (ks env) fun bs => f (g as bs)
theorem tX.bindL {n : Nat} {ms : Env → Mo (List D)} {k : List D → Mo γ} {r : M.R γ} {Q : List Addr → Hp → γ → Prop} {G : List V → Hp → Prop} (hl : LenA n ms) (Rl : Rel c ρ st H) (En : REnv c ρ H σ env) (h : bnd (ms env) k st = some (r, st')) (F : Fin c W σ ρ H r st' Q)
  (hk : ∀ ρ1 H1 st1 as vs, Step ρ H ρ1 H1 → Rel c ρ1 st1 H1 → REnv c ρ1 H1 σ env → RVs c ρ1 H1 vs as → as.length = n → k as st1 = some (r, st') → Fin c W σ ρ1 H1 r st' Q → G vs H1) : tA c W ms σ H G := by
 have h' : bnd (ms env) (fun as st1 => if as.length = n then k as st1 else none) st = some (r, st') := by
  unfold bnd at h ⊢
  cases hm : ms env st with
  | none => rw [hm] at h; cases h
  | some p =>
   obtain ⟨r1, s⟩ := p
   rw [hm] at h
   cases r1 with
   | error x => exact h
   | ok as => show (if as.length = n then k as s else none) = _; rw [if_pos (hl env st as s hm)]; exact h
 refine tX.bind Rl En h' F fun ρ1 H1 st1 as vs s1 R1 E1 r1 e1 F1 => ?_
 by_cases hn : as.length = n
 ·rw [if_pos hn] at e1; exact hk ρ1 H1 st1 as vs s1 R1 E1 r1 hn e1 F1
 ·rw [if_neg hn] at e1; cases e1
section
variable {pins : List (Addr × Obj)} {s : Shared} {k j n C : Nat} {a : Addr} {fd : FuncData} {ps ks : List Str} {g : List D → List D → List D} {f : List D → Mo D} {res : M.R D} {Q : VK} {us ws : List Value} {vs zs : List V} {as bs : List D}
theorem run_b (F : FnOk X.prog X.w X.K X.mg X.base (L2.CX X.prog X.w) k a fd ps (spM c ps.length f)) (hr : Room k X.A) (hb : Bnd c X.K fd ps n ks g) (hl : LenOk ps.length f) (tk : Takes X W) (I : Inv X pins σ H s) (r : Vals vs us) (rz : Vals zs ws) (R : Rel c ρ st H) (ra : RVs c ρ H vs as) (rb : RVs c ρ H zs bs)
  (l1 : as.length = n) (l2 : bs.length = ks.length) (e : f (g as bs) st = some (res, st')) (Fn : Fin c W σ ρ H res st' fun ρ' H' d => ∀ v, RV c ρ' H' v d → Q v H') : wpAny (model X.prog X.w) X.A (call (.ref a) us (ks.zip ws)) (EP X pins σ Q) X.xe s := by
 obtain ⟨gU, gV, kb, hg⟩ := hb.ex
 exact run_fnNS (E := WE W) F hr kb (passAt tk σ) I r rz (by rw [ra.length]; exact l1) (by rw [rb.length]; exact l2) ⟨ρ, st, g as bs, res, st', R, hg ρ H vs zs as bs ra rb, hl _ _ _ e, e, fun _ => Fn⟩
variable {x : Str} {e : Expr} {es : List Expr} {kws : List Keyword} {p pos : Pos} {ms mk : Env → Mo (List D)}
theorem m_c (cl : CalB c X.prog X.w X.K X.mg X.base k x n [] g f) (tk : Takes X W) (hr : Room j X.A) (hk : k ≤ j) (hg : Gl X x) (ha : PA X (e :: es) (tA c W ms)) (la : LenA n ms)
  (hdb : (x == ("__debug__" : Str)) = false := by decide) (he : starEach (e :: es) X.env = (false, eval e X.env) :: starEach es X.env := by rfl) (hpl : (backTo pos (starEach es X.env)).any (·.1) = false := by rfl) :
  PE X (.Call (.Name x p) (e :: es) [] pos) (tM c W (callB g f ms aNil)) := by
 obtain ⟨a, fd, ps, F, hm, kp, b, hl⟩ := cl.ex
 refine ⟨fun pins s σ H Q I ⟨ρ, st, env, res, st', R, E, e0, Fn⟩ => ?_⟩
 refine wpAny_Call_Name_kw (ld_glob I hg hm ?_ hdb)
 refine PySem.W.callWith_K (h₀ := X.base) I.ok.mod.kin kp (thn (ha.run pos pins s σ H _ I (tX.bindL la R E e0 Fn fun ρ1 H1 st1 as vs s1 R1 E1 r1 l1 e1 F1 => show (∃ ρ st as, Rel c ρ st H1 ∧ RVs c ρ H1 vs as ∧ as.length = n ∧ f (g as []) st = some (res, st') ∧ Fin c W σ ρ H1 res st' fun ρ' H' d => ∀ v, RV c ρ' H' v d → Q v H') from ⟨ρ1, st1, as, R1, r1, l1, e1, F1⟩)) fun us s1 ⟨vs, H1, I1, r, ρ1, st1, as, R1, ra, l1, e1, F1⟩ => ⟨I1.kIn, ?_⟩) he hpl
 exact run_b (ks := []) (ws := []) F (hr.mono hk) b hl tk I1 r .nil R1 ra .nil l1 rfl e1 F1
theorem m_ck (cl : CalB c X.prog X.w X.K X.mg X.base k x n ks g f) (tk : Takes X W) (hr : Room j X.A) (hk : k ≤ j) (hg : Gl X x) (ha : PA X (e :: es) (tA c W ms)) (la : LenA n ms) (hkw : PK X kws (tA c W mk)) (lk : LenA ks.length mk)
  (hall : (backToKw pos (keywordEach kws X.env)).all (·.1.isSome) = true := by rfl) (hks : (backToKw pos (keywordEach kws X.env)).filterMap (·.1) = ks := by rfl)
  (hdb : (x == ("__debug__" : Str)) = false := by decide) (he : starEach (e :: es) X.env = (false, eval e X.env) :: starEach es X.env := by rfl)
  (hpl : ((backTo pos (starEach (e :: es) X.env)).any (·.1) || (backToKw pos (keywordEach kws X.env)).any (·.1.isNone)) = false := by rfl) :
  PE X (.Call (.Name x p) (e :: es) kws pos) (tM c W (callB g f ms mk)) := by
 obtain ⟨a, fd, ps, F, hm, kp, b, hl⟩ := cl.ex
 refine ⟨fun pins s σ H Q I ⟨ρ, st, env, res, st', R, E, e0, Fn⟩ => ?_⟩
 refine wpAny_Call_Name_kw (ld_glob I hg hm ?_ hdb)
 refine PySem.W.callWith_KW (h₀ := X.base) I.ok.mod.kin kp hall (thn (ha.run pos pins s σ H _ I (tX.bindL la R E e0 Fn fun ρ1 H1 st1 as vs s1 R1 E1 r1 l1 e1 F1 => tX.bindL lk R1 E1 e1 F1 fun ρ2 H2 st2 bs zs s2 R2 E2 r2 l2 e2 F2 =>
  show (∃ ρ st as bs, Rel c ρ st H2 ∧ RVs c ρ H2 vs as ∧ RVs c ρ H2 zs bs ∧ as.length = n ∧ bs.length = ks.length ∧ f (g as bs) st = some (res, st') ∧ Fin c W σ ρ H2 res st' fun ρ' H' d => ∀ v, RV c ρ' H' v d → Q v H') from ⟨ρ2, st2, as, bs, R2, r1.mono s2, r2, l1, l2, e2, F2⟩)) fun us s1 ⟨vs, H1, I1, r, q⟩ => ?_) hpl he
 refine thn (hkw.run pos pins s1 σ H1 _ I1 q) fun ws s2 ⟨zs, H2, I2, rz, ρ2, st2, as, bs, R2, ra, rb, l1, l2, e2, F2⟩ => ⟨I2.kIn, ?_⟩
 rw [hks]
 exact run_b F (hr.mono hk) b hl tk I2 r rz R2 ra rb l1 l2 e2 F2
theorem m_ck0 (cl : CalB c X.prog X.w X.K X.mg X.base k x 0 ks g f) (tk : Takes X W) (hr : Room j X.A) (hk : k ≤ j) (hg : Gl X x) (hkw : PK X kws (tA c W mk)) (lk : LenA ks.length mk)
  (hall : (backToKw pos (keywordEach kws X.env)).all (·.1.isSome) = true := by rfl) (hks : (backToKw pos (keywordEach kws X.env)).filterMap (·.1) = ks := by rfl) (hdb : (x == ("__debug__" : Str)) = false := by decide)
  (hpl : ((backTo pos (starEach [] X.env)).any (·.1) || (backToKw pos (keywordEach kws X.env)).any (·.1.isNone)) = false := by rfl) :
  PE X (.Call (.Name x p) [] kws pos) (tM c W (callB g f aNil mk)) := by
 obtain ⟨a, fd, ps, F, hm, kp, b, hl⟩ := cl.ex
 refine ⟨fun pins s σ H Q I ⟨ρ, st, env, res, st', R, E, e0, Fn⟩ => ?_⟩
 refine wpAny_Call_Name_kw (ld_glob I hg hm ?_ hdb)
 refine PySem.W.callWith_KW0 (h₀ := X.base) I.ok.mod.kin kp hall (thn (hkw.run pos pins s σ H _ I (tX.bindL lk R E e0 Fn fun ρ2 H2 st2 bs zs s2 R2 E2 r2 l2 e2 F2 =>
  show (∃ ρ st bs, Rel c ρ st H2 ∧ RVs c ρ H2 zs bs ∧ bs.length = ks.length ∧ f (g [] bs) st = some (res, st') ∧ Fin c W σ ρ H2 res st' fun ρ' H' d => ∀ v, RV c ρ' H' v d → Q v H') from ⟨ρ2, st2, bs, R2, r2, l2, e2, F2⟩)) fun ws s2 ⟨zs, H2, I2, rz, ρ2, st2, bs, R2, rb, l2, e2, F2⟩ => ⟨I2.kIn, ?_⟩) hpl
 rw [hks]
 exact run_b (us := []) F (hr.mono hk) b hl tk I2 .nil rz R2 .nil rb rfl l2 e2 F2
def insOf (m : Nat → Bool) (C : Nat) (d : D) (st : Sto) : Bool := match d with
 | .ref n => match st[n]? with
  | some (.ins C' fs) => C' == C && fs.all fun kv => m kv.1
  | _ => false
 | _ => false
def methB (C : Nat) (m : Nat → Bool) (g : List D → List D → List D) (f : List D → Mo D) (mo : Env → Mo D) (ms mk : Env → Mo (List D)) : Env → Mo D := fun env => bnd (mo env) fun a => chk (insOf m C a) (bnd (ms env) fun as => bnd (mk env) fun bs => f (g (a :: as) bs))
theorem rMe_of {m : Nat → Bool} {nm : Str} {x : V} {a : D} {Q : Prop} (hm : ∀ k, m k = true → c.nm k ≠ nm) (R : Rel c ρ st H) (r : RV c ρ H x a) (h : insOf m C a st = true) (k : Q) : rMe (c.ca C) nm x H Q := by
 unfold insOf at h
 cases a with
 | ref n =>
  dsimp only at h
  cases hs : st[n]? with
  | none => rw [hs] at h; cases h
  | some o =>
   rw [hs] at h
   cases o with
   | ins C' fs =>
    dsimp only at h
    rw [Bool.and_eq_true] at h
    obtain rfl := eq_of_beq h.1
    obtain ⟨a, dx, vs, rfl, _, hH, hv⟩ := ins_inv R r hs
    refine ⟨a, dx, vs, rfl, hH, hv.no fun k hk => ?_, k⟩
    obtain ⟨kv, hkv, rfl⟩ := List.mem_map.mp hk
    exact hm _ (List.all_eq_true.mp h.2 kv hkv)
   | _ => cases h
 | _ => cases h
variable {nm : Str} {m : Nat → Bool} {oe : Expr} {apos : Pos} {mo : Env → Mo D} {pl : Sem Bool}
theorem tM_meth {α : Type} {G : V → Hp → Prop} {k : D → Mo α} {r : M.R α} {Q : List Addr → Hp → α → Prop} (R : Rel c ρ st H) (E : REnv c ρ H σ env) (e : bnd (mo env) (fun a => chk (insOf m C a) (k a)) st = some (r, st')) (F : Fin c W σ ρ H r st' Q)
  (hk : ∀ ρ1 H1 st1 a v, Step ρ H ρ1 H1 → Rel c ρ1 st1 H1 → REnv c ρ1 H1 σ env → RV c ρ1 H1 v a → insOf m C a st1 = true → k a st1 = some (r, st') → Fin c W σ ρ1 H1 r st' Q → G v H1) : tM c W mo σ H G :=
 tX.bind R E e F fun ρ1 H1 st1 a x s1 R1 E1 r1 e1 F1 => by
  unfold chk at e1
  split at e1
  ·rename_i hi
   exact hk ρ1 H1 st1 a x s1 R1 E1 r1 hi e1 F1
  ·cases e1
theorem m_m (cl : MetB c X.prog X.w X.K X.mg X.base k C nm (n + 1) [] g f) (tk : Takes X W) (hr : Room j X.A) (hk : k ≤ j) (hm : ∀ k, m k = true → c.nm k ≠ nm) (ho : PE X oe (tM c W mo)) (ha : PA X (e :: es) (tA c W ms)) (la : LenA n ms)
  (hst : starEach (e :: es) X.env = (false, eval e X.env) :: starEach es X.env := by rfl) (hpl : (backTo pos (starEach es X.env)).any (·.1) = false := by rfl)
  (ht : eval (.Call (.Attribute oe nm apos) (e :: es) [] pos) X.env = (do
   let ov ← eval oe X.env
   standAt apos.atName
   let (f, first) ← holding [ov] (getMethod ov nm pl)
   callWith pos f first (backTo pos (starEach (e :: es) X.env)) (backToKw pos (keywordEach [] X.env))) := by rfl) :
  PE X (.Call (.Attribute oe nm apos) (e :: es) [] pos) (tM c W (methB C m g f mo ms aNil)) := by
 obtain ⟨fa, fd, ps, c1, hme, F, b, hl⟩ := cl.ex
 refine ⟨fun pins s σ H Q I ⟨ρ, st, env, res, st', R, E, e0, Fn⟩ => ?_⟩
 refine PySem.W.methodCall_KW (pl := pl) (thn (ho.run pins s σ H (fun v H1 => rMe (c.ca C) nm v H1 (tA c W ms σ H1 fun vs H2 => ∃ ρ st a as, Rel c ρ st H2 ∧ RV c ρ H2 v a ∧ RVs c ρ H2 vs as ∧ as.length = n ∧ f (g (a :: as) []) st = some (res, st') ∧ Fin c W σ ρ H2 res st' fun ρ' H' d => ∀ v, RV c ρ' H' v d → Q v H')) I
  (tM_meth R E e0 Fn fun ρ1 H1 st1 a v s1 R1 E1 r1 hi e1 F1 => rMe_of hm R1 r1 hi (tX.bindL la R1 E1 e1 F1 fun ρ2 H2 st2 as vs s2 R2 E2 r2 l2 e2 F2 => ⟨ρ2, st2, a, as, R2, r1.mono s2, r2, l2, e2, F2⟩))) fun u s1 ⟨x, H1, I1, rx, a, dx, fs, ex, ea, l, q⟩ => ?_) ht
 subst ex
 obtain rfl : u = Value.ref a := rx
 refine getmeth_ok I1 ea c1 hme l ?_
 refine PySem.W.callWith_K (first := [.ref a]) (h₀ := X.base) I.ok.mod.kin hme.kp (thn (ha.run pos pins s1 σ H1 _ I1 q) fun us s2 ⟨vs, H2, I2, r, ρ2, st2, a2, as, R2, r1, r2, l2, e2, F2⟩ => ⟨I2.kIn, ?_⟩) hst hpl
 exact run_b (ks := []) (ws := []) (us := .ref a :: us) (vs := .ref a :: vs) F (hr.mono hk) b hl tk I2 (.cons rfl r) .nil R2 (.cons r1 r2) .nil (by rw [List.length_cons, l2]) rfl e2 F2
theorem m_m0 (cl : MetB c X.prog X.w X.K X.mg X.base k C nm 1 [] g f) (tk : Takes X W) (hr : Room j X.A) (hk : k ≤ j) (hm : ∀ k, m k = true → c.nm k ≠ nm) (ho : PE X oe (tM c W mo))
  (ht : eval (.Call (.Attribute oe nm apos) [] [] pos) X.env = (do
   let ov ← eval oe X.env
   standAt apos.atName
   let (f, first) ← holding [ov] (getMethod ov nm pl)
   callWith pos f first (backTo pos (starEach [] X.env)) (backToKw pos (keywordEach [] X.env))) := by rfl) :
  PE X (.Call (.Attribute oe nm apos) [] [] pos) (tM c W (methB C m g f mo aNil aNil)) := by
 obtain ⟨fa, fd, ps, c1, hme, F, b, hl⟩ := cl.ex
 refine ⟨fun pins s σ H Q I ⟨ρ, st, env, res, st', R, E, e0, Fn⟩ => ?_⟩
 refine PySem.W.methodCall_KW (pl := pl) (thn (ho.run pins s σ H (fun v H1 => rMe (c.ca C) nm v H1 (∃ ρ st a, Rel c ρ st H1 ∧ RV c ρ H1 v a ∧ f (g [a] []) st = some (res, st') ∧ Fin c W σ ρ H1 res st' fun ρ' H' d => ∀ v, RV c ρ' H' v d → Q v H')) I
  (tM_meth R E e0 Fn fun ρ1 H1 st1 a v s1 R1 E1 r1 hi e1 F1 => rMe_of hm R1 r1 hi ⟨ρ1, st1, a, R1, r1, e1, F1⟩)) fun u s1 ⟨x, H1, I1, rx, a, dx, fs, ex, ea, l, ρ2, st2, a2, R2, r1, e2, F2⟩ => ?_) ht
 subst ex
 obtain rfl : u = Value.ref a := rx
 refine getmeth_ok I1 ea c1 hme l ?_
 exact PySem.W.callWith_K0 (first := [.ref a]) I1.kIn hme.kp (run_b (ks := []) (ws := []) (us := [.ref a]) (vs := [.ref a]) F (hr.mono hk) b hl tk I1 (.cons rfl .nil) .nil R2 (.cons r1 .nil) .nil rfl rfl e2 F2)
end
end
end M
namespace M
open PySem PySem.Spec PyProof.Rows L2 G
variable {c : MC}
section
variable {W : Wx} {σ : L2.St} {ρ ρ1 ρ' : List Addr} {H H1 H' : Hp} {st st1 st' : Sto} {env env' : Env} {X : Cx} {Dn : Ends} {o : Out}
def mkD (C : Nat) (g : List D → List D → List D) (f : List D → Mo D) (as bs : List D) : Mo D := fun st => match f (g (.ref st.length :: as) bs) (st ++ [.ins C []]) with
 | some (.ok .non, s) => some (.ok (.ref st.length), s)
 | some (.error e, s) => some (.error e, s)
 | _ => none
def mkB (C : Nat) (g : List D → List D → List D) (f : List D → Mo D) (ms mk : Env → Mo (List D)) : Env → Mo D := fun env => bnd (ms env) fun as => bnd (mk env) fun bs => mkD C g f as bs
section
variable {pins : List (Addr × Obj)} {s : Shared} {k j n C : Nat} {a : Addr} {fd : FuncData} {ps ks : List Str} {g : List D → List D → List D} {f : List D → Mo D} {res : M.R D} {Q : VK} {us ws : List Value} {vs zs : List V} {as bs : List D}
theorem run_mk (M : Mk X.K (c.ca C) a) (F : FnOk X.prog X.w X.K X.mg X.base (L2.CX X.prog X.w) k a fd ps (spM c ps.length f)) (hr : Room (k + 1) X.A) (hb : Bnd c X.K fd ps (n + 1) ks g) (hl : LenOk ps.length f) (tk : Takes X W) (I : Inv X pins σ H s) (r : Vals vs us) (rz : Vals zs ws) (R : Rel c ρ st H) (ra : RVs c ρ H vs as) (rb : RVs c ρ H zs bs)
  (l1 : as.length = n) (l2 : bs.length = ks.length) (e : mkD C g f as bs st = some (res, st')) (Fn : Fin c W σ ρ H res st' fun ρ' H' d => ∀ v, RV c ρ' H' v d → Q v H') : wpAny (model X.prog X.w) X.A (call (.ref (c.ca C)) us (ks.zip ws)) (EP X pins σ Q) X.xe s := by
 obtain ⟨gU, gV, kb, hg⟩ := hb.ex
 have hx1 := I.hok.fresh (Nat.le_refl s.heap.objs.size)
 have hx2 := I.hok.fresh (Nat.le_succ s.heap.objs.size)
 have hne : s.heap.objs.size ≠ s.heap.objs.size + 1 := Nat.ne_of_lt (Nat.lt_succ_self _)
 obtain ⟨Ra, Ta⟩ := R.side (.own (s.heap.objs.size + 1)) hx1
 obtain ⟨Rb, Tb, rx⟩ := Ra.new (p := s.heap.objs.size + 1) (o := .ins (c.ca C) s.heap.objs.size []) (u := .ins C []) (by rw [upd_ne hne.symm]; exact hx2) (.ins .nil)
 have T := Ta.trans Tb
 have hrV : RVs c (ρ ++ [s.heap.objs.size + 1]) (upd (upd H s.heap.objs.size (.own (s.heap.objs.size + 1))) (s.heap.objs.size + 1) (.ins (c.ca C) s.heap.objs.size [])) (gV (.ref (s.heap.objs.size + 1) :: vs) zs) (g (.ref st.length :: as) bs) := hg _ _ _ _ _ _ (.cons rx (ra.mono T)) (rb.mono T)
 have hq : spM c ps.length f (gV (.ref (s.heap.objs.size + 1) :: vs) zs) (upd (upd H s.heap.objs.size (.own (s.heap.objs.size + 1))) (s.heap.objs.size + 1) (.ins (c.ca C) s.heap.objs.size [])) (fun v H2 => v = .non ∧ Q (.ref (s.heap.objs.size + 1)) H2) (WE W σ) := by
  unfold mkD at e
  cases hf : f (g (.ref st.length :: as) bs) (st ++ [.ins C []]) with
  | none => rw [hf] at e; cases e
  | some p =>
   obtain ⟨r1, s1⟩ := p
   rw [hf] at e
   refine ⟨_, _, _, r1, s1, Rb, hrV, hl _ _ _ hf, hf, fun σ2 ρ' H' T' R' => ?_⟩
   cases r1 with
   | error x => cases e; exact Fn ρ' H' (T.trans T') R'
   | ok d =>
    intro v hv
    cases d with
    | non =>
     cases e
     cases hv
     refine ⟨rfl, Fn ρ' H' (T.trans T') R' _ ?_⟩
     exact .ref (T'.get (Ra.newAt _))
    | _ => cases e
 have I2 := Inv.made (C := c.ca C) I
 have r1 : Vals (V.ref (s.heap.objs.size + 1) :: vs) (Value.ref (s.heap.objs.size + 1) :: us) := .cons rfl r
 have r2 := kb.rel r1 rz
 have e1 : (Value.ref (s.heap.objs.size + 1) :: us).length = n + 1 := by rw [← r1.length, List.length_cons, ra.length, l1]
 have e2 : ws.length = ks.length := by rw [← rz.length, rb.length, l2]
 refine wpAny_call (make_map (f := a) I.kIn M.makes M.init (beq_iff_eq.mp M.fn) (codeAny_mono (F.run _ X.stack _ _ ⟨Value.ref (s.heap.objs.size + 1) :: us, ks.zip ws⟩ (gU (Value.ref (s.heap.objs.size + 1) :: us) ws) _ _ (WE W σ) (hr.make (c.ca C) us (ks.zip ws))
  (I2.env0.make (c.ca C) us (ks.zip ws)) (kb.to _ (Value.ref (s.heap.objs.size + 1) :: us) ws I2.kIn e1 e2) r2 hq) fun r s' hq' => ?_))
 cases r with
 | error e => exact passAt tk σ pins _ _ e s' I2 hq'
 | ok fl =>
  cases fl with
  | ret u =>
   obtain ⟨v, H', I3, rv, ev, q3⟩ := I2.after hq'
   subst ev
   exact ⟨rv, ⟨V.ref (s.heap.objs.size + 1), H', I3, rfl, q3⟩⟩
  | next => exact False.elim hq'
  | brk => exact False.elim hq'
  | cont => exact False.elim hq'
variable {x : Str} {e : Expr} {es : List Expr} {kws : List Keyword} {p pos : Pos} {ms mk : Env → Mo (List D)}
theorem m_n (cl : MakB c X.prog X.w X.K X.mg X.base k x C (n + 1) [] g f) (tk : Takes X W) (hr : Room j X.A) (hk : k + 1 ≤ j) (hg : Gl X x) (ha : PA X (e :: es) (tA c W ms)) (la : LenA n ms)
  (hdb : (x == ("__debug__" : Str)) = false := by decide) (he : starEach (e :: es) X.env = (false, eval e X.env) :: starEach es X.env := by rfl) (hpl : (backTo pos (starEach es X.env)).any (·.1) = false := by rfl) :
  PE X (.Call (.Name x p) (e :: es) [] pos) (tM c W (mkB C g f ms aNil)) := by
 obtain ⟨a, fd, ps, M, F, hm, b, hl⟩ := cl.ex
 refine ⟨fun pins s σ H Q I ⟨ρ, st, env, res, st', R, E, e0, Fn⟩ => ?_⟩
 refine wpAny_Call_Name_kw (ld_glob I hg hm ?_ hdb)
 refine PySem.W.callWith_K (h₀ := X.base) I.ok.mod.kin M.kp (thn (ha.run pos pins s σ H _ I (tX.bindL la R E e0 Fn fun ρ1 H1 st1 as vs s1 R1 E1 r1 l1 e1 F1 => show (∃ ρ st as, Rel c ρ st H1 ∧ RVs c ρ H1 vs as ∧ as.length = n ∧ mkD C g f as [] st = some (res, st') ∧ Fin c W σ ρ H1 res st' fun ρ' H' d => ∀ v, RV c ρ' H' v d → Q v H') from ⟨ρ1, st1, as, R1, r1, l1, e1, F1⟩)) fun us s1 ⟨vs, H1, I1, r, ρ1, st1, as, R1, ra, l1, e1, F1⟩ => ⟨I1.kIn, ?_⟩) he hpl
 exact run_mk (ks := []) (ws := []) M F (hr.mono hk) b hl tk I1 r .nil R1 ra .nil l1 rfl e1 F1
end
def raiS (C : Nat) : MS := fun env st => some (.er ⟨C, none⟩, env, st)
theorem s_rai {C : Nat} {x m : Str} {j : Nat} {p p2 pos pos2 : Pos} (e : ExcC X.K X.mg x (c.ca C)) (hc : X.calm = true) (tk : Takes X W) (hg : Gl X x) (hdb : (x == ("__debug__" : Str)) = false := by decide) :
  PS X (.Raise (some (.Call (.Name x p) [.Constant (.str m) j p2] [] pos)) none pos2) (tS c W (raiS C)) := (ps_raiseC e hc tk hg hdb).imp fun D σ H ⟨ρ, st, env, o, env', st', R, E, e, F⟩ => by
 cases e
 exact F ρ H σ .refl R E _ _ ⟨rfl, rfl⟩
end
end M
namespace G
open PySem PySem.Spec PyProof.Rows L2
def sortsT : List (Str × List Str) := [("clock", ["any"]), ("past", ["one", "one"]), ("ask", ["one", "one", "one", "name", "any", "any"]), ("stop", ["one", "one", "one"]), ("told", ["one", "one", "word", "any", "nought"]), ("piece", ["one", "one", "way", "nought", "any"]), ("shut", ["one", "one", "nought"]), ("room", ["one", "one", "way", "nought", "nought"])]
def sortsOf (k : Str) : Option (List Str) := lookS sortsT k
def wayL : List Str := ["in", "out"]
def wordL : List Str := ["done", "never", "stopped", "late"]
def isIn (ss : List Str) : PyData → Bool
 | .str s => decide (s ∈ ss)
 | _ => false
def isLeast (any : Bool) (n : Int) : PyData → Bool
 | .int i => any || decide (n ≤ i)
 | _ => false
def isPart (s : Str) (d : PyData) : Bool :=
 if s = "name" then isName d
 else if s = "way" then isIn wayL d
 else if s = "word" then isIn wordL d
 else isLeast (decide (s = "any")) (if s = "one" then 1 else 0) d
end G
set_option maxHeartbeats 2000000
namespace G
open PySem PySem.Spec PyProof.Rows
section
variable {prog : Program} {w : World} {A : Around} {E : Value → Shared → Prop} {s : Shared}
theorem unpackItems_listS {l : Addr} {items : Array Value} {n i : Nat} {Q : List Value → Shared → Prop} (hh : A.handled = none) (hl : s.heap.IsList l items) (hi : i < n) (hn : n ≤ items.size + 1) (hz : items.size ≤ sizeLine)
  (hQ : ∀ (h' : Heap) (tk : Nat), Heap.ExtBut s.heap.objs.size s.heap h' → Q (items.toList.take i ++ [.ref h'.objs.size] ++ (items.toList.drop i).drop (items.size + 1 - n)) { s with heap := h'.push { cls := .type "list", data := .seq ((items.toList.drop i).take (items.size + 1 - n)).toArray }, toks := tk }) : wpAny (model prog w) A (unpackItems (.ref l) n (some i)) Q E s := by
 have hlt : l ≠ s.heap.objs.size := by obtain ⟨o, ho, _⟩ := hl; exact Nat.ne_of_lt (Heap.lt_size ho)
 unfold unpackItems
 refine wpAny_bind ?_
 unfold notIterableAtAll
 refine wpAny_bind (wpAny_specialOf hl.typeIs slot_list_iter.lookup ?_)
 refine wpAny_pure ?_
 simp only [Bool.false_eq_true, if_false]
 refine wpAny_bind (wpAny_holding (wpAny_pyIter_list hl ?_))
 refine wpAny_bind (wpAny_holding (PySem.W.kun_draw hlt i 0 _ _ ⟨_, Heap.get?_push_size _ rfl, rfl, rfl⟩ (hl.push _) (by omega) fun h₁ hit₁ hs₁ => ?_))
 have hl₁ : h₁.IsList l items := (hl.push _).extBut hs₁.extBut hlt
 rw [Nat.zero_add] at hit₁
 have hit₁' := hit₁
 obtain ⟨oi, hoi, _⟩ := hit₁'
 have hl₁' := hl₁
 obtain ⟨ol, hol, _⟩ := hl₁'
 rw [List.drop_zero]
 have hfl : (items.toList.take i).length = i := by rw [List.length_take, Array.length_toList]; omega
 rw [if_neg (show ¬ ((items.toList.take i).length < i) by rw [hfl]; omega)]
 refine wpAny_bind (wpAny_holding (PySem.W.kun_collect (s := { s with heap := h₁ }) (T := "list_iterator") (.inr (.inr (.inl rfl))) (Walks.list (A := A.in1) hh s.heap.objs.size l hlt items) (fun j u st => st.1.typeIs) (k := i) (by omega) ⟨hit₁, hl₁⟩ (Heap.lt_size hoi) (Heap.lt_size hol) (fun h₂ tk hk => ?_) hz))
 have hrl : (items.toList.drop i).length = items.size - i := by rw [List.length_drop, Array.length_toList]
 have hmid : (items.toList.drop i).length - (n - 1 - i) = items.size + 1 - n := by rw [hrl]; omega
 show wpAny _ _ (if (items.toList.drop i).length < n - 1 - i then _ else _) _ _ _
 rw [if_neg (by rw [hrl]; omega)]
 show wpAny _ _ (newList ((items.toList.drop i).take ((items.toList.drop i).length - (n - 1 - i))) >>= fun d => pure (items.toList.take i ++ [d] ++ (items.toList.drop i).drop ((items.toList.drop i).length - (n - 1 - i)))) _ _ _
 rw [hmid]
 refine wpAny_bind (wpAny_newList ?_)
 refine wpAny_pure ?_
 exact hQ h₂ tk fun b o hb e => hk b o hb (hs₁.extBut b o hb (Heap.get?_push_of_some _ e))
end
end G
namespace L2
open PySem PySem.Spec PyProof.Rows
section
variable {X : Cx} {pos : Pos}
def gStarL (K : PySem.W.Frag) (n i : Nat) (t : TGs) : TG := fun v σ H Q => ∃ a xs, v = .ref a ∧ SqL K H a xs ∧ n ≤ xs.length + 1 ∧ ∀ r, H r = none → t (xs.take i ++ [.ref r] ++ (xs.drop i).drop (xs.length + 1 - n)) σ (upd H r (.lst ((xs.drop i).take (xs.length + 1 - n)))) Q
theorem pgs_starC {e : Expr} {es : List Expr} {p : Pos} {t : TG} {u : TGs} (h1 : PG X e t) (h2 : PGs X es u)
  (hs : (assignEach (.Starred e p :: es) X.env).map (·.2) = assign e X.env :: (assignEach es X.env).map (·.2) := by rfl) : PGs X (.Starred e p :: es) (gCons t u) := by
 refine ⟨fun pins s σ H vs us Q I r h => ?_⟩
 obtain ⟨v, vr, e1, h⟩ := h
 subst e1
 cases r with
 | cons r rr =>
  rw [hs]
  refine assignInOrder_cons (thn (h1.run pins s σ H _ _ _ I r h) fun _ s1 ⟨σ1, H1, I1, q1⟩ => ?_)
  exact h2.run pins s1 σ1 H1 _ _ Q I1 rr q1
theorem pg_starL {es : List Expr} {j : Nat} {t : TGs} (K : PySem.W.Frag) (n i : Nat) (hc : X.calm = true) (h : PGs X es t) (hi : i < n := by decide) (hn : (assignEach es X.env).length = n := by rfl) (hst : (assignEach es X.env).findIdx? (·.1) = some i := by rfl) (hK : X.K = K := by rfl) : PG X (.Tuple es j pos) (gStarL K n i t) := by
 subst hK
 refine ⟨fun pins s σ H v u Q I r hw => ?_⟩
 obtain ⟨a, xs, e1, hq, hl, hw⟩ := hw
 subst e1
 cases r
 obtain ⟨its, rv, ht, hz⟩ := I.list hq
 rw [PyProof.Rows.assign_Tuple]
 refine wpAny_bind (wpAny_standAt ?_)
 unfold unpack
 rw [hn, hst]
 have hlen := rv.length
 have hsz : its.toArray.size = xs.length := by rw [List.size_toArray]; omega
 refine wpAny_bind (wpAny_holding (G.unpackItems_listS (I.ok.hd hc) ht.isList hi (by rw [hsz]; exact hl) (by rw [hsz]; exact hz) fun h' tk hx => ?_))
 rw [hsz]
 have I1 : Inv X pins σ H { s with heap := h', toks := tk } := I.kept (t' := tk) fun b o e => hx b o (Nat.ne_of_lt (Heap.lt_size e)) e
 have I2 := I1.lnew (ys := (xs.drop i).take (xs.length + 1 - n)) (its := (its.drop i).take (xs.length + 1 - n)) (t' := tk) (vals_take _ (vals_drop i rv)) (by rw [List.length_take, List.length_drop]; omega)
 exact h.run pins _ σ _ (xs.take i ++ [.ref h'.objs.size] ++ (xs.drop i).drop (xs.length + 1 - n)) _ Q I2 (((vals_take i rv).append (show Vals [V.ref h'.objs.size] [Value.ref h'.objs.size] from .cons rfl .nil)).append (vals_drop _ (vals_drop i rv))) (hw _ I1.fresh)
def gFld (K : PySem.W.Frag) (ta : TE) (f : Str) : TG := fun v σ H Q => ta σ H fun x H1 => G.rSFld K f x v H1 fun H2 => Q σ H2
theorem pg_fld {o : Expr} {ta : TE} {f : Str} {p : Pos} (K : PySem.W.Frag) (ha : PE X o ta) (hK : X.K = K := by rfl) : PG X (.Attribute o f p) (gFld K ta f) := by
 subst hK
 refine ⟨fun pins s σ H v u Q I r h => ?_⟩
 rw [PySem.assign_Attribute]
 refine wpAny_bind (wpAny_holding (thn (ha.run pins s σ H _ I h) fun ov s1 ⟨x, H1, I1, r1, a, C, dx, fs, ex, ea, c, n, l, q⟩ => ?_))
 subst ex
 obtain rfl : ov = Value.ref a := r1
 exact wpAny_bind (wpAny_standAt (wpAny_bind (wpAny_holding (setattr_ok I1 ea c n l r fun s2 I2 => wpAny_release ⟨σ, _, I2, q⟩))))
end
end L2
set_option maxHeartbeats 4000000
namespace PySem.W.KIN
open PySem PySem.Calls PySem.NumText PyProof.Rows
theorem wp_textBig {M : Model} {A : Around} {E : Value → Shared → Prop} {s : Shared} {Q : Value → Shared → Prop} {v : Value} {text : List Nat} {n : Int} (hn : s.heap.NoDigits)
  (hs : ¬ (text.takeWhile (· != 0)).length ≤ 640) (hr : (int_private% "readNumeral") 4300 10 (text.takeWhile (· != 0)) = (int_private% "Numeral.value") n)
  (ha : ((text.takeWhile (· != 0)).length == text.length) = true) (h : Q (.int n s.toks) { s with toks := s.toks + 1 }) :
  wpAny M A ((int_private% "intFromText") v text 10) Q E s := by
 obtain ⟨hp, g, d, tk, os⟩ := s
 obtain ⟨mc, hns, hnone⟩ := hn
 have hlim : ∀ {Q' : Nat → Shared → Prop}, Q' 4300 ⟨hp, g, d, tk, os⟩ → wpAny M A Builtin.intMaxStrDigits Q' E ⟨hp, g, d, tk, os⟩ := by
  intro Q' q
  unfold Builtin.intMaxStrDigits
  refine wpAny_bind (wpAny_nsGet hns ?_)
  rw [hnone]
  exact wpAny_pure q
 repeat (any_goals (first
  | assumption
  | (with_reducible refine wpAny_ite_false (decide_eq_false hs) ?_)
  | (with_reducible refine wpAny_ite_true (decide_eq_true ha) ?_)
  | (with_reducible refine hlim ?_)
  | wp_step))
 all_goals (try rw [hr])
 all_goals (try dsimp only)
 repeat (any_goals (first
  | assumption
  | (with_reducible refine wpAny_ite_true (decide_eq_true ha) ?_)
  | wp_step))
end PySem.W.KIN
namespace PySem.W.KIN
open PySem PySem.Calls PySem.NumText PyProof.Rows
theorem meets_textBig {x : PySem.Str} {u : Tok} {n : Int} (hl : x.length ≤ 4300) (hn : PySem.intText? x = some n) : Meets (Builtin.«int.__new__» ⟨[.type "int", .str x u], []⟩) (fun _ R s => s.heap.NoDigits ∧ R (.ok (.ret (.int n s.toks))) { s with toks := s.toks + 1 }) :=
 Meets.of_wp fun prog w A R s ⟨hND, h⟩ => by
  obtain ⟨hp, g, d, tk, os⟩ := s
  have key : Hid (∀ {M : Model} {A : Around} {E : Value → Shared → Prop} {v : Value} {Q : Value → Shared → Prop}, Q (.int n tk) ⟨hp, g, d, tk + 1, os⟩ → wpAny M A ((int_private% "intFromText") v (numTextOf x) 10) Q E ⟨hp, g, d, tk, os⟩) := by
   refine ⟨?_⟩
   intro M A E v Q q
   by_cases hs : (numSeenOf x).length ≤ 640
   ·rcases read0 x hs with ⟨m, h1, h2, h3⟩ | ⟨h1, _⟩
    ·rw [hn] at h1
     injection h1 with h1
     subst h1
     exact wp_text hs h3 h2 q
    ·rw [hn] at h1
     cases h1
   ·rcases read4300 x (Nat.le_trans hl (by decide)) with ⟨m, h1, h2, h3⟩ | ⟨h1, _⟩
    ·rw [hn] at h1
     injection h1 with h1
     subst h1
     exact wp_textBig hND hs h3 h2 q
    ·rw [hn] at h1
     cases h1
  have f1 := F.conv_sub_int
  have f2 := F.madeHere_int
  have f3 := str_int
  have f4 := str_idx
  have f5 := str_trunc
  have f6 : typeOf (.str x u) = pure (.type "str") := rfl
  clear hn hl hND
  repeat (any_goals (first
   | assumption
   | ((with_reducible show wpAny _ _ ((int_private% "intFromText") _ _ _) _ _ _); refine key.out ?_)
   | wp_step))
  all_goals first | exact ⟨_, rfl, h⟩ | skip
theorem call_textBig {prog : Program} {w : World} {A : Around} {E : Value → Shared → Prop} {s : Shared} {Q : Value → Shared → Prop} {x : PySem.Str} {t : Tok} {n : Int} (hND : s.heap.NoDigits) (hn : PySem.intText? x = some n) (hl : x.length ≤ 4300) (h : Q (.int n s.toks) { s with toks := s.toks + 1 }) : wpAny (model prog w) A (call (.type "int") [.str x t]) Q E s :=
 call_int_1 (meets_textBig hl hn) ⟨hND, ⟨rfl, h⟩⟩
end PySem.W.KIN
namespace G
open PySem PySem.Spec PyProof.Rows L2
def StatK (K : PySem.W.Frag) : Prop := ∃ c d es n sl, K.lookup cStatics = some ⟨c, d, .dict es n, sl⟩ ∧ (∀ e ∈ es.toList, ∃ x t, e.key = .str x t) ∧ PySem.W.nsIn K cStatics "sys.int_max_str_digits" = some none
theorem stat_digits {K : PySem.W.Frag} {h : Heap} (hS : StatK K) (X : K.In h) : h.NoDigits := by
 obtain ⟨c, d, es, n, sl, hl, hk, hz⟩ := hS
 refine ⟨fun z => nsFind es z, ⟨_, es, n, X _ _ hl, rfl, fun e he => hk e (by simpa using he), fun _ => rfl⟩, ?_⟩
 unfold PySem.W.nsIn at hz
 rw [hl] at hz
 dsimp only at hz
 split at hz
 ·cases hz
 ·rename_i hf
  show nsFind es _ = none
  unfold nsFind findBy
  rw [← Array.find?_toList, hf]
  first | done | rfl
def rIntBig : List V → Hp → VK → Prop := fun xs H Q => ∃ (a : Str) (n : Int), xs = [.str a] ∧ PySem.intText? a = some n ∧ a.length ≤ 4300 ∧ Q (.int n) H
theorem cl_intBig {X : Cx} (K : PySem.W.Frag) (hS : StatK K) (hK : X.K = K := by rfl) : CallR X (.type "int") rIntBig := by
 subst hK
 intro pins s σ H xs us Q I r ⟨a, n, ex, hn, hl, q⟩
 subst ex
 obtain ⟨u, rfl, rx⟩ := vals1 r
 obtain ⟨t, rfl⟩ := rx
 exact PySem.W.KIN.call_textBig (stat_digits hS I.kIn) hn hl ⟨.int n, H, I.tok _, ⟨_, rfl⟩, q⟩
end G
namespace M
open PySem PySem.Spec PyProof.Rows L2 G
variable {c : MC}
abbrev LINE : Nat := 1000000
theorem line_le : LINE ≤ sizeLine := by decide
section
variable {W : Wx} {σ : L2.St} {ρ ρ1 ρ' : List Addr} {H H1 H' : Hp} {st st1 st' : Sto} {env env' : Env} {X : Cx} {Q : VK}
def alt (f g : D → D → Mo D) : D → D → Mo D := fun a b st => match f a b st with
 | none => g a b st
 | r => r
theorem OpC.or {f g : D → D → Mo D} {r1 r2 : R2} (h1 : OpC c f r1) (h2 : OpC c g r2) : OpC c (alt f g) (fun x y H Q => r1 x y H Q ∨ r2 x y H Q) := fun {W σ ρ st st' H x y a b res Q} R rx ry e F => by
 unfold alt at e
 cases hf : f a b st with
 | none => rw [hf] at e; exact .inr (h2 R rx ry e F)
 | some p => rw [hf] at e; cases e; exact .inl (h1 R rx ry hf F)
def lstOf (d : D) (st : Sto) : Option (List D) := match d with
 | .ref n => match st[n]? with
  | some (.lst xs) => some xs
  | some (.lk (.lst xs)) => some xs
  | _ => none
 | .scr ns => some (ns.map .int)
 | _ => none
theorem rvs_ints : ∀ ns : List Int, RVs c ρ H (ns.map V.int) (ns.map D.int)
 | [] => .nil
 | n :: r => .cons (.int n) (rvs_ints r)
theorem lstOf_inv {d : D} {x : V} {xs : List D} (R : Rel c ρ st H) (r : RV c ρ H x d) (h : lstOf d st = some xs) : ∃ a us, x = .ref a ∧ SqL c.K H a us ∧ RVs c ρ H us xs := by
 cases r with
 | scr hs => cases h; exact ⟨_, _, rfl, hs.sq, rvs_ints _⟩
 | @ref a n hn =>
  unfold lstOf at h
  obtain ⟨o, ho⟩ := Rel.at (R := R) hn
  obtain ⟨b, ob, h1, h2, h3⟩ := R.ob n o ho
  rw [hn] at h1; cases h1
  dsimp only at h
  rw [ho] at h
  cases h3 with
  | un h3 => cases h3 with
   | lst hv => cases h; exact ⟨_, _, rfl, .of h2, hv⟩
   | _ => cases h
  | lk h3 => cases h3 with
   | lst hv => cases h; exact ⟨_, _, rfl, .inl (.inr ⟨_, h2⟩), hv⟩
   | _ => cases h
 | _ => cases h
theorem lst_at {n : Nat} {x : V} {xs : List D} (R : Rel c ρ st H) (r : RV c ρ H x (.ref n)) (h : st[n]? = some (.lst xs)) : ∃ a us, x = .ref a ∧ ρ[n]? = some a ∧ H a = some (.lst us) ∧ RVs c ρ H us xs := by
 cases r with
 | @ref a n hn =>
  obtain ⟨b, ob, h1, h2, h3⟩ := R.ob n _ h
  rw [hn] at h1; cases h1
  cases h3 with
  | un h3 => cases h3 with
   | lst hv => exact ⟨a, _, rfl, hn, h2, hv⟩
def tupOf : D → Option (List D)
 | .tup xs => some xs
 | .kt xs => some xs
 | _ => none
theorem tup_inv {d : D} {x : V} {xs : List D} (r : RV c ρ H x d) (h : tupOf d = some xs) : ∃ a us, x = .ref a ∧ SqT c.K H a us ∧ RVs c ρ H us xs := by
 cases r with
 | tup ha hs => cases h; exact ⟨_, _, rfl, SqT.of ha.1, hs⟩
 | kt ha hs => cases h; exact ⟨_, _, rfl, ha.sq, hs⟩
 | _ => cases h
def addI : D → D → Mo D
 | .int i, .int j => ret (.int (i + j))
 | .str a, .str b => if a.length + b.length ≤ LINE then ret (.str (a ++ b)) else stuck
 | _, _ => stuck
theorem c_addI : OpC c addI (fun x y H Q => rI0 (fun i j => .int (i + j)) x y H Q ∨ G.rAddS x y H Q) := fun {W σ ρ st st' H x y a b res Q} R rx ry e F => by
 cases rx with
 | int i => cases ry with
  | int j => cases e; exact .inl ⟨i, j, rfl, rfl, F.ok .refl R _ (.int _)⟩
  | _ => cases e
 | str s => cases ry with
  | str t =>
   unfold addI at e
   dsimp only at e
   by_cases h : s.length + t.length ≤ LINE
   ·rw [if_pos h] at e; cases e; exact .inr ⟨s, t, rfl, rfl, Nat.le_trans h line_le, F.ok .refl R _ (.str _)⟩
   ·rw [if_neg h] at e; cases e
  | _ => cases e
 | _ => cases ry <;> cases e
def addTup : D → D → Mo D := fun a b st => match tupOf a, tupOf b with
 | some xs, some ys => if xs.length + ys.length ≤ LINE then match xs, ys with
   | [], _ => some (.ok b, st)
   | _, [] => some (.ok a, st)
   | xs, ys => some (.ok (.tup (xs ++ ys)), st)
  else none
 | _, _ => none
def addLst : D → D → Mo D
 | .ref m, .ref n => fun st => match st[m]?, st[n]? with
  | some (.lst xs), some (.lst ys) => if xs.length + ys.length ≤ LINE then some (.ok (.ref st.length), st ++ [.lst (xs ++ ys)]) else none
  | _, _ => none
 | _, _ => stuck
theorem c_addLst : OpC c addLst rCat := fun {W σ ρ st st' H x y a b res Q} R rx ry e F => by
  cases a with
  | ref m => cases b with
   | ref n =>
    unfold addLst at e
    dsimp only at e
    cases hm : st[m]? with
    | none => rw [hm] at e; cases e
    | some o => cases o with
     | lst xs => cases hn : st[n]? with
      | none => rw [hm, hn] at e; cases e
      | some o => cases o with
       | lst ys =>
        rw [hm, hn] at e
        dsimp only at e
        by_cases h : xs.length + ys.length ≤ LINE
        ·rw [if_pos h] at e
         cases e
         obtain ⟨a, us, rfl, _, ha, hu⟩ := lst_at R rx hm
         obtain ⟨b, ws, rfl, _, hb, hw⟩ := lst_at R ry hn
         refine ⟨a, b, us, ws, rfl, rfl, ha, hb, by rw [hu.length, hw.length]; exact Nat.le_trans h line_le, fun p hp => ?_⟩
         obtain ⟨R', T, r⟩ := R.new hp (.lst (hu.app hw))
         exact F.ok T R' _ r
        ·rw [if_neg h] at e; cases e
       | _ => rw [hm, hn] at e; cases e
     | _ => rw [hm] at e; cases hn : st[n]? <;> rw [hn] at e <;> cases e
   | _ => cases e
  | _ => cases e
theorem c_addTup : OpC c addTup (rCatA c.K) := fun {W σ ρ st st' H x y a b res Q} R rx ry e F => by
 unfold addTup at e
 cases ha : tupOf a with
 | none => rw [ha] at e; cases e
 | some xs => cases hb : tupOf b with
  | none => rw [ha, hb] at e; cases e
  | some ys =>
   rw [ha, hb] at e
   dsimp only at e
   obtain ⟨p, us, rfl, hp, hu⟩ := tup_inv rx ha
   obtain ⟨q, ws, rfl, hq, hw⟩ := tup_inv ry hb
   by_cases h : xs.length + ys.length ≤ LINE
   ·rw [if_pos h] at e
    refine ⟨p, q, us, ws, rfl, rfl, hp, hq, by rw [hu.length, hw.length]; exact Nat.le_trans h line_le, fun e2 => ?_, fun n1 e2 => ?_, fun n1 n2 r hr => ?_⟩
    ·subst e2
     cases hu
     cases e
     exact F.ok .refl R _ ry
    ·subst e2
     cases hw
     cases hu with
     | nil => exact absurd rfl n1
     | cons _ _ => cases e; exact F.ok .refl R _ rx
    ·cases hu with
     | nil => exact absurd rfl n1
     | cons h1 h2 => cases hw with
      | nil => exact absurd rfl n2
      | cons h3 h4 =>
       cases e
       obtain ⟨R', T, r⟩ := R.tup hr (RVs.app (.cons h1 h2) (.cons h3 h4))
       exact F.ok T R' _ r
   ·rw [if_neg h] at e; cases e
def addD : D → D → Mo D := alt addI (alt addLst addTup)
theorem c_add : OpC c addD (fun x y H Q => (rI0 (fun i j => .int (i + j)) x y H Q ∨ G.rAddS x y H Q) ∨ rCat x y H Q ∨ rCatA c.K x y H Q) := OpC.or c_addI (OpC.or c_addLst c_addTup)
theorem o_add (hK : X.K = c.K := by rfl) : OpR X (binaryOp .Add) (fun x y H Q => (rI0 (fun i j => .int (i + j)) x y H Q ∨ G.rAddS x y H Q) ∨ rCat x y H Q ∨ rCatA c.K x y H Q) := OpR.or (OpR.or op_add G.op_addS) (OpR.or op_cat (op_catAK c.K hK))
def intOp (C : Int → Int → Bool) (g : Int → Int → D) : D → D → Mo D
 | .int i, .int j => if C i j then ret (g i j) else stuck
 | _, _ => stuck
theorem c_intOp {C : Int → Int → Bool} {C' : Int → Int → Prop} {g : Int → Int → D} {g' : Int → Int → V} (hC : ∀ i j, C i j = true → C' i j) (hg : ∀ i j ρ H, RV c ρ H (g' i j) (g i j)) : OpC c (intOp C g) (rI C' g') := fun {W σ ρ st st' H x y a b res Q} R rx ry e F => by
 cases rx with
 | int i => cases ry with
  | int j =>
   unfold intOp at e
   dsimp only at e
   by_cases h : C i j = true
   ·rw [if_pos h] at e; cases e; exact ⟨i, j, rfl, rfl, hC i j h, F.ok .refl R _ (hg i j _ _)⟩
   ·rw [if_neg h] at e; cases e
  | _ => cases e
 | _ => cases ry <;> cases e
theorem c_intOp0 {g : Int → Int → D} {g' : Int → Int → V} (hg : ∀ i j ρ H, RV c ρ H (g' i j) (g i j)) : OpC c (intOp (fun _ _ => true) g) (rI0 g') := fun {W σ ρ st st' H x y a b res Q} R rx ry e F => by
 cases rx with
 | int i => cases ry with
  | int j => cases e; exact ⟨i, j, rfl, rfl, F.ok .refl R _ (hg i j _ _)⟩
  | _ => cases e
 | _ => cases ry <;> cases e
def subI := intOp (fun _ _ => true) fun i j => .int (i - j)
def mulI := intOp (fun i j => decide (i.natAbs.log2 + j.natAbs.log2 < 1000000)) fun i j => .int (i * j)
def modI := intOp (fun _ j => decide (0 < j)) fun i j => .int (i % j)
def divI := intOp (fun _ j => decide (0 < j ∧ j.natAbs.log2 < 9000)) fun i j => .int (i / j)
def ltI := intOp (fun _ _ => true) fun i j => .bl (decide (i < j))
def leI := intOp (fun _ _ => true) fun i j => .bl (decide (i ≤ j))
def gtI := intOp (fun _ _ => true) fun i j => .bl (decide (j < i))
def geI := intOp (fun _ _ => true) fun i j => .bl (decide (j ≤ i))
theorem c_sub : OpC c subI (rI0 fun i j => .int (i - j)) := c_intOp0 fun _ _ _ _ => .int _
theorem c_mul : OpC c mulI (rI CMulW fun i j => .int (i * j)) := c_intOp (fun _ _ h => of_decide_eq_true h) fun _ _ _ _ => .int _
theorem c_div : OpC c divI (rI CDivW fun i j => .int (i / j)) := c_intOp (fun _ _ h => of_decide_eq_true h) fun _ _ _ _ => .int _
theorem c_mod : OpC c modI (rI (fun _ j => 0 < j) fun i j => .int (i % j)) := c_intOp (fun _ _ h => of_decide_eq_true h) fun _ _ _ _ => .int _
def powI := intOp (fun i j => decide (0 ≤ j ∧ j ≤ 1000000 ∧ i.natAbs < 2 ^ 64)) fun i j => .int (i ^ j.toNat)
theorem c_pow : OpC c powI (rI CPow fun i j => .int (i ^ j.toNat)) := c_intOp (fun _ _ h => of_decide_eq_true h) fun _ _ _ _ => .int _
theorem c_lt : OpC c ltI (rI0 fun i j => .bl (decide (i < j))) := c_intOp0 fun _ _ _ _ => .bl _
theorem c_gt : OpC c gtI (rI0 fun i j => .bl (decide (j < i))) := c_intOp0 fun _ _ _ _ => .bl _
theorem c_ge : OpC c geI (rI0 fun i j => .bl (decide (j ≤ i))) := c_intOp0 fun _ _ _ _ => .bl _
def negI : D → Mo D
 | .int i => ret (.int (-i))
 | .bl b => ret (.int (-(b01 b)))
 | _ => stuck
theorem c_neg : UnC c negI rNegN := fun {W σ ρ st st' H x a res Q} R rx e F => by
 cases rx with
 | int i => cases e; exact .inl ⟨i, rfl, F.ok .refl R _ (.int _)⟩
 | bl b => cases e; exact .inr ⟨b, rfl, F.ok .refl R _ (.int _)⟩
 | _ => cases e
def sEq : D → D → Option Bool
 | .non, .non => some true
 | .int i, .int j => some (decide (i = j))
 | .bl a, .bl b => some (decide (a = b))
 | .str a, .str b => some (decide (a = b))
 | .non, .int _ => some false | .int _, .non => some false | .non, .bl _ => some false | .bl _, .non => some false | .non, .str _ => some false | .str _, .non => some false
 | .int _, .str _ => some false | .str _, .int _ => some false | .bl _, .str _ => some false | .str _, .bl _ => some false
 | _, _ => none
theorem sEq_inv {x y : V} {a b : D} {k : Bool} (rx : RV c ρ H x a) (ry : RV c ρ H y b) (h : sEq a b = some k) : scal x y = true ∧ decide (x = y) = k := by
 cases rx <;> cases ry <;> cases h <;> first
  | exact ⟨rfl, decide_eq_false fun e => nomatch e⟩
  | exact ⟨rfl, decide_eq_true rfl⟩
  | (refine ⟨rfl, ?_⟩; simp)
mutual
def toP : Nat → Sto → D → Option PyData
 | 0, _, _ => none
 | n + 1, st, d => match d with
  | .non => some .none
  | .bl b => some (.bool b)
  | .int i => some (.int i)
  | .str s => some (.str s)
  | .tup xs => (toPs n st xs).map PyData.tuple
  | .kt xs => (toPs n st xs).map PyData.tuple
  | .ref k => match st[k]? with
   | some (.lst xs) => (toPs n st xs).map PyData.list
   | _ => none
  | .scr ns => (toPs n st (ns.map D.int)).map PyData.list
  | _ => none
def toPs : Nat → Sto → List D → Option (List PyData)
 | 0, _, _ => none
 | _ + 1, _, [] => some []
 | n + 1, st, d :: r => match toP n st d, toPs n st r with
  | some p, some ps => some (p :: ps)
  | _, _ => none
end
mutual
theorem toP_dp (R : Rel c ρ st H) : ∀ (n : Nat) {x : V} {d : D} {p : PyData}, RV c ρ H x d → toP n st d = some p → Dp c.K H x p
 | 0, _, _, _, _, h => by unfold toP at h; cases h
 | n + 1, x, d, p, r, h => by
  unfold toP at h
  cases d with
  | non => cases h; cases r; exact .non
  | bl b => cases h; cases r; exact .bl b
  | int i => cases h; cases r; exact .int i
  | str s => cases h; cases r; exact .str s
  | tup xs =>
   dsimp only at h
   obtain ⟨ps, hp, rfl⟩ := Option.map_eq_some_iff.mp h
   obtain ⟨a, us, rfl, ha, hu⟩ := tup_inv r rfl
   exact .tup ha (toPs_dp R n hu hp)
  | kt xs =>
   dsimp only at h
   obtain ⟨ps, hp, rfl⟩ := Option.map_eq_some_iff.mp h
   obtain ⟨a, us, rfl, ha, hu⟩ := tup_inv r rfl
   exact .tup ha (toPs_dp R n hu hp)
  | ref k =>
   dsimp only at h
   cases hk : st[k]? with
   | none => rw [hk] at h; cases h
   | some o => cases o with
    | lst xs =>
     rw [hk] at h
     obtain ⟨ps, hp, rfl⟩ := Option.map_eq_some_iff.mp h
     obtain ⟨a, us, rfl, _, ha, hu⟩ := lst_at R r hk
     exact .lst (.of ha) (toPs_dp R n hu hp)
    | _ => rw [hk] at h; cases h
  | scr ns =>
   dsimp only at h
   obtain ⟨ps, hp, rfl⟩ := Option.map_eq_some_iff.mp h
   cases r with
   | scr hs => exact .lst hs.sq (toPs_dp R n (rvs_ints ns) hp)
  | _ => cases h
theorem toPs_dp (R : Rel c ρ st H) : ∀ (n : Nat) {us : List V} {ds : List D} {ps : List PyData}, RVs c ρ H us ds → toPs n st ds = some ps → DpAll c.K H us ps
 | 0, _, _, _, _, h => by unfold toPs at h; cases h
 | n + 1, us, ds, ps, r, h => by
  unfold toPs at h
  cases r with
  | nil => cases h; exact .nil
  | @cons v d vs ds hv ht =>
   dsimp only at h
   cases h1 : toP n st d with
   | none => rw [h1] at h; cases h
   | some p => cases h2 : toPs n st ds with
    | none => rw [h1, h2] at h; cases h
    | some qs =>
     rw [h1, h2] at h
     cases h
     exact .cons (toP_dp R n hv h1) (toPs_dp R n ht h2)
end
def DEEP : Nat := 100000
def eqD : D → D → Mo D := fun a b st => match sEq a b with
 | some k => some (.ok (.bl k), st)
 | none => match toP DEEP st a, toP DEEP st b with
  | some p, some q => if SeqAt.shaped p && SeqAt.shaped q then some (.ok (.bl (PyData.eqv p q)), st) else none
  | _, _ => none
def neD : D → D → Mo D := fun a b st => match sEq a b with
 | some k => some (.ok (.bl (!k)), st)
 | none => match toP DEEP st a, toP DEEP st b with
  | some p, some q => if SeqAt.shaped p && SeqAt.shaped q then some (.ok (.bl (!PyData.eqv p q)), st) else none
  | _, _ => none
theorem eq_core {a b : D} {x y : V} {F : Bool → D} {res : M.R D} (R : Rel c ρ st H) (rx : RV c ρ H x a) (ry : RV c ρ H y b) (e : (match toP DEEP st a, toP DEEP st b with
  | some p, some q => if SeqAt.shaped p && SeqAt.shaped q then (some (.ok (F (PyData.eqv p q)), st) : Option (M.R D × Sto)) else none
  | _, _ => none) = some (res, st')) : ∃ p q, Dp c.K H x p ∧ Dp c.K H y q ∧ SeqAt.shaped p = true ∧ SeqAt.shaped q = true ∧ res = .ok (F (PyData.eqv p q)) ∧ st' = st := by
 cases h1 : toP DEEP st a with
 | none => rw [h1] at e; cases e
 | some p => cases h2 : toP DEEP st b with
  | none => rw [h1, h2] at e; cases e
  | some q =>
   rw [h1, h2] at e
   dsimp only at e
   by_cases hs : (SeqAt.shaped p && SeqAt.shaped q) = true
   ·rw [if_pos hs] at e
    cases e
    rw [Bool.and_eq_true] at hs
    exact ⟨p, q, toP_dp R _ rx h1, toP_dp R _ ry h2, hs.1, hs.2, rfl, rfl⟩
   ·rw [if_neg hs] at e; cases e
theorem c_eq : OpC c eqD (fun x y H Q => rEq x y H Q ∨ rEqD c.K x y H Q) := fun {W σ ρ st st' H x y a b res Q} R rx ry e F => by
 unfold eqD at e
 cases hs : sEq a b with
 | some k =>
  rw [hs] at e; cases e
  obtain ⟨h1, h2⟩ := sEq_inv rx ry hs
  exact .inl ⟨h1, by rw [h2]; exact F.ok .refl R _ (.bl _)⟩
 | none =>
  rw [hs] at e
  obtain ⟨p, q, h1, h2, h3, h4, rfl, rfl⟩ := eq_core (F := D.bl) R rx ry e
  exact .inr ⟨p, q, h1, h2, h3, h4, F.ok .refl R _ (.bl _)⟩
theorem c_ne : OpC c neD (fun x y H Q => rNe x y H Q ∨ rNeD c.K x y H Q) := fun {W σ ρ st st' H x y a b res Q} R rx ry e F => by
 unfold neD at e
 cases hs : sEq a b with
 | some k =>
  rw [hs] at e; cases e
  obtain ⟨h1, h2⟩ := sEq_inv rx ry hs
  exact .inl ⟨h1, by rw [h2]; exact F.ok .refl R _ (.bl _)⟩
 | none =>
  rw [hs] at e
  obtain ⟨p, q, h1, h2, h3, h4, rfl, rfl⟩ := eq_core (F := fun b => D.bl (!b)) R rx ry e
  exact .inr ⟨p, q, h1, h2, h3, h4, F.ok .refl R _ (.bl _)⟩
def isN : D → D → Mo D
 | .non, .non => ret (.bl true)
 | .bl a, .bl b => ret (.bl (decide (a = b)))
 | .bl _, .non => ret (.bl false) | .int _, .non => ret (.bl false) | .str _, .non => ret (.bl false) | .tup _, .non => ret (.bl false) | .ref _, .non => ret (.bl false) | .scr _, .non => ret (.bl false) | .kd _, .non => ret (.bl false) | .fn _, .non => ret (.bl false) | .exc _ _, .non => ret (.bl false) | .kt _, .non => ret (.bl false)
 | _, _ => stuck
def niN : D → D → Mo D
 | .non, .non => ret (.bl false)
 | .bl a, .bl b => ret (.bl (!decide (a = b)))
 | .bl _, .non => ret (.bl true) | .int _, .non => ret (.bl true) | .str _, .non => ret (.bl true) | .tup _, .non => ret (.bl true) | .ref _, .non => ret (.bl true) | .scr _, .non => ret (.bl true) | .kd _, .non => ret (.bl true) | .fn _, .non => ret (.bl true) | .exc _ _, .non => ret (.bl true) | .kt _, .non => ret (.bl true)
 | _, _ => stuck
theorem c_is : OpC c isN (fun x y H Q => rIsN x y H Q ∨ rIsB x y H Q) := fun {W σ ρ st st' H x y a b res Q} R rx ry e F => by
 cases ry with
 | non => refine .inl ⟨rfl, ?_⟩; cases rx <;> cases e <;> exact F.ok .refl R _ (by first | exact .bl _)
 | bl b => cases rx with
  | bl a => cases e; exact .inr ⟨a, b, rfl, rfl, F.ok .refl R _ (.bl _)⟩
  | _ => cases e
 | _ => cases rx <;> cases e
theorem c_isnot : OpC c niN (fun x y H Q => rNotN x y H Q ∨ rNotB x y H Q) := fun {W σ ρ st st' H x y a b res Q} R rx ry e F => by
 cases ry with
 | non => refine .inl ⟨rfl, ?_⟩; cases rx <;> cases e <;> exact F.ok .refl R _ (by first | exact .bl _)
 | bl b => cases rx with
  | bl a => cases e; exact .inr ⟨a, b, rfl, rfl, F.ok .refl R _ (.bl _)⟩
  | _ => cases e
 | _ => cases rx <;> cases e
end
end M
namespace M
open PySem PySem.Spec PyProof.Rows L2 G
variable {c : MC}
section
variable {W : Wx} {σ : L2.St} {ρ ρ1 ρ' : List Addr} {H H1 H' : Hp} {st st1 st' : Sto} {env env' : Env} {X : Cx} {Q : VK}
def keyOf : D → Option Key
 | .int i => some (.inl i)
 | .str s => some (.inr s)
 | _ => none
def keysOf : List D → Option (List Key)
 | [] => some []
 | d :: r => match keyOf d, keysOf r with
  | some k, some ks => some (k :: ks)
  | _, _ => none
theorem keyOf_inv {d : D} {x : V} {k : Key} (r : RV c ρ H x d) (h : keyOf d = some k) : x = kV k := by
 cases r <;> cases h <;> rfl
theorem keysOf_inv : ∀ {ds : List D} {us : List V} {ks : List Key}, RVs c ρ H us ds → keysOf ds = some ks → us = ks.map kV
 | [], _, _, .nil, h => by cases h; rfl
 | d :: r, _, _, .cons h1 h2, h => by
  unfold keysOf at h
  cases hk : keyOf d with
  | none => rw [hk] at h; cases h
  | some k => cases hks : keysOf r with
   | none => rw [hk, hks] at h; cases h
   | some ks =>
    rw [hk, hks] at h; cases h
    rw [keyOf_inv h1 hk, keysOf_inv h2 hks]; rfl
def dget (n : Nat) (k : D) (st : Sto) : Option (Option D) := match st[n]? with
 | some (.dK kvs) => (keyOf k).map (valD kvs)
 | some (.lk (.dK kvs)) => (keyOf k).map (valD kvs)
 | some (.dT kvs) => match k with
  | .tup ds => (keysOf ds).map (valD kvs)
  | _ => none
 | some (.lk (.dT kvs)) => match k with
  | .tup ds => (keysOf ds).map (valD kvs)
  | _ => none
 | _ => none
theorem dget_inv {n : Nat} {x y : V} {k : D} {o : Option D} (R : Rel c ρ st H) (rx : RV c ρ H x (.ref n)) (ry : RV c ρ H y k) (h : dget n k st = some o) :
  ∃ a ov, x = .ref a ∧ DGet H a y ov ∧ ((ov = none ∧ o = none) ∨ ∃ v d, ov = some v ∧ o = some d ∧ RV c ρ H v d) := by
 have plain : ∀ {a : Addr} {vs : List (Key × V)} {kvs : List (Key × D)}, Rd H a (.dK vs) → RKs c ρ H vs kvs → (keyOf k).map (valD kvs) = some o → ∃ ov, DGet H a y ov ∧ ((ov = none ∧ o = none) ∨ ∃ v d, ov = some v ∧ o = some d ∧ RV c ρ H v d) := by
  intro a vs kvs hr hv h
  obtain ⟨kk, hkk, rfl⟩ := Option.map_eq_some_iff.mp h
  have ey := keyOf_inv ry hkk
  subst ey
  refine ⟨valV vs kk, .inl ⟨vs, kk, hr, rfl, rfl⟩, ?_⟩
  rcases hv.val (k := kk) with ⟨h1, h2⟩ | ⟨v, d, h1, h2, h3⟩
  ·exact .inl ⟨h1, h2⟩
  ·exact .inr ⟨v, d, h1, h2, h3⟩
 have tupl : ∀ {a : Addr} {vs : List (List Key × V)} {kvs : List (List Key × D)} {ds : List D}, k = .tup ds → Rd H a (.dT vs) → RKs c ρ H vs kvs → (keysOf ds).map (valD kvs) = some o → ∃ ov, DGet H a y ov ∧ ((ov = none ∧ o = none) ∨ ∃ v d, ov = some v ∧ o = some d ∧ RV c ρ H v d) := by
  intro a vs kvs ds ek hr hv h
  obtain ⟨kk, hkk, rfl⟩ := Option.map_eq_some_iff.mp h
  subst ek
  cases ry with
  | @tup b us' ds' ha hu =>
   have e := keysOf_inv hu hkk
   subst e
   refine ⟨valV vs kk, .inr ⟨vs, kk, b, hr, rfl, ha.1, rfl⟩, ?_⟩
   rcases hv.val (k := kk) with ⟨h1, h2⟩ | ⟨v, d, h1, h2, h3⟩
   ·exact .inl ⟨h1, h2⟩
   ·exact .inr ⟨v, d, h1, h2, h3⟩
 cases rx with
 | @ref a n hn =>
  unfold dget at h
  obtain ⟨ob, ho⟩ := Rel.at (R := R) hn
  obtain ⟨b, hob, h1, h2, h3⟩ := R.ob n ob ho
  rw [hn] at h1; cases h1
  rw [ho] at h
  cases h3 with
  | un h3 => cases h3 with
   | dK hv => obtain ⟨ov, g, q⟩ := plain (.inl h2) hv h; exact ⟨a, ov, rfl, g, q⟩
   | dT hv => cases k with
    | tup ds => obtain ⟨ov, g, q⟩ := tupl rfl (.inl h2) hv h; exact ⟨a, ov, rfl, g, q⟩
    | _ => cases h
   | _ => cases h
  | lk h3 => cases h3 with
   | dK hv => obtain ⟨ov, g, q⟩ := plain (.inr ⟨_, h2⟩) hv h; exact ⟨a, ov, rfl, g, q⟩
   | dT hv => cases k with
    | tup ds => obtain ⟨ov, g, q⟩ := tupl rfl (.inr ⟨_, h2⟩) hv h; exact ⟨a, ov, rfl, g, q⟩
    | _ => cases h
   | _ => cases h
theorem op_din1 (hu : X.A.units + 1 < cLine) : OpR X (compareOp .In) rDIn := fun pins s σ H x y v u Q I rx ry ⟨a, o, ey, g, q⟩ => by
 subst ey
 cases ry
 exact d_in hu I g rx fun s3 I3 => ⟨.bl o.isSome, H, I3, rfl, q⟩
theorem op_dni1 (hu : X.A.units + 1 < cLine) : OpR X (compareOp .NotIn) rDNi := fun pins s σ H x y v u Q I rx ry ⟨a, o, ey, g, q⟩ => by
 subst ey
 cases ry
 exact d_notIn hu I g rx fun s3 I3 => ⟨.bl (!o.isSome), H, I3, rfl, q⟩
theorem ix_dict (hu : X.A.units + 1 < cLine) : IxR X rDGet := fun value slice pins s σ H x y v u Q I rx ry ⟨a, w, ex, g, q⟩ hs => by
 subst ex
 cases rx
 exact tail_any (dict_typeIs I g) PySem.F.slot_dict_getitem.lookup (d_getItem hu I g ry fun w' s3 I3 rw' => ⟨w, H, I3, rw', q⟩) hs
def flatD : D → Bool
 | .non => true | .bl _ => true | .int _ => true | .str _ => true
 | _ => false
def eqF : D → D → Bool
 | .non, .non => true
 | .bl a, .bl b => a == b
 | .bl a, .int b => (if a then 1 else 0) == b
 | .int a, .bl b => a == (if b then 1 else 0)
 | .int a, .int b => a == b
 | .str a, .str b => a == b
 | _, _ => false
theorem flat_of {x : V} {d : D} (r : RV c ρ H x d) (h : flatD d = true) : flatV x = true := by cases r <;> first | rfl | cases h
theorem eqF_of {x y : V} {a b : D} (rx : RV c ρ H x a) (ry : RV c ρ H y b) : flatD a = true → flatD b = true → eqV x y = eqF a b := fun h1 h2 => by
 cases rx <;> cases h1 <;> cases ry <;> cases h2 <;> rfl
theorem flats_of : ∀ {us : List V} {ds : List D}, RVs c ρ H us ds → ds.all flatD = true → us.all flatV = true
 | _, _, .nil, _ => rfl
 | _, _, .cons h t, e => by
  rw [List.all_cons, Bool.and_eq_true] at e
  rw [List.all_cons, flat_of h e.1, flats_of t e.2]; rfl
theorem any_of {x : V} {a : D} (rx : RV c ρ H x a) (hx : flatD a = true) : ∀ {us : List V} {ds : List D}, RVs c ρ H us ds → ds.all flatD = true → inV x us = ds.any fun y => eqF y a
 | _, _, .nil, _ => rfl
 | _, _, .cons h t, e => by
  rw [List.all_cons, Bool.and_eq_true] at e
  show (eqV _ x || inV x _) = _
  rw [eqF_of h rx e.1 hx, any_of rx hx t e.2]; rfl
def seqOf (d : D) (st : Sto) : Option (List D) := match tupOf d with
 | some xs => some xs
 | none => lstOf d st
theorem seq_inv {d : D} {x : V} {xs : List D} (R : Rel c ρ st H) (r : RV c ρ H x d) (h : seqOf d st = some xs) : ∃ a us, x = .ref a ∧ (SqL c.K H a us ∨ SqT c.K H a us) ∧ RVs c ρ H us xs := by
 unfold seqOf at h
 cases ht : tupOf d with
 | some ys => rw [ht] at h; cases h; obtain ⟨a, us, e, h1, h2⟩ := tup_inv r ht; exact ⟨a, us, e, .inr h1, h2⟩
 | none => rw [ht] at h; obtain ⟨a, us, e, h1, h2⟩ := lstOf_inv R r h; exact ⟨a, us, e, .inl h1, h2⟩
def inFlat (neg : Bool) : D → D → Mo D := fun a b st => match seqOf b st with
 | some xs => if flatD a && xs.all flatD then some (.ok (.bl (if neg then !(xs.any fun y => eqF y a) else xs.any fun y => eqF y a)), st) else none
 | none => none
theorem c_inFlat {neg : Bool} : OpC c (inFlat neg) (rIn c.K neg) := fun {W σ ρ st st' H x y a b res Q} R rx ry e F => by
 unfold inFlat at e
 cases hs : seqOf b st with
 | none => rw [hs] at e; cases e
 | some xs =>
  rw [hs] at e
  dsimp only at e
  by_cases h : (flatD a && xs.all flatD) = true
  ·rw [if_pos h] at e
   cases e
   rw [Bool.and_eq_true] at h
   obtain ⟨p, us, rfl, hp, hu⟩ := seq_inv R ry hs
   refine ⟨p, us, rfl, hp, flat_of rx h.1, flats_of hu h.2, ?_⟩
   rw [any_of rx h.1 hu h.2]
   exact F.ok .refl R _ (.bl _)
  ·rw [if_neg h] at e; cases e
def inStr (neg : Bool) : D → D → Mo D
 | .str s, .str z => match s.cps.toList with
  | [k] => ret (.bl (if neg then !decide (k ∈ z.cps.toList) else decide (k ∈ z.cps.toList)))
  | _ => stuck
 | _, _ => stuck
theorem one_sign {s : Str} {k : Nat} (h : s.cps.toList = [k]) : s = ⟨#[k]⟩ := by
 obtain ⟨a⟩ := s
 obtain ⟨l⟩ := a
 have h : l = [k] := h
 rw [h]
theorem c_inStr : OpC c (inStr false) rInS := fun {W σ ρ st st' H x y a b res Q} R rx ry e F => by
 cases rx with
 | str s => cases ry with
  | str z =>
   unfold inStr at e
   dsimp only at e
   cases hl : s.cps.toList with
   | nil => rw [hl] at e; cases e
   | cons k r => cases r with
    | nil => rw [hl] at e; cases e; exact ⟨k, z, by rw [one_sign hl], rfl, F.ok .refl R _ (.bl _)⟩
    | cons _ _ => rw [hl] at e; cases e
  | _ => cases e
 | _ => cases ry <;> cases e
theorem c_niStr : OpC c (inStr true) rNotInS := fun {W σ ρ st st' H x y a b res Q} R rx ry e F => by
 cases rx with
 | str s => cases ry with
  | str z =>
   unfold inStr at e
   dsimp only at e
   cases hl : s.cps.toList with
   | nil => rw [hl] at e; cases e
   | cons k r => cases r with
    | nil => rw [hl] at e; cases e; exact ⟨k, z, by rw [one_sign hl], rfl, F.ok .refl R _ (.bl _)⟩
    | cons _ _ => rw [hl] at e; cases e
  | _ => cases e
 | _ => cases ry <;> cases e
def inDct (neg : Bool) : D → D → Mo D := fun a b st => match b with
 | .ref n => match dget n a st with
  | some o => some (.ok (.bl (if neg then !o.isSome else o.isSome)), st)
  | none => none
 | _ => none
theorem c_inDct : OpC c (inDct false) rDIn := fun {W σ ρ st st' H x y a b res Q} R rx ry e F => by
 cases b with
 | ref n =>
  unfold inDct at e
  dsimp only at e
  cases hd : dget n a st with
  | none => rw [hd] at e; cases e
  | some o =>
   rw [hd] at e; cases e
   obtain ⟨p, ov, rfl, g, hh⟩ := dget_inv R ry rx hd
   refine ⟨p, ov, rfl, g, ?_⟩
   rcases hh with ⟨rfl, rfl⟩ | ⟨v, d, rfl, rfl, _⟩ <;> exact F.ok .refl R _ (.bl _)
 | _ => cases e
theorem c_niDct : OpC c (inDct true) rDNi := fun {W σ ρ st st' H x y a b res Q} R rx ry e F => by
 cases b with
 | ref n =>
  unfold inDct at e
  dsimp only at e
  cases hd : dget n a st with
  | none => rw [hd] at e; cases e
  | some o =>
   rw [hd] at e; cases e
   obtain ⟨p, ov, rfl, g, hh⟩ := dget_inv R ry rx hd
   refine ⟨p, ov, rfl, g, ?_⟩
   rcases hh with ⟨rfl, rfl⟩ | ⟨v, d, rfl, rfl, _⟩ <;> exact F.ok .refl R _ (.bl _)
 | _ => cases e
def lookD (kvs : List (Str × D)) (z : Str) : Option D := (kvs.find? fun kv => decide (kv.1 = z)).map (·.2)
theorem lookD_zip {z : Str} : ∀ {ks : List Str} {vs : List V} {ds : List D}, vs.length = ks.length → RVs c ρ H vs ds → (lookS (ks.zip vs) z = none ∧ lookD (ks.zip ds) z = none) ∨ ∃ v d, lookS (ks.zip vs) z = some v ∧ lookD (ks.zip ds) z = some d ∧ RV c ρ H v d
 | [], [], _, _, .nil => .inl ⟨rfl, rfl⟩
 | k :: ks, v :: vs, _, h, .cons (d := d) (ds := ds) hv ht => by
  by_cases e : k = z
  ·refine .inr ⟨v, d, ?_, ?_, hv⟩
   ·unfold lookS; rw [List.zip_cons_cons, List.find?_cons_of_pos (by simpa using e)]; rfl
   ·unfold lookD; rw [List.zip_cons_cons, List.find?_cons_of_pos (by simpa using e)]; rfl
  ·have e1 : lookS ((k :: ks).zip (v :: vs)) z = lookS (ks.zip vs) z := by unfold lookS; rw [List.zip_cons_cons, List.find?_cons_of_neg (by simpa using e)]
   have e2 : lookD ((k :: ks).zip (d :: ds)) z = lookD (ks.zip ds) z := by unfold lookD; rw [List.zip_cons_cons, List.find?_cons_of_neg (by simpa using e)]
   rw [e1, e2]
   exact lookD_zip (by simpa using h) ht
 | [], _ :: _, _, h, _ => by cases h
 | _ :: _, [], _, h, _ => by cases h
def inKd (neg : Bool) : D → D → Mo D
 | .str s, .kd kvs => ret (.bl (if neg then !(lookD kvs s).isSome else (lookD kvs s).isSome))
 | _, _ => stuck
theorem c_inKd {neg : Bool} : OpC c (inKd neg) (rInTab c.K c.w neg) := fun {W σ ρ st st' H x y a b res Q} R rx ry e F => by
 cases rx with
 | str s => cases ry with
  | @kd p ks vs ds ht hl hv =>
   cases e
   refine ⟨p, s, _, rfl, rfl, ht, ?_⟩
   rcases lookD_zip (z := s) hl hv with ⟨h1, h2⟩ | ⟨v, d, h1, h2, _⟩
   ·rw [h1]; rw [h2] at F; exact F.ok .refl R _ (.bl _)
   ·rw [h1]; rw [h2] at F; exact F.ok .refl R _ (.bl _)
  | _ => cases e
 | _ => cases ry <;> cases e
def inDeep (neg : Bool) : D → D → Mo D := fun a b st => match toP DEEP st a, toP DEEP st b with
 | some p, some (.list qs) => if SeqAt.shaped p && SeqAt.shaped (.list qs) then some (.ok (.bl (if neg then !(qs.any fun z => PyData.eqv z p) else qs.any fun z => PyData.eqv z p)), st) else none
 | _, _ => none
theorem inDeep_inv {neg : Bool} {x y : V} {a b : D} {res : M.R D} (R : Rel c ρ st H) (rx : RV c ρ H x a) (ry : RV c ρ H y b) (e : inDeep neg a b st = some (res, st')) : ∃ p qs, Dp c.K H x p ∧ Dp c.K H y (.list qs) ∧ SeqAt.shaped p = true ∧ SeqAt.shaped (.list qs) = true ∧
  res = .ok (.bl (if neg then !(qs.any fun z => PyData.eqv z p) else qs.any fun z => PyData.eqv z p)) ∧ st' = st := by
 unfold inDeep at e
 cases h1 : toP DEEP st a with
 | none => rw [h1] at e; cases e
 | some p => cases h2 : toP DEEP st b with
  | none => rw [h1, h2] at e; cases e
  | some q => cases q with
   | list qs =>
    rw [h1, h2] at e
    dsimp only at e
    by_cases h : (SeqAt.shaped p && SeqAt.shaped (.list qs)) = true
    ·rw [if_pos h] at e
     cases e
     rw [Bool.and_eq_true] at h
     exact ⟨p, qs, toP_dp R _ rx h1, toP_dp R _ ry h2, h.1, h.2, rfl, rfl⟩
    ·rw [if_neg h] at e; cases e
   | _ => rw [h1, h2] at e; cases e
theorem c_inDeep : OpC c (inDeep false) (rInD c.K) := fun {W σ ρ st st' H x y a b res Q} R rx ry e F => by
 obtain ⟨p, qs, h1, h2, h3, h4, rfl, rfl⟩ := inDeep_inv R rx ry e
 exact ⟨p, qs, h1, h2, h3, h4, F.ok .refl R _ (.bl _)⟩
theorem c_niDeep : OpC c (inDeep true) (rNotInD c.K) := fun {W σ ρ st st' H x y a b res Q} R rx ry e F => by
 obtain ⟨p, qs, h1, h2, h3, h4, rfl, rfl⟩ := inDeep_inv R rx ry e
 exact ⟨p, qs, h1, h2, h3, h4, F.ok .refl R _ (.bl _)⟩
def inD : D → D → Mo D := alt (inFlat false) (alt (inStr false) (alt (inDct false) (alt (inKd false) (inDeep false))))
def niD : D → D → Mo D := alt (inFlat true) (alt (inStr true) (alt (inDct true) (alt (inKd true) (inDeep true))))
def rInAll (c : MC) : R2 := fun x y H Q => rIn c.K false x y H Q ∨ rInS x y H Q ∨ rDIn x y H Q ∨ rInTab c.K c.w false x y H Q ∨ rInD c.K x y H Q
def rNiAll (c : MC) : R2 := fun x y H Q => rIn c.K true x y H Q ∨ rNotInS x y H Q ∨ rDNi x y H Q ∨ rInTab c.K c.w true x y H Q ∨ rNotInD c.K x y H Q
theorem c_in : OpC c inD (rInAll c) := OpC.or c_inFlat (OpC.or c_inStr (OpC.or c_inDct (OpC.or c_inKd c_inDeep)))
theorem c_ni : OpC c niD (rNiAll c) := OpC.or c_inFlat (OpC.or c_niStr (OpC.or c_niDct (OpC.or c_inKd c_niDeep)))
theorem o_in (hu : X.A.units + 65 < cLine) (hK : X.K = c.K := by rfl) (hw : X.w = c.w := by rfl) : OpR X (compareOp .In) (rInAll c) := OpR.or (op_inK c.K hK) (OpR.or op_inS (OpR.or (op_din1 (by omega)) (OpR.or (op_inTab c.K c.w hK hw) (by rw [← hK]; exact op_inD hu))))
theorem o_ni (hu : X.A.units + 65 < cLine) (hK : X.K = c.K := by rfl) (hw : X.w = c.w := by rfl) : OpR X (compareOp .NotIn) (rNiAll c) := OpR.or (op_niK c.K hK) (OpR.or op_notInS (OpR.or (op_dni1 (by omega)) (OpR.or (op_niTab c.K c.w hK hw) (by rw [← hK]; exact op_notInD hu))))
theorem o_eq (hu : X.A.units + 65 < cLine) (hK : X.K = c.K := by rfl) : OpR X (compareOp .Eq) (fun x y H Q => rEq x y H Q ∨ rEqD c.K x y H Q) := OpR.or op_eq (op_eqDK c.K (by omega) hK)
theorem o_ne (hu : X.A.units + 65 < cLine) (hK : X.K = c.K := by rfl) : OpR X (compareOp .NotEq) (fun x y H Q => rNe x y H Q ∨ rNeD c.K x y H Q) := OpR.or op_ne (op_neDK c.K (by omega) hK)
theorem o_is : OpR X (compareOp .Is) (fun x y H Q => rIsN x y H Q ∨ rIsB x y H Q) := OpR.or op_isN1 op_isBl
theorem o_isnot : OpR X (compareOp .IsNot) (fun x y H Q => rNotN x y H Q ∨ rNotB x y H Q) := OpR.or op_notN1 op_notBl
def ixD : D → D → Mo D := fun a b st => match a, b with
 | .ref n, k => match st[n]?, k with
  | some (.lst xs), .int i => (atI xs i).map fun d => (.ok d, st)
  | some (.lk (.lst xs)), .int i => (atI xs i).map fun d => (.ok d, st)
  | _, _ => match dget n k st with
   | some (some d) => some (.ok d, st)
   | _ => none
 | .tup xs, .int i => (atI xs i).map fun d => (.ok d, st)
 | .kt xs, .int i => (atI xs i).map fun d => (.ok d, st)
 | .scr ns, .int i => (atI ns i).map fun j => (.ok (.int j), st)
 | .str s, .int i => if s.length ≤ LINE then (atI s.cps.toList i).map fun k => (.ok (.str ⟨#[k]⟩), st) else none
 | .kd kvs, .str z => (lookD kvs z).map fun d => (.ok d, st)
 | _, _ => none
theorem atI_rv {us : List V} {ds : List D} {i : Int} {d : D} (h : RVs c ρ H us ds) (e : atI ds i = some d) : ∃ v, atI us i = some v ∧ RV c ρ H v d := by
 unfold atI at e ⊢
 rw [h.length]
 cases hx : ixN ds.length i with
 | none => rw [hx] at e; cases e
 | some j => rw [hx] at e; exact h.get e
def rIxAll (c : MC) : R2 := fun x y H Q => rIx c.K x y H Q ∨ rDGet x y H Q ∨ rIxTab c.K c.w x y H Q
theorem c_ix : OpC c ixD (rIxAll c) := fun {W σ ρ st st' H x y a b res Q} R rx ry e F => by
 have tupc : ∀ {xs : List D} {i : Int}, tupOf a = some xs → b = .int i → (atI xs i).map (fun d => ((.ok d, st) : M.R D × Sto)) = some (res, st') → rIxAll c x y H Q := by
  intro xs i ha hb e7
  subst hb
  obtain ⟨d, hd, e2⟩ := Option.map_eq_some_iff.mp e7
  cases e2
  obtain ⟨p, us, rfl, hp, hu⟩ := tup_inv rx ha
  obtain ⟨v, hv, rv⟩ := atI_rv hu hd
  cases ry
  exact .inl (.inr (.inl ⟨p, us, i, v, rfl, rfl, hp, hv, F.ok .refl R _ rv⟩))
 cases a with
 | ref n =>
  have dctc : (match dget n b st with
   | some (some d) => (some (.ok d, st) : Option (M.R D × Sto))
   | _ => none) = some (res, st') → rIxAll c x y H Q := by
   intro e
   cases hd : dget n b st with
   | none => rw [hd] at e; cases e
   | some o => cases o with
    | none => rw [hd] at e; cases e
    | some d =>
     rw [hd] at e; cases e
     obtain ⟨p, ov, rfl, g, hh⟩ := dget_inv R rx ry hd
     rcases hh with ⟨_, h2⟩ | ⟨v, d', rfl, h2, rv⟩
     ·cases h2
     ·cases h2; exact .inr (.inl ⟨p, v, rfl, g, F.ok .refl R _ rv⟩)
  have lstc : ∀ {xs : List D} {i : Int}, lstOf (.ref n) st = some xs → b = .int i → (atI xs i).map (fun d => ((.ok d, st) : M.R D × Sto)) = some (res, st') → rIxAll c x y H Q := by
   intro xs i ha hb e7
   subst hb
   obtain ⟨d, hd, e2⟩ := Option.map_eq_some_iff.mp e7
   cases e2
   obtain ⟨p, us, rfl, hp, hu⟩ := lstOf_inv R rx ha
   obtain ⟨v, hv, rv⟩ := atI_rv hu hd
   cases ry
   exact .inl (.inl ⟨p, us, i, v, rfl, rfl, hp, hv, F.ok .refl R _ rv⟩)
  unfold ixD at e
  dsimp only at e
  cases hn : st[n]? with
  | none => rw [hn] at e; exact dctc e
  | some o =>
   rw [hn] at e
   cases o with
   | lst xs => cases b with
    | int i => exact lstc (by unfold lstOf; dsimp only; rw [hn]) rfl e
    | _ => exact dctc e
   | lk o => cases o with
    | lst xs => cases b with
     | int i => exact lstc (by unfold lstOf; dsimp only; rw [hn]) rfl e
     | _ => exact dctc e
    | _ => exact dctc e
   | _ => exact dctc e
 | tup xs => cases b with
  | int i => exact tupc rfl rfl e
  | _ => cases e
 | kt xs => cases b with
  | int i => exact tupc rfl rfl e
  | _ => cases e
 | scr ns => cases b with
  | int i =>
   cases rx with
   | scr hs =>
    unfold ixD at e
    dsimp only at e
    obtain ⟨d, hd, e2⟩ := Option.map_eq_some_iff.mp e
    cases e2
    cases ry
    refine .inl (.inl ⟨_, _, i, .int d, rfl, rfl, hs.sq, ?_, F.ok .refl R _ (.int _)⟩)
    unfold atI at hd ⊢
    rw [List.length_map]
    cases hx : ixN ns.length i with
    | none => rw [hx] at hd; cases hd
    | some j => rw [hx] at hd; show (ns.map V.int)[j]? = _; rw [List.getElem?_map, show ns[j]? = some d from hd]; rfl
  | _ => cases e
 | str s => cases b with
  | int i =>
   unfold ixD at e
   dsimp only at e
   by_cases hl : s.length ≤ LINE
   ·rw [if_pos hl] at e
    obtain ⟨d, hd, e2⟩ := Option.map_eq_some_iff.mp e
    cases e2
    cases rx; cases ry
    exact .inl (.inr (.inr ⟨s, i, d, rfl, rfl, Nat.le_trans hl line_le, hd, F.ok .refl R _ (.str _)⟩))
   ·rw [if_neg hl] at e; cases e
  | _ => cases e
 | kd kvs => cases b with
  | str z =>
   unfold ixD at e
   dsimp only at e
   obtain ⟨d, hd, e2⟩ := Option.map_eq_some_iff.mp e
   cases e2
   cases ry
   cases rx with
   | @kd p ks vs ds ht hl hv =>
    rcases lookD_zip (z := z) hl hv with ⟨_, h2⟩ | ⟨v, d', h1, h2, rv⟩
    ·rw [hd] at h2; cases h2
    ·rw [hd] at h2; cases h2
     exact .inr (.inr ⟨p, z, _, v, rfl, rfl, ht, h1, F.ok .refl R _ rv⟩)
  | _ => cases e
 | _ => cases e
theorem o_ix (hu : X.A.units + 65 < cLine) (hK : X.K = c.K := by rfl) (hw : X.w = c.w := by rfl) : IxR X (rIxAll c) := IxR.or (by rw [← hK]; exact ix_seq) (IxR.or (ix_dict (by omega)) (ix_tab c.K c.w hK hw))
end
end M
namespace M
open PySem PySem.Spec PyProof.Rows L2 G
variable {c : MC}
section
variable {W : Wx} {σ : L2.St} {ρ ρ1 ρ' : List Addr} {H H1 H' : Hp} {st st1 st' : Sto} {env env' : Env} {X : Cx} {Q : VK}
def lenD : List D → Mo D := fun as st => match as with
 | [.str s] => if s.length ≤ LINE then some (.ok (.int s.length), st) else none
 | [d] => match seqOf d st with
  | some xs => some (.ok (.int xs.length), st)
  | none => match d with
   | .ref n => match st[n]? with
    | some (.dK kvs) => some (.ok (.int kvs.length), st)
    | some (.dT kvs) => some (.ok (.int kvs.length), st)
    | _ => none
   | _ => none
 | _ => none
theorem rv1 {d : D} {xs : List V} (r : RVs c ρ H xs [d]) : ∃ v, xs = [v] ∧ RV c ρ H v d := by
 cases r with | cons h t => cases t; exact ⟨_, rfl, h⟩
theorem dk_at {n : Nat} {x : V} {kvs : List (Key × D)} (R : Rel c ρ st H) (r : RV c ρ H x (.ref n)) (h : st[n]? = some (.dK kvs)) : ∃ a us, x = .ref a ∧ ρ[n]? = some a ∧ H a = some (.dK us) ∧ RKs c ρ H us kvs := by
 cases r with
 | @ref a n hn =>
  obtain ⟨b, ob, h1, h2, h3⟩ := R.ob n _ h
  rw [hn] at h1; cases h1
  cases h3 with
  | un h3 => cases h3 with
   | dK hv => exact ⟨a, _, rfl, hn, h2, hv⟩
theorem dt_at {n : Nat} {x : V} {kvs : List (List Key × D)} (R : Rel c ρ st H) (r : RV c ρ H x (.ref n)) (h : st[n]? = some (.dT kvs)) : ∃ a us, x = .ref a ∧ ρ[n]? = some a ∧ H a = some (.dT us) ∧ RKs c ρ H us kvs := by
 cases r with
 | @ref a n hn =>
  obtain ⟨b, ob, h1, h2, h3⟩ := R.ob n _ h
  rw [hn] at h1; cases h1
  cases h3 with
  | un h3 => cases h3 with
   | dT hv => exact ⟨a, _, rfl, hn, h2, hv⟩
def rLenD : List V → Hp → VK → Prop := fun xs H Q => ∃ a kvs, xs = [V.ref a] ∧ H a = some (.dK kvs) ∧ Q (.int kvs.length) H
def rLenAll (c : MC) : List V → Hp → VK → Prop := fun xs H Q => rLenX c.K xs H Q ∨ rLenD xs H Q ∨ rLenT xs H Q
theorem c_len : CallC c lenD (rLenAll c) := fun {W σ ρ st st' H xs as res Q} R rs e F => by
 cases as with
 | nil => cases e
 | cons d r => cases r with
  | cons _ _ => cases d <;> cases e
  | nil =>
   obtain ⟨v, rfl, rv⟩ := rv1 rs
   have gen : (match seqOf d st with
    | some xs => (some (.ok (.int xs.length), st) : Option (M.R D × Sto))
    | none => match d with
     | .ref n => match st[n]? with
      | some (.dK kvs) => some (.ok (.int kvs.length), st)
      | some (.dT kvs) => some (.ok (.int kvs.length), st)
      | _ => none
     | _ => none) = some (res, st') → rLenAll c [v] H Q := by
    intro e
    cases hs : seqOf d st with
    | some xs =>
     rw [hs] at e; cases e
     obtain ⟨a, us, rfl, hp, hu⟩ := seq_inv R rv hs
     exact .inl ⟨_, xs.length, rfl, by rcases hp with hp | hp; exact .inl ⟨us, hp, hu.length.symm⟩; exact .inr ⟨us, hp, hu.length.symm⟩, F.ok .refl R _ (.int _)⟩
    | none =>
     rw [hs] at e
     cases d with
     | ref n =>
      dsimp only at e
      cases hn : st[n]? with
      | none => rw [hn] at e; cases e
      | some o => cases o with
       | dK kvs => rw [hn] at e; cases e; obtain ⟨a, us, rfl, _, ha, hu⟩ := dk_at R rv hn; exact .inr (.inl ⟨a, us, rfl, ha, by rw [hu.length]; exact F.ok .refl R _ (.int _)⟩)
       | dT kvs => rw [hn] at e; cases e; obtain ⟨a, us, rfl, _, ha, hu⟩ := dt_at R rv hn; exact .inr (.inr ⟨a, us, rfl, ha, by rw [hu.length]; exact F.ok .refl R _ (.int _)⟩)
       | _ => rw [hn] at e; cases e
     | _ => cases e
   cases d with
   | str s =>
    unfold lenD at e
    dsimp only at e
    by_cases h : s.length ≤ LINE
    ·rw [if_pos h] at e; cases e; cases rv; exact .inl ⟨_, s.length, rfl, ⟨Nat.le_trans h line_le, rfl⟩, F.ok .refl R _ (.int _)⟩
    ·rw [if_neg h] at e; cases e
   | _ => exact gen e
theorem o_len (hK : X.K = c.K := by rfl) : CallR X (.builtin "len") (rLenAll c) := CallR.or (cl_lenX c.K hK) (CallR.or call_lenD call_len_dT)
def lstD : List D → Mo D := fun as st => if as.length ≤ LINE then some (.ok (.ref st.length), st ++ [.lst as]) else none
def tupD : List D → Mo D := fun as st => if as.length ≤ LINE then some (.ok (.tup as), st) else none
theorem c_lst : CallC c lstD rLst := fun {W σ ρ st st' H xs as res Q} R rs e F => by
 unfold lstD at e
 by_cases h : as.length ≤ LINE
 ·rw [if_pos h] at e; cases e
  refine ⟨by rw [rs.length]; exact Nat.le_trans h line_le, fun p hp => ?_⟩
  obtain ⟨R', T, r⟩ := R.new hp (.lst rs)
  exact F.ok T R' _ r
 ·rw [if_neg h] at e; cases e
theorem c_tup : CallC c tupD rTup := fun {W σ ρ st st' H xs as res Q} R rs e F => by
 unfold tupD at e
 by_cases h : as.length ≤ LINE
 ·rw [if_pos h] at e; cases e
  refine ⟨by rw [rs.length]; exact Nat.le_trans h line_le, fun p hp => ?_⟩
  obtain ⟨R', T, r⟩ := R.tup hp rs
  exact F.ok T R' _ r
 ·rw [if_neg h] at e; cases e
def newK : Env → Mo D := fun _ st => some (.ok (.ref st.length), st ++ [.dK []])
def newT : Env → Mo D := fun _ st => some (.ok (.ref st.length), st ++ [.dT []])
theorem m_newK {pos : Pos} : PE X (.Dict [] [] pos) (tM c W newK) := pe_dnewK.imp fun σ H Q ⟨ρ, st, env, r, st', R, E, e, F⟩ p hp => by
 cases e
 obtain ⟨R', T, r⟩ := R.new hp (.dK (c := c) .nil)
 exact F.ok T R' _ r
def cutL2 {α : Type} (xs : List α) (lo hi : Option Int) : List α := (xs.drop (HT.sIx xs.length 0 lo)).take (HT.sIx xs.length xs.length hi - HT.sIx xs.length 0 lo)
theorem cut_rv {us : List V} {ds : List D} (h : RVs c ρ H us ds) (lo hi : Option Int) : RVs c ρ H (cutV us lo hi) (cutL2 ds lo hi) := by
 unfold cutV cutL2
 rw [h.length]
 exact (h.drop _).take _
def slD : D → Option Int → Option Int → Mo D := fun a lo hi st => match a with
 | .str s => if s.length ≤ LINE then some (.ok (.str (cutS s lo hi)), st) else none
 | _ => match tupOf a with
  | some xs => if HT.sIx xs.length 0 lo = 0 ∧ HT.sIx xs.length xs.length hi = xs.length then some (.ok a, st) else some (.ok (.tup (cutL2 xs lo hi)), st)
  | none => match lstOf a st with
   | some xs => some (.ok (.ref st.length), st ++ [.lst (cutL2 xs lo hi)])
   | none => none
def rSlAll (c : MC) : V → Option Int → Option Int → Hp → VK → Prop := fun x lo hi H Q => (rSlL c.K x lo hi H Q ∨ rSlA c.K x lo hi H Q) ∨ L2.rSlS x lo hi H Q
theorem c_sl : SlC c slD (rSlAll c) := fun {W σ ρ st st' H x a lo hi res Q} R rx e F => by
 have gen : (match tupOf a with
  | some xs => if HT.sIx xs.length 0 lo = 0 ∧ HT.sIx xs.length xs.length hi = xs.length then (some (.ok a, st) : Option (M.R D × Sto)) else some (.ok (.tup (cutL2 xs lo hi)), st)
  | none => match lstOf a st with
   | some xs => some (.ok (.ref st.length), st ++ [.lst (cutL2 xs lo hi)])
   | none => none) = some (res, st') → rSlAll c x lo hi H Q := by
  intro e
  cases ht : tupOf a with
  | some xs =>
   rw [ht] at e
   dsimp only at e
   obtain ⟨p, us, rfl, hp, hu⟩ := tup_inv rx ht
   refine .inl (.inr ⟨p, us, rfl, hp, fun hw => ?_, fun hw q hq => ?_⟩)
   ·rw [hu.length] at hw
    rw [if_pos hw] at e; cases e
    exact F.ok .refl R _ rx
   ·rw [hu.length] at hw
    rw [if_neg hw] at e; cases e
    obtain ⟨R', T, r⟩ := R.tup hq (cut_rv hu lo hi)
    exact F.ok T R' _ r
  | none =>
   rw [ht] at e
   dsimp only at e
   cases hl : lstOf a st with
   | none => rw [hl] at e; cases e
   | some xs =>
    rw [hl] at e; cases e
    obtain ⟨p, us, rfl, hp, hu⟩ := lstOf_inv R rx hl
    refine .inl (.inl ⟨p, us, rfl, hp, fun q hq => ?_⟩)
    obtain ⟨R', T, r⟩ := R.new hq (.lst (cut_rv hu lo hi))
    exact F.ok T R' _ r
 cases a with
 | str s =>
  unfold slD at e
  dsimp only at e
  by_cases h : s.length ≤ LINE
  ·rw [if_pos h] at e; cases e; cases rx; exact .inr ⟨s, rfl, Nat.le_trans h line_le, F.ok .refl R _ (.str _)⟩
  ·rw [if_neg h] at e; cases e
 | _ => exact gen e
theorem o_sl (hK : X.K = c.K := by rfl) : SlR X (rSlAll c) := SlR.or (SlR.or (sl_listK c.K hK) (sl_tupAK c.K hK)) sl_str
def absD : List D → Mo D
 | [.int i] => ret (.int (if i < 0 then -i else i))
 | _ => stuck
theorem c_abs : CallC c absD G.rAbs := fun {W σ ρ st st' H xs as res Q} R rs e F => by
 unfold absD at e
 split at e
 ·cases e; obtain ⟨v, rfl, rv⟩ := rv1 rs; cases rv; exact ⟨_, rfl, F.ok .refl R _ (.int _)⟩
 ·cases e
def maxD : List D → Mo D
 | [.int i, .int j] => ret (.int (max i j))
 | _ => stuck
def minD : List D → Mo D
 | [.int i, .int j] => ret (.int (min i j))
 | _ => stuck
def tupleD : List D → Mo D := fun as st => match as with
 | [d] => match tupOf d with
  | some _ => some (.ok d, st)
  | none => match lstOf d st with
   | some xs => some (.ok (.tup xs), st)
   | none => none
 | _ => none
theorem c_tuple : CallC c tupleD (rTupOf c.K) := fun {W σ ρ st st' H xs as res Q} R rs e F => by
 cases as with
 | nil => cases e
 | cons d r => cases r with
  | cons _ _ => cases e
  | nil =>
   obtain ⟨v, rfl, rv⟩ := rv1 rs
   unfold tupleD at e
   dsimp only at e
   cases ht : tupOf d with
   | some ys => rw [ht] at e; cases e; obtain ⟨a, us, rfl, ha, hu⟩ := tup_inv rv ht; exact ⟨a, us, rfl, .inr ⟨ha, F.ok .refl R _ rv⟩⟩
   | none =>
    rw [ht] at e
    dsimp only at e
    cases hl : lstOf d st with
    | none => rw [hl] at e; cases e
    | some ys =>
     rw [hl] at e; cases e
     obtain ⟨a, us, rfl, ha, hu⟩ := lstOf_inv R rv hl
     refine ⟨a, us, rfl, .inl ⟨ha, fun p hp => ?_⟩⟩
     obtain ⟨R', T, r⟩ := R.tup hp hu
     exact F.ok T R' _ r
def listD : List D → Mo D := fun as st => match as with
 | [d] => match seqOf d st with
  | some xs => some (.ok (.ref st.length), st ++ [.lst xs])
  | none => none
 | _ => none
theorem c_list : CallC c listD (rListOf c.K) := fun {W σ ρ st st' H xs as res Q} R rs e F => by
 cases as with
 | nil => cases e
 | cons d r => cases r with
  | cons _ _ => cases e
  | nil =>
   obtain ⟨v, rfl, rv⟩ := rv1 rs
   unfold listD at e
   dsimp only at e
   cases hl : seqOf d st with
   | none => rw [hl] at e; cases e
   | some ys =>
    rw [hl] at e; cases e
    obtain ⟨a, us, rfl, ha, hu⟩ := seq_inv R rv hl
    refine ⟨a, us, rfl, ha, fun p hp => ?_⟩
    obtain ⟨R', T, r⟩ := R.new hp (.lst hu)
    exact F.ok T R' _ r
def intD : List D → Mo D
 | [.int i] => ret (.int i)
 | [.bl b] => ret (.int (if b then 1 else 0))
 | [.str s] => match PySem.intText? s with
  | some n => if s.length ≤ 4300 then ret (.int n) else stuck
  | none => stuck
 | _ => stuck
theorem c_int : CallC c intD (fun xs H Q => rInt1 xs H Q ∨ rIntBig xs H Q) := fun {W σ ρ st st' H xs as res Q} R rs e F => by
 unfold intD at e
 split at e
 ·cases e; obtain ⟨v, rfl, rv⟩ := rv1 rs; cases rv; exact .inl (.inl ⟨_, rfl, F.ok .refl R _ (.int _)⟩)
 ·cases e; obtain ⟨v, rfl, rv⟩ := rv1 rs; cases rv; exact .inl (.inr ⟨_, rfl, F.ok .refl R _ (.int _)⟩)
 ·rename_i s
  obtain ⟨v, rfl, rv⟩ := rv1 rs
  cases rv
  cases hn : PySem.intText? s with
  | none => rw [hn] at e; cases e
  | some n =>
   rw [hn] at e
   dsimp only at e
   by_cases h : s.length ≤ 4300
   ·rw [if_pos h] at e; cases e; exact .inr ⟨s, n, rfl, hn, h, F.ok .refl R _ (.int _)⟩
   ·rw [if_neg h] at e; cases e
 ·cases e
theorem o_int (hS : StatK c.K) (hK : X.K = c.K := by rfl) : CallR X (.type "int") (fun xs H Q => rInt1 xs H Q ∨ rIntBig xs H Q) := CallR.or cl_int1 (cl_intBig c.K hS hK)
def tyD (d : D) (st : Sto) : Option String := match d with
 | .non => some "NoneType"
 | .bl _ => some "bool"
 | .int _ => some "int"
 | .str _ => some "str"
 | .tup _ => some "tuple"
 | .kt _ => some "tuple"
 | .kd _ => some "dict"
 | .ref n => match st[n]? with
  | some (.lst _) => some "list"
  | some (.lk (.lst _)) => some "list"
  | some (.dK _) => some "dict"
  | some (.dT _) => some "dict"
  | some (.lk (.dK _)) => some "dict"
  | _ => none
 | _ => none
theorem tyD_inv {d : D} {x : V} {T : String} (R : Rel c ρ st H) (r : RV c ρ H x d) (h : tyD d st = some T) : TyX c.K H x (.type T) := by
 cases r with
 | non => cases h; exact .base .non
 | bl b => cases h; exact .base (.bl b)
 | int i => cases h; exact .base (.int i)
 | str s => cases h; exact .base (.str s)
 | tup ha hs => cases h; exact .base (.tup ha.1)
 | kt ha hs => cases h; obtain ⟨o, its, n, h1, h2, _⟩ := ha; exact .kTuple h1 h2
 | kd ha hl hs => cases h; obtain ⟨es, n, h1, _⟩ := ha; exact .kDict h1 rfl
 | @ref a n hn =>
  unfold tyD at h
  obtain ⟨o, ho⟩ := Rel.at (R := R) hn
  obtain ⟨b, ob, h1, h2, h3⟩ := R.ob n o ho
  rw [hn] at h1; cases h1
  dsimp only at h
  rw [ho] at h
  cases h3 with
  | un h3 => cases h3 with
   | lst hv => cases h; exact .base (.lst h2)
   | dK hv => cases h; exact .base (.dK h2)
   | dT hv => cases h; exact .base (.dT h2)
   | _ => cases h
  | lk h3 => cases h3 with
   | lst hv => cases h; exact .base (.frz h2)
   | dK hv => cases h; exact .fDict h2
   | _ => cases h
 | _ => cases h
def isiD (yes no : List String) : D → Mo D := fun d st => match tyD d st with
 | some T => if T ∈ yes then some (.ok (.bl true), st) else if T ∈ no then some (.ok (.bl false), st) else none
 | none => none
def KitOk (T : String) (yes no : List String) : Prop := (∀ A ∈ yes, kitB A T = some true) ∧ ∀ A ∈ no, kitB A T = some false
theorem m_isi {x T : Str} {Ts : String} {e : Expr} {p p2 pos : Pos} {m : Env → Mo D} {yes no : List String} (hk : KitOk Ts yes no) (he : PE X e (tM c W m)) (hg : Gl X "isinstance") (hm : X.mg "isinstance" = none) (hg2 : Gl X T) (hm2 : X.mg T = none) (hv2 : bootBuiltins T = some (.type Ts)) (hn2 : T ≠ "__name__") (hd2 : (T == ("__debug__" : Str)) = false)
  (hv : bootBuiltins ("isinstance" : Str) = some (.builtin "isinstance") := by decide +kernel) (h1 : starEach [e, .Name T p2] X.env = (false, eval e X.env) :: starEach [.Name T p2] X.env := by rfl) (h2 : starEach [.Name T p2] X.env = (false, eval (.Name T p2) X.env) :: starEach [] X.env := by rfl) (hpl : (backTo pos (starEach [.Name T p2] X.env)).any (·.1) = false := by rfl) (hK : X.K = c.K := by rfl) :
  PE X (.Call (.Name "isinstance" p) [e, .Name T p2] [] pos) (tM c W (op1 (isiD yes no) m)) := by
 refine (pe_callB (cl_isiK c.K hK) hg hm hv (pa_cons he (pa_cons (pe_bltn (v := .ty Ts) hg2 hm2 hv2 rfl hn2 hd2) pa_nil h2) h1) (by decide) (by decide) h1 hpl).imp fun σ H Q ⟨ρ, st, env, res, st', R, E, e, F⟩ => ?_
 refine tX.bind R E e F fun ρ1 H1 st1 a x s1 R1 E1 r1 e1 F1 => ?_
 unfold isiD at e1
 cases hT : tyD a st1 with
 | none => rw [hT] at e1; cases e1
 | some A =>
  rw [hT] at e1
  dsimp only at e1
  by_cases hy : A ∈ yes
  ·rw [if_pos hy] at e1; cases e1
   exact x_isi (tyD_inv R1 r1 hT) (hk.1 A hy) (F1.ok .refl R1 _ (.bl _))
  ·rw [if_neg hy] at e1
   by_cases hn : A ∈ no
   ·rw [if_pos hn] at e1; cases e1
    exact x_isi (tyD_inv R1 r1 hT) (hk.2 A hn) (F1.ok .refl R1 _ (.bl _))
   ·rw [if_neg hn] at e1; cases e1
end
end M
namespace M
open PySem PySem.Spec PyProof.Rows L2 G
variable {c : MC}
section
variable {W : Wx} {σ : L2.St} {ρ ρ1 ρ' : List Addr} {H H1 H' : Hp} {st st1 st' : Sto} {env env' : Env} {X : Cx} {Q : VK}
def lstMt (f : List D → List D → Option (List D × D)) : D → List D → Mo D := fun o as st => match o with
 | .ref n => match st[n]? with
  | some (.lst xs) => match f xs as with
   | some (ys, r) => some (.ok r, st.set n (.lst ys))
   | none => none
  | _ => none
 | _ => none
theorem lstMt_inv {f : List D → List D → Option (List D × D)} {o : D} {as : List D} {x : V} {xs : List V} {res : M.R D} (R : Rel c ρ st H) (rx : RV c ρ H x o) (e : lstMt f o as st = some (res, st')) :
  ∃ n a us ds ys r, o = .ref n ∧ x = .ref a ∧ st[n]? = some (.lst ds) ∧ ρ[n]? = some a ∧ H a = some (.lst us) ∧ RVs c ρ H us ds ∧ f ds as = some (ys, r) ∧ res = .ok r ∧ st' = st.set n (.lst ys) := by
 unfold lstMt at e
 cases o with
 | ref n =>
  dsimp only at e
  cases hn : st[n]? with
  | none => rw [hn] at e; cases e
  | some ob => cases ob with
   | lst ds =>
    rw [hn] at e
    dsimp only at e
    cases hf : f ds as with
    | none => rw [hf] at e; cases e
    | some p =>
     obtain ⟨ys, r⟩ := p
     rw [hf] at e; cases e
     obtain ⟨a, us, rfl, hp, ha, hu⟩ := lst_at R rx hn
     exact ⟨n, a, us, ds, ys, r, rfl, rfl, hn, hp, ha, hu, hf, rfl, rfl⟩
   | _ => rw [hn] at e; cases e
 | _ => cases e
def appF (xs as : List D) : Option (List D × D) := match as with
 | [d] => if xs.length < LINE then some (xs ++ [d], .non) else none
 | _ => none
theorem c_append : MtC c (lstMt appF) rAppend := fun {W σ ρ st st' H x a xs as res Q} R rx rs e F => by
 obtain ⟨n, p, us, ds, ys, r, rfl, rfl, hn, hp, ha, hu, hf, rfl, rfl⟩ := lstMt_inv (xs := xs) R rx e
 unfold appF at hf
 cases as with
 | nil => cases hf
 | cons d t => cases t with
  | cons _ _ => cases hf
  | nil =>
   dsimp only at hf
   by_cases h : ds.length < LINE
   ·rw [if_pos h] at hf; cases hf
    obtain ⟨v, rfl, rv⟩ := rv1 rs
    obtain ⟨R', T⟩ := R.put hn hp (.un (.lst (hu.app (.cons rv .nil))))
    exact ⟨p, us, v, rfl, rfl, ha, by rw [hu.length]; exact Nat.lt_of_lt_of_le h line_le, F.ok T R' _ .non⟩
   ·rw [if_neg h] at hf; cases hf
def popF (xs as : List D) : Option (List D × D) := match as, xs[xs.length - 1]? with
 | [], some d => some (xs.dropLast, d)
 | _, _ => none
theorem rvs_dropLast {us : List V} {ds : List D} (h : RVs c ρ H us ds) : RVs c ρ H us.dropLast ds.dropLast := by
 rw [List.dropLast_eq_take, List.dropLast_eq_take, h.length]; exact h.take _
theorem c_pop : MtC c (lstMt popF) rPop := fun {W σ ρ st st' H x a xs as res Q} R rx rs e F => by
 obtain ⟨n, p, us, ds, ys, r, rfl, rfl, hn, hp, ha, hu, hf, rfl, rfl⟩ := lstMt_inv (xs := xs) R rx e
 unfold popF at hf
 cases as with
 | cons _ _ => cases hf
 | nil =>
  skip
  cases hl : ds[ds.length - 1]? with
  | none => rw [hl] at hf; cases hf
  | some d =>
   rw [hl] at hf; cases hf
   cases rs
   obtain ⟨v, hv, rv⟩ := hu.get hl
   obtain ⟨R', T⟩ := R.put hn hp (.un (.lst (rvs_dropLast hu)))
   exact ⟨p, us, v, rfl, rfl, ha, by rw [hu.length]; exact hv, F.ok T R' _ (rv.mono T)⟩
def popAtF (xs as : List D) : Option (List D × D) := match as with
 | [.int i] => if -(2 ^ 63) ≤ i ∧ i < 2 ^ 63 then match seqIndex? i xs.length with
   | some k => match xs[k]? with
    | some d => some (xs.eraseIdx k, d)
    | none => none
   | none => none
  else none
 | _ => none
theorem c_popAt : MtC c (lstMt popAtF) rPopAt := fun {W σ ρ st st' H x a xs as res Q} R rx rs e F => by
 obtain ⟨n, p, us, ds, ys, r, rfl, rfl, hn, hp, ha, hu, hf, rfl, rfl⟩ := lstMt_inv (xs := xs) R rx e
 unfold popAtF at hf
 split at hf
 ·rename_i i
  by_cases h : -(2 ^ 63) ≤ i ∧ i < 2 ^ 63
  ·rw [if_pos h] at hf
   cases hk : seqIndex? i ds.length with
   | none => rw [hk] at hf; cases hf
   | some k =>
    rw [hk] at hf
    dsimp only at hf
    cases hl : ds[k]? with
    | none => rw [hl] at hf; cases hf
    | some d =>
     rw [hl] at hf; cases hf
     obtain ⟨v, rfl, rv⟩ := rv1 rs
     cases rv
     obtain ⟨w, hw, rw'⟩ := hu.get hl
     obtain ⟨R', T⟩ := R.put hn hp (.un (.lst (hu.eraseIdx k)))
     exact ⟨p, us, i, k, w, rfl, rfl, ha, h.1, h.2, by rw [hu.length]; exact hk, hw, F.ok T R' _ (rw'.mono T)⟩
  ·rw [if_neg h] at hf; cases hf
 ·cases hf
def strsOf : List D → Option (List Str)
 | [] => some []
 | .str s :: r => (strsOf r).map (s :: ·)
 | _ => none
theorem strs_inv : ∀ {ds : List D} {us : List V} {ss : List Str}, RVs c ρ H us ds → strsOf ds = some ss → us = ss.map V.str
 | [], _, _, .nil, h => by cases h; rfl
 | d :: r, _, _, .cons h1 h2, h => by
  unfold strsOf at h
  cases d with
  | str b =>
   obtain ⟨cs, hc, rfl⟩ := Option.map_eq_some_iff.mp h
   cases h1
   rw [strs_inv h2 hc]; rfl
  | _ => cases h
theorem rvs_strs : ∀ ss : List Str, RVs c ρ H (ss.map V.str) (ss.map D.str)
 | [] => .nil
 | s :: r => .cons (.str s) (rvs_strs r)
def isDct (d : D) (st : Sto) : Bool := match d with
 | .ref n => match st[n]? with
  | some (.dK _) => true
  | some (.dT _) => true
  | some (.lk (.dK _)) => true
  | some (.lk (.dT _)) => true
  | _ => false
 | _ => false
theorem isDct_inv {d : D} {x : V} (R : Rel c ρ st H) (r : RV c ρ H x d) (h : isDct d st = true) : ∃ a, x = .ref a ∧ IsD H a := by
 cases r with
 | @ref a n hn =>
  unfold isDct at h
  obtain ⟨o, ho⟩ := Rel.at (R := R) hn
  obtain ⟨b, ob, h1, h2, h3⟩ := R.ob n o ho
  rw [hn] at h1; cases h1
  dsimp only at h
  rw [ho] at h
  cases h3 with
  | un h3 => cases h3 with
   | dK hv => exact ⟨a, rfl, .inl ⟨_, .inl h2⟩⟩
   | dT hv => exact ⟨a, rfl, .inr ⟨_, .inl h2⟩⟩
   | _ => cases h
  | lk h3 => cases h3 with
   | dK hv => exact ⟨a, rfl, .inl ⟨_, .inr ⟨_, h2⟩⟩⟩
   | dT hv => exact ⟨a, rfl, .inr ⟨_, .inr ⟨_, h2⟩⟩⟩
   | _ => cases h
 | _ => cases h
def getE (m k : Env → Mo D) : Env → Mo D := fun env => bnd (m env) fun a => chk (isDct a) (bnd (k env) fun b st => match a with
 | .ref n => match dget n b st with
  | some o => some (.ok (o.getD .non), st)
  | none => none
 | _ => none)
def getE2 (m k z : Env → Mo D) : Env → Mo D := fun env => bnd (m env) fun a => chk (isDct a) (bnd (k env) fun b => bnd (z env) fun d st => match a with
 | .ref n => match dget n b st with
  | some o => some (.ok (o.getD d), st)
  | none => none
 | _ => none)
theorem rDG_of {n : Nat} {x y z : V} {b d : D} {res : M.R D} {a : Addr} (R : Rel c ρ st H) (rx : RV c ρ H (.ref a) (.ref n)) (ry : RV c ρ H y b) (rz : RV c ρ H z d) (e : (match dget n b st with
  | some o => (some (.ok (o.getD d), st) : Option (M.R D × Sto))
  | none => none) = some (res, st')) (F : Fin c W σ ρ H res st' fun ρ' H' d => ∀ v, RV c ρ' H' v d → Q v H') : rDG y z a H Q := by
 cases hd : dget n b st with
 | none => rw [hd] at e; cases e
 | some o =>
  rw [hd] at e; cases e
  obtain ⟨p, ov, e1, g, hh⟩ := dget_inv R rx ry hd
  cases e1
  refine ⟨ov, g, ?_⟩
  rcases hh with ⟨rfl, rfl⟩ | ⟨v, d', rfl, rfl, rv⟩
  ·exact F.ok .refl R _ rz
  ·exact F.ok .refl R _ rv
theorem m_get2 {oe e f : Expr} {apos cpos : Pos} {m k z : Env → Mo D} (hu : X.A.units + 1 < cLine) (ho : PE X oe (tM c W m)) (he : PE X e (tM c W k)) (hf : PE X f (tM c W z)) (m2 : M2 X oe "get" apos e f cpos) : PE X (.Call (.Attribute oe "get" apos) [e, f] [] cpos) (tM c W (getE2 m k z)) := (pe_dg2 hu ho he hf m2).imp fun σ H Q ⟨ρ, st, env, res, st', R, E, e, F⟩ => by
 refine tX.bind R E e F fun ρ1 H1 st1 a x s1 R1 E1 r1 e1 F1 => ?_
 unfold chk at e1
 split at e1
 ·rename_i hd
  obtain ⟨p, rfl, hp⟩ := isDct_inv R1 r1 hd
  refine ⟨p, rfl, hp, tX.bind R1 E1 e1 F1 fun ρ2 H2 st2 b y s2 R2 E2 r2 e2 F2 => tX.bind R2 E2 e2 F2 fun ρ3 H3 st3 d w s3 R3 E3 r3 e3 F3 => ?_⟩
  cases a with
  | ref n => exact rDG_of (x := .non) R3 ((r1.mono s2).mono s3.to0) (r2.mono s3) r3 e3 F3
  | _ => cases e3
 ·cases e1
def setD : D → D → D → Sto → Option Sto := fun o i v st => match o with
 | .ref n => match st[n]? with
  | some (.lst xs) => match i with
   | .int k => match ixN xs.length k with
    | some j => some (st.set n (.lst (xs.set j v)))
    | none => none
   | _ => none
  | some (.dK kvs) => match keyOf i with
   | some k => if kvs.length < LINE then some (st.set n (.dK (putD kvs k v))) else none
   | none => none
  | some (.dT kvs) => match i with
   | .tup ds => match keysOf ds with
    | some k => if kvs.length < LINE then some (st.set n (.dT (putD kvs k v))) else none
    | none => none
   | _ => none
  | _ => none
 | _ => none
theorem _root_.M.RKs.any {κ : Type} [DecidableEq κ] {k : κ} : ∀ {vs : List (κ × V)} {ds : List (κ × D)}, RKs c ρ H vs ds → (vs.any fun kv => decide (kv.1 = k)) = ds.any fun kv => decide (kv.1 = k)
 | _, _, .nil => rfl
 | _, _, .cons _ t => by rw [List.any_cons, List.any_cons, RKs.any t]
theorem _root_.M.RKs.put {κ : Type} [DecidableEq κ] {k : κ} {v : V} {d : D} {vs : List (κ × V)} {ds : List (κ × D)} (h : RKs c ρ H vs ds) (r : RV c ρ H v d) : RKs c ρ H (putK vs k v) (putD ds k d) := by
 have mp : ∀ {vs : List (κ × V)} {ds : List (κ × D)}, RKs c ρ H vs ds → RKs c ρ H (vs.map fun kv => if kv.1 = k then (kv.1, v) else kv) (ds.map fun kv => if kv.1 = k then (kv.1, d) else kv) := by
  intro vs
  induction vs with
  | nil => intro ds h; cases h; exact .nil
  | cons x vs ih =>
   intro ds h
   cases h with
   | @cons k' v' d' _ _ a t =>
    rw [List.map_cons, List.map_cons]
    by_cases e : k' = k
    ·rw [if_pos e, if_pos e]; exact .cons r (ih t)
    ·rw [if_neg e, if_neg e]; exact .cons a (ih t)
 unfold putD
 by_cases ha : (ds.any fun kv => decide (kv.1 = k)) = true
 ·rw [if_pos ha]
  have : putK vs k v = vs.map fun kv => if kv.1 = k then (kv.1, v) else kv := by
   unfold putK
   rw [if_pos (by rw [h.any]; exact ha)]
  rw [this]; exact mp h
 ·rw [if_neg ha]
  have : putK vs k v = vs ++ [(k, v)] := by
   unfold putK
   rw [if_neg (by rw [h.any]; exact ha)]
  rw [this]; exact h.app (.cons r .nil)
def rSetAll : TSet := fun o i v H R => rSetL o i v H R ∨ ∃ a H4, o = .ref a ∧ DPut H a i v H4 ∧ R H4
theorem set_dict (hu : X.A.units + 1 < cLine) : PSet X rSetAll := fun pins s σ H o i v ov iv u Q I ro ri rv h => by
 rcases h with h | ⟨a, H4, rfl, g, q⟩
 ·exact set_list pins s σ H o i v ov iv u Q I ro ri rv h
 ·cases ro
  exact d_setItem hu I g ri rv fun s4 I4 => ⟨H4, I4, q⟩
theorem c_set {x y z : V} {o i v : D} {R' : Hp → Prop} (R : Rel c ρ st H) (rx : RV c ρ H x o) (ry : RV c ρ H y i) (rz : RV c ρ H z v) (e : setD o i v st = some st') (k : ∀ H', Step ρ H ρ H' → Rel c ρ st' H' → R' H') : rSetAll x y z H R' := by
 unfold setD at e
 cases o with
 | ref n =>
  dsimp only at e
  cases hn : st[n]? with
  | none => rw [hn] at e; cases e
  | some ob =>
   rw [hn] at e
   cases ob with
   | lst xs => cases i with
    | int j =>
     dsimp only at e
     cases hj : ixN xs.length j with
     | none => rw [hj] at e; cases e
     | some m =>
      rw [hj] at e; cases e
      obtain ⟨p, us, rfl, hp, ha, hu⟩ := lst_at R rx hn
      cases ry
      obtain ⟨R2, T⟩ := R.put hn hp (.un (.lst (hu.set m rz)))
      exact .inl ⟨p, us, j, m, rfl, rfl, ha, by rw [hu.length]; exact hj, k _ T R2⟩
    | _ => cases e
   | dK kvs =>
    dsimp only at e
    cases hk : keyOf i with
    | none => rw [hk] at e; cases e
    | some kk =>
     rw [hk] at e
     dsimp only at e
     by_cases hl : kvs.length < LINE
     ·rw [if_pos hl] at e; cases e
      obtain ⟨p, us, rfl, hp, ha, hu⟩ := dk_at R rx hn
      have := keyOf_inv ry hk
      subst this
      obtain ⟨R2, T⟩ := R.put hn hp (.un (.dK (hu.put (k := kk) rz)))
      exact .inr ⟨p, _, rfl, DPut.k ha (by rw [hu.length]; exact Nat.lt_of_lt_of_le hl line_le), k _ T R2⟩
     ·rw [if_neg hl] at e; cases e
   | dT kvs => cases i with
    | tup ds =>
     dsimp only at e
     cases hk : keysOf ds with
     | none => rw [hk] at e; cases e
     | some kk =>
      rw [hk] at e
      dsimp only at e
      by_cases hl : kvs.length < LINE
      ·rw [if_pos hl] at e; cases e
       obtain ⟨p, us, rfl, hp, ha, hu⟩ := dt_at R rx hn
       cases ry with
       | @tup b us' _ hb hub =>
        have := keysOf_inv hub hk
        subst this
        obtain ⟨R2, T⟩ := R.put hn hp (.un (.dT (hu.put (k := kk) rz)))
        exact .inr ⟨p, _, rfl, DPut.t ha hb.1 (by rw [hu.length]; exact Nat.lt_of_lt_of_le hl line_le), k _ T R2⟩
      ·rw [if_neg hl] at e; cases e
    | _ => cases e
   | _ => cases e
 | _ => cases e
def noEx {α : Type} (m : Env → Mo α) : Env → Sto → Option (α × Sto) := fun env st => match m env st with
 | some (.ok a, s) => some (a, s)
 | _ => none
def gSubM (mo mi : Env → Mo D) : MG := fun d env st => match noEx mo env st with
 | none => none
 | some (o, st1) => match noEx mi env st1 with
  | none => none
  | some (i, st2) => match setD o i d st2 with
   | none => none
   | some st3 => some (env, st3)
theorem noEx_inv {α : Type} {m : Env → Mo α} {p : α × Sto} (h : noEx m env st = some p) : m env st = some (.ok p.1, p.2) := by
 unfold noEx at h
 cases hm : m env st with
 | none => rw [hm] at h; cases h
 | some q =>
  obtain ⟨r, s⟩ := q
  rw [hm] at h
  cases r with
  | error x => cases h
  | ok a => cases h; rfl
theorem g_sub {o i : Expr} {pos : Pos} {mo mi : Env → Mo D} {W1 W2 : Wx} (hu : X.A.units + 1 < cLine) (ho : PE X o (tM c W1 mo)) (hi : PE X i (tM c W2 mi))
  (ha : ∀ v, assign (.Subscript o i pos) X.env v = (do
   let ov ← holding [v] (eval o X.env)
   let iv ← holding [v, ov] (eval i X.env)
   standAt pos
   holding [v, ov, iv] (setItem ov iv v)
   release [v, ov, iv] []) := by intro _; rfl) : PG X (.Subscript o i pos) (tG c [] (gSubM mo mi)) := (pg_sub ho hi (set_dict hu) ha).imp fun v σ H Q ⟨ρ, st, env, d, env', st', R, E, r, e, F⟩ => by
 unfold gSubM at e
 cases h1 : noEx mo env st with
 | none => rw [h1] at e; cases e
 | some p1 =>
  obtain ⟨ov, st1⟩ := p1
  rw [h1] at e
  dsimp only at e
  cases h2 : noEx mi env st1 with
  | none => rw [h2] at e; cases e
  | some p2 =>
   obtain ⟨iv, st2⟩ := p2
   rw [h2] at e
   dsimp only at e
   cases h3 : setD ov iv d st2 with
   | none => rw [h3] at e; cases e
   | some st3 =>
    rw [h3] at e; cases e
    refine ⟨ρ, st, env, .ok ov, st1, R, E, noEx_inv h1, fun ρ1 H1 t1 R1 x rx => ⟨ρ1, st1, env, .ok iv, st2, R1, E.mono t1, noEx_inv h2, fun ρ2 H2 t2 R2 y ry => ?_⟩⟩
    exact c_set R2 (rx.mono t2) ry (r.mono (t1.trans t2)) h3 fun H3 t3 R3 => F _ H3 σ ((t1.trans t2).trans t3) R3 (E.mono ((t1.trans t2).trans t3)) rfl fun _ _ => rfl
end
end M
namespace M
open PySem PySem.Spec PyProof.Rows L2 G
variable {c : MC}
section
variable {W : Wx} {σ : L2.St} {ρ ρ1 ρ' : List Addr} {H H1 H' : Hp} {st st1 st' : Sto} {env env' : Env} {X : Cx} {Q : VK}
theorem _root_.L2.PI.pick {tg e : Expr} {t' : TI} (hi : ∀ σ H Q, t' σ H Q → ∃ t, PI X tg e t ∧ t σ H Q) : PI X tg e t' := ⟨fun pins s σ H R I q => let ⟨t, h, h2⟩ := hi σ H R q; h.run pins s σ H R I h2⟩
def gSeq (d : D) : Gt := fun i st => match d with
 | .str s => some ((s.cps[i]?).map fun k => .str ⟨#[k]⟩)
 | _ => match seqOf d st with
  | some xs => some xs[i]?
  | none => none
def iterM (m : Env → Mo D) : Env → Mo Gt := fun env => bnd (m env) fun d st => match d with
 | .str _ => some (.ok (gSeq d), st)
 | _ => match seqOf d st with
  | some _ => some (.ok (gSeq d), st)
  | none => none
theorem it_lst {a : Addr} {d : D} (r : RV c ρ H (.ref a) d) (hl : lstOf d st ≠ none) (ht : tupOf d = none) : ItC c ρ H (Itl c.K a) (gSeq d) := fun ρ2 st2 H2 i T R => by
 have hg : ∀ o, gSeq d i st2 = some o → ∃ xs, lstOf d st2 = some xs ∧ o = xs[i]? := by
  intro o ho
  unfold gSeq seqOf at ho
  cases d with
  | str s => unfold lstOf at hl; exact absurd rfl hl
  | _ =>
   dsimp only at ho
   rw [ht] at ho
   cases hx : lstOf _ st2 with
   | none => rw [hx] at ho; cases ho
   | some xs => rw [hx] at ho; cases ho; exact ⟨xs, rfl, rfl⟩
 refine ⟨fun h => ?_, fun d' h => ?_⟩
 ·obtain ⟨xs, h1, h2⟩ := hg _ h
  obtain ⟨b, us, e, hs, hu⟩ := lstOf_inv R (r.mono T) h1
  cases e
  exact ⟨us, hs, by rw [hu.length]; exact List.getElem?_eq_none_iff.mp h2.symm⟩
 ·obtain ⟨xs, h1, h2⟩ := hg _ h
  obtain ⟨b, us, e, hs, hu⟩ := lstOf_inv R (r.mono T) h1
  cases e
  obtain ⟨v, hv, rv⟩ := hu.get h2.symm
  refine ⟨⟨us, v, hs, hv⟩, fun x H' ⟨hH, hx⟩ => ?_⟩
  subst hH
  have := hx us hs
  rw [hv] at this; cases this
  exact ⟨.refl, R, rv⟩
theorem it_tup {a : Addr} {d : D} {xs : List D} (r : RV c ρ H (.ref a) d) (ht : tupOf d = some xs) : ItC c ρ H (Itt c.K a) (gSeq d) := fun ρ2 st2 H2 i T R => by
 have hg : gSeq d i st2 = some xs[i]? := by
  unfold gSeq seqOf
  cases d <;> first | (cases ht; rfl) | cases ht
 obtain ⟨b, us, e, hs, hu⟩ := tup_inv (r.mono T.to0) ht
 cases e
 rw [hg]
 refine ⟨fun h => ⟨us, hs, by rw [hu.length]; exact List.getElem?_eq_none_iff.mp (Option.some.inj h)⟩, fun d' h => ?_⟩
 obtain ⟨v, hv, rv⟩ := hu.get (Option.some.inj h)
 refine ⟨⟨us, v, hs, hv⟩, fun x H' ⟨hH, hx⟩ => ?_⟩
 subst hH
 have := hx us hs
 rw [hv] at this; cases this
 exact ⟨.refl, R, rv⟩
theorem it_str {s : Str} : ItC c ρ H (Its s) (gSeq (.str s)) := fun ρ2 st2 H2 i T R => by
 refine ⟨fun h => ?_, fun d' h => ?_⟩
 ·have h : (s.cps[i]?).map (fun k => D.str ⟨#[k]⟩) = none := Option.some.inj h
  have := Option.map_eq_none_iff.mp h
  exact Array.getElem?_eq_none_iff.mp this
 ·have h : (s.cps[i]?).map (fun k => D.str ⟨#[k]⟩) = some d' := Option.some.inj h
  obtain ⟨k, hk, rfl⟩ := Option.map_eq_some_iff.mp h
  refine ⟨(Array.getElem?_eq_some_iff.mp hk).1, fun x H' ⟨hH, k', hk', hx⟩ => ?_⟩
  subst hH; subst hx
  rw [hk] at hk'; cases hk'
  exact ⟨.refl, R, .str _⟩
theorem i_seq {tg e : Expr} {m : Env → Mo D} (he : PE X e (tM c W m)) (hK : X.K = c.K := by rfl) : PI X tg e (tI c W (iterM m)) := PI.pick fun σ H Q ⟨ρ, st, env, r, st', R, E, e0, F⟩ => by
 have h1 := pi_listK (tg := tg) c.K he hK
 have h2 := pi_tupK (tg := tg) c.K he hK
 have h3 := pi_str1 (tg := tg) he
 unfold iterM at e0
 cases hm : m env st with
 | none => unfold bnd at e0; rw [hm] at e0; cases e0
 | some p =>
  obtain ⟨r0, s0⟩ := p
  cases r0 with
  | error x =>
   rw [bnd_er hm] at e0
   cases e0
   exact ⟨_, h1, ρ, st, env, .error x, _, R, E, hm, fun ρ' H' t R' => F ρ' H' t R'⟩
  | ok d =>
   rw [bnd_ok hm] at e0
   have gen : (match seqOf d s0 with
    | some _ => (some (.ok (gSeq d), s0) : Option (M.R Gt × Sto))
    | none => none) = some (r, st') → ∃ t, PI X tg e t ∧ t σ H Q := by
    intro e1
    cases hs : seqOf d s0 with
    | none => rw [hs] at e1; cases e1
    | some xs =>
     rw [hs] at e1
     cases e1
     have hs : seqOf d st' = some xs := hs
     cases ht : tupOf d with
     | some ys =>
      refine ⟨_, h2, ρ, st, env, .ok d, _, R, E, hm, fun ρ1 H1 t R1 v hv => ?_⟩
      obtain ⟨a, us, rfl, ha, hu⟩ := tup_inv hv ht
      exact ⟨a, rfl, ⟨us, ha⟩, F.ok t R1 _ (it_tup hv ht)⟩
     | none =>
      have hl : lstOf d st' = some xs := by unfold seqOf at hs; rw [ht] at hs; exact hs
      refine ⟨_, h1, ρ, st, env, .ok d, _, R, E, hm, fun ρ1 H1 t R1 v hv => ?_⟩
      obtain ⟨a, us, rfl, ha, hu⟩ := lstOf_inv R1 hv hl
      exact ⟨a, rfl, ⟨us, ha⟩, F.ok t R1 _ (it_lst hv (by rw [hl]; exact fun z => nomatch z) ht)⟩
   cases d with
   | str s =>
    cases e0
    refine ⟨_, h3, ρ, st, env, .ok (.str s), _, R, E, hm, fun ρ1 H1 t R1 v hv => ?_⟩
    cases hv
    exact ⟨s, rfl, F.ok t R1 _ it_str⟩
   | _ => exact gen e0
def gRng (lo : Int) (n : Nat) : Gt := fun i _ => some (if i < n then some (.int (lo + i)) else none)
theorem it_rng {lo : Int} {n : Nat} : ItC c ρ H (Itr lo n) (gRng lo n) := fun ρ2 st2 H2 i T R => by
 unfold gRng
 by_cases h : i < n
 ·rw [if_pos h]
  refine ⟨fun e => (nomatch Option.some.inj e), fun d e => ⟨h, fun x H' ⟨hH, hx⟩ => ?_⟩⟩
  cases Option.some.inj (Option.some.inj e)
  subst hH; subst hx
  exact ⟨.refl, R, .int _⟩
 ·rw [if_neg h]
  exact ⟨fun _ => (show n ≤ i by omega), fun d e => (nomatch Option.some.inj e)⟩
def rng1M (m : Env → Mo D) : Env → Mo Gt := fun env => bnd (m env) fun d st => match d with
 | .int j => if -(2 ^ 62) ≤ j ∧ j < 2 ^ 62 then some (.ok (gRng 0 j.toNat), st) else none
 | _ => none
theorem i_rng1 {tg a : Expr} {p pos : Pos} {m : Env → Mo D} (hg : Gl X "range") (hm : X.mg "range" = none) (ha : PE X a (tM c W m)) (hs : starEach [a] X.env = (false, eval a X.env) :: starEach [] X.env := by rfl) (hs2 : starEach [a] X.env = [(false, eval a X.env)] := by rfl) : PI X tg (.Call (.Name "range" p) [a] [] pos) (tI c W (rng1M m)) := (pi_range1 hg hm (pa_cons ha pa_nil hs) hs2).imp fun σ H Q ⟨ρ, st, env, r, st', R, E, e0, F⟩ =>
 tX.bind R E e0 F fun ρ1 H1 st1 a v s1 R1 E1 r1 e1 F1 => by
  cases r1 with
  | int j =>
   dsimp only at e1
   by_cases h : -(2 ^ 62) ≤ j ∧ j < 2 ^ 62
   ·rw [if_pos h] at e1; cases e1
    exact ⟨j, rfl, h.1, h.2, F1.ok .refl R1 _ it_rng⟩
   ·rw [if_neg h] at e1; cases e1
  | _ => cases e1
def intsOf : List D → Option (List Int)
 | [] => some []
 | .int i :: r => (intsOf r).map (i :: ·)
 | _ => none
theorem ints_inv : ∀ {ds : List D} {us : List V} {ss : List Int}, RVs c ρ H us ds → intsOf ds = some ss → us = ss.map V.int
 | [], _, _, .nil, h => by cases h; rfl
 | d :: r, _, _, .cons h1 h2, h => by
  unfold intsOf at h
  cases d with
  | int b =>
   obtain ⟨cs, hc, rfl⟩ := Option.map_eq_some_iff.mp h
   cases h1
   rw [ints_inv h2 hc]; rfl
  | _ => cases h
def insI (i : Int) : List Int → List Int
 | [] => [i]
 | j :: r => if i ≤ j then i :: j :: r else j :: insI i r
def srtI : List Int → List Int
 | [] => []
 | i :: r => insI i (srtI r)
theorem insI_perm {i : Int} : ∀ {l : List Int}, (insI i l).Perm (i :: l)
 | [] => .refl _
 | j :: r => by
  unfold insI
  by_cases h : i ≤ j
  ·rw [if_pos h]
  ·rw [if_neg h]; exact ((insI_perm (l := r)).cons j).trans (.swap i j r)
theorem srtI_perm : ∀ {l : List Int}, (srtI l).Perm l
 | [] => .refl _
 | i :: r => insI_perm.trans (srtI_perm.cons i)
theorem insI_pw {i : Int} : ∀ {l : List Int}, l.Pairwise (· ≤ ·) → (insI i l).Pairwise (· ≤ ·)
 | [], _ => List.pairwise_singleton _ _
 | j :: r, h => by
  obtain ⟨h1, h2⟩ := List.pairwise_cons.mp h
  unfold insI
  by_cases e : i ≤ j
  ·rw [if_pos e]
   exact List.pairwise_cons.mpr ⟨fun x hx => (List.mem_cons.mp hx).elim (fun z => by omega) fun z => by have := h1 x z; omega, h⟩
  ·rw [if_neg e]
   refine List.pairwise_cons.mpr ⟨fun x hx => ?_, insI_pw h2⟩
   rcases List.mem_cons.mp (insI_perm.mem_iff.mp hx) with z | z
   ·omega
   ·exact h1 x z
theorem srtI_pw : ∀ {l : List Int}, (srtI l).Pairwise (· ≤ ·)
 | [] => .nil
 | i :: r => insI_pw srtI_pw
def leS (a b : Str) : Bool := !decide (b.cps.toList < a.cps.toList)
def insS (i : Str) : List Str → List Str
 | [] => [i]
 | j :: r => if leS i j then i :: j :: r else j :: insS i r
def srtS : List Str → List Str
 | [] => []
 | i :: r => insS i (srtS r)
theorem insS_perm {i : Str} : ∀ {l : List Str}, (insS i l).Perm (i :: l)
 | [] => .refl _
 | j :: r => by
  unfold insS
  by_cases h : leS i j = true
  ·rw [if_pos h]
  ·rw [if_neg h]; exact ((insS_perm (l := r)).cons j).trans (.swap i j r)
theorem srtS_perm : ∀ {l : List Str}, (srtS l).Perm l
 | [] => .refl _
 | i :: r => insS_perm.trans (srtS_perm.cons i)
theorem leS_tot {a b : Str} (h : ¬ leS a b = true) : leS b a = true := by
 unfold leS at h ⊢
 have h1 : b.cps.toList < a.cps.toList := by simpa using h
 rw [decide_eq_false fun z => absurd h1 (List.lt_asymm z)]; rfl
theorem leS_trans {a b d : Str} (h : leS a b = true) (h2 : leS b d = true) : leS a d = true := by
 unfold leS at *
 have h1 : ¬ b.cps.toList < a.cps.toList := by simpa using h
 have h3 : ¬ d.cps.toList < b.cps.toList := by simpa using h2
 rw [decide_eq_false (List.not_lt.mpr (List.le_trans (List.not_lt.mp h1) (List.not_lt.mp h3)))]; rfl
theorem insS_pw {i : Str} : ∀ {l : List Str}, l.Pairwise (fun a b => leS a b = true) → (insS i l).Pairwise (fun a b => leS a b = true)
 | [], _ => List.pairwise_singleton _ _
 | j :: r, h => by
  obtain ⟨h1, h2⟩ := List.pairwise_cons.mp h
  unfold insS
  by_cases e : leS i j = true
  ·rw [if_pos e]
   exact List.pairwise_cons.mpr ⟨fun x hx => (List.mem_cons.mp hx).elim (fun z => by rw [z]; exact e) fun z => leS_trans e (h1 x z), h⟩
  ·rw [if_neg e]
   refine List.pairwise_cons.mpr ⟨fun x hx => ?_, insS_pw h2⟩
   rcases List.mem_cons.mp (insS_perm.mem_iff.mp hx) with z | z
   ·rw [z]; exact leS_tot e
   ·exact h1 x z
theorem srtS_pw : ∀ {l : List Str}, (srtS l).Pairwise (fun a b => leS a b = true)
 | [] => .nil
 | i :: r => insS_pw srtS_pw
theorem sorted_oneS {a b : List Str} (p : a.Perm b) (ha : sortedS a = true) (hb : b.Pairwise (fun a b => leS a b = true)) : a = b :=
 List.Perm.eq_of_pairwise (fun x y _ _ h1 h2 => G.cps_eq (List.le_antisymm (List.not_lt.mp h1) (List.not_lt.mp h2))) (G.sorted_pair ha) (hb.imp fun h => by unfold leS at h; simpa using h) p
def sortD : List D → Mo D := fun as st => match as with
 | [d] => match lstOf d st with
  | some xs => match intsOf xs with
   | some ns => some (.ok (.ref st.length), st ++ [.lst ((srtI ns).map D.int)])
   | none => match strsOf xs with
    | some ss => if ss.length < 64 then some (.ok (.ref st.length), st ++ [.lst ((srtS ss).map D.str)]) else none
    | none => none
  | none => none
 | _ => none
theorem c_sort : CallC c sortD (fun xs H Q => rSortedI c.K xs H Q ∨ rSortedS c.K xs H Q) := fun {W σ ρ st st' H xs as res Q} R rs e F => by
 cases as with
 | nil => cases e
 | cons d r => cases r with
  | cons _ _ => cases e
  | nil =>
   obtain ⟨v, rfl, rv⟩ := rv1 rs
   unfold sortD at e
   dsimp only at e
   cases hl : lstOf d st with
   | none => rw [hl] at e; cases e
   | some xs =>
    rw [hl] at e
    dsimp only at e
    obtain ⟨a, us, rfl, ha, hu⟩ := lstOf_inv R rv hl
    cases hi : intsOf xs with
    | some ns =>
     rw [hi] at e; cases e
     have := ints_inv hu hi
     subst this
     refine .inl ⟨a, ns, rfl, ha, fun ns' p h1 h2 hp => ?_⟩
     have : ns' = srtI ns := sorted_oneI (h1.trans srtI_perm.symm) h2 srtI_pw
     subst this
     obtain ⟨R', T, r⟩ := R.new hp (.lst (rvs_ints (c := c) (ρ := ρ) (H := H) (srtI ns)))
     exact F.ok T R' _ r
    | none =>
     rw [hi] at e
     dsimp only at e
     cases hs : strsOf xs with
     | none => rw [hs] at e; cases e
     | some ss =>
      rw [hs] at e
      dsimp only at e
      by_cases h : ss.length < 64
      ·rw [if_pos h] at e; cases e
       have := strs_inv hu hs
       subst this
       refine .inr ⟨a, ss, rfl, ha, h, fun ns' p h1 h2 hp => ?_⟩
       have : ns' = srtS ss := sorted_oneS (h1.trans srtS_perm.symm) h2 srtS_pw
       subst this
       obtain ⟨R', T, r⟩ := R.new hp (.lst (rvs_strs (c := c) (ρ := ρ) (H := H) (srtS ss)))
       exact F.ok T R' _ r
      ·rw [if_neg h] at e; cases e
theorem o_sort (hK : X.K = c.K := by rfl) : CallR X (.builtin "sorted") (fun xs H Q => rSortedI c.K xs H Q ∨ rSortedS c.K xs H Q) := CallR.or (by rw [← hK]; exact cr_sortedI) (by rw [← hK]; exact cr_sortedS)
def nmOf (L : List Str) (i : Nat) : Str := match L[i]? with
 | some s => s
 | none => ⟨#[1114112 + i]⟩
theorem nmOf_inj {L : List Str} (h : L.Nodup) (h2 : L.all (fun s => s.cps.toList.all fun k => decide (k < 1114112)) = true) : ∀ i j, nmOf L i = nmOf L j → i = j := by
 have big : ∀ {i : Nat} {s : Str}, s ∈ L → (⟨#[1114112 + i]⟩ : Str) = s → False := fun {i s} hs e => by
  have := List.all_eq_true.mp (List.all_eq_true.mp h2 s hs) (1114112 + i) (by rw [← e]; simp)
  have := of_decide_eq_true this
  omega
 intro i j e
 unfold nmOf at e
 cases hi : L[i]? with
 | none => cases hj : L[j]? with
  | none =>
   rw [hi, hj] at e
   have : ([1114112 + i] : List Nat) = [1114112 + j] := congrArg (fun s : Str => s.cps.toList) e
   simp at this; omega
  | some s => rw [hi, hj] at e; exact (big (List.mem_of_getElem? hj) e).elim
 | some s => cases hj : L[j]? with
  | none => rw [hi, hj] at e; exact (big (List.mem_of_getElem? hi) e.symm).elim
  | some s' =>
   rw [hi, hj] at e
   dsimp only at e
   subst e
   obtain ⟨x1, e1⟩ := List.getElem?_eq_some_iff.mp hi
   obtain ⟨x2, e2⟩ := List.getElem?_eq_some_iff.mp hj
   exact (List.getElem_inj h).mp (e1.trans e2.symm)
end
end M
namespace M
open PySem PySem.Spec PyProof.Rows L2 G
variable {c : MC}
section
variable {W : Wx} {X : Cx}
theorem hu_65 {k : Nat} {A : Around} (h : Room k A) : A.units + 65 < cLine := by have := h.un; omega
theorem hu_1 {k : Nat} {A : Around} (h : Room k A) : A.units + 1 < cLine := by have := h.un; omega
theorem q_nil : PTs X [] (tT c W yesT) := ⟨fun pins s σ H Q I ⟨ρ, st, env, res, st', R, E, e, F⟩ => by
 cases e
 exact pts_nil.run pins s σ H Q I (F.ok .refl R _ rfl)⟩
theorem q_one {e : Expr} {m : Env → Mo Bool} (h : PT X e (tT c W m)) : PTs X [e] (tT c W m) := pts_one h
theorem m_lc {elt tg iter : Expr} {ifs : List Expr} {scope : Scope} {own : List (Str × Nat)} {pos : Pos} {m : Env → Mo Gt} {g : MG} {t : Env → Mo Bool} {el : Env → Mo D} {ws : List Nat} (hc : X.calm = true) (hN : X.N.Nodup) (hi : PI X tg iter (tI c W m)) (ok : BlkOk X.N X.env.scope scope own) (hws : ∀ v ∈ ws, v ∈ own.map (·.2))
  (hg : ∀ (s : Shared) (H : Hp) (C : Addr) (cl : List (Str × Addr)) (fp : List Addr), PG (X.blk s H scope (compEnvC scope cl C X.env) fp) tg (tG c ws g)) (ht : ∀ (s : Shared) (H : Hp) (C : Addr) (cl : List (Str × Addr)) (fp : List Addr), PTs (X.blk s H scope (compEnvC scope cl C X.env) fp) ifs (tT c W0 t))
  (he : ∀ (s : Shared) (H : Hp) (C : Addr) (cl : List (Str × Addr)) (fp : List Addr), PE (X.blk s H scope (compEnvC scope cl C X.env) fp) elt (tM c W0 el)) (hs : ∀ x, foldedSetIterable iter X.env x = pure x := by intro _; rfl) :
  PE X (.ListComp elt [⟨tg, iter, ifs, 0⟩] scope pos) (tM c W (lcE m g t el (own.map (·.2)))) := (pe_lc hc hN hi ok hg ht he hs).imp fun _ _ _ h => r_lc hws h
theorem s_setLc {i : Nat} {y : Str} {py : Pos} {elt tg iter : Expr} {ifs : List Expr} {scope : Scope} {own : List (Str × Nat)} {pos spos : Pos} {m : Env → Mo Gt} {g : MG} {t : Env → Mo Bool} {el : Env → Mo D} {ws : List Nat} (hc : X.calm = true) (hN : X.N.Nodup) (hy : X.N[i]? = some y) (hyl : X.env.scope.names.lookup y = some .local)
  (hsw : swapsWith (.ListComp elt [⟨tg, iter, ifs, 0⟩] scope pos) (some (.Name y py)) spos.line X.env = pure true) (hi : PI X tg iter (tI c W m)) (ok : BlkOk X.N X.env.scope scope own) (hws : ∀ v ∈ ws, v ∈ own.map (·.2))
  (hg : ∀ (s : Shared) (H : Hp) (C : Addr) (cl : List (Str × Addr)) (fp : List Addr), PG (X.blk s H scope (compEnvC scope cl C X.env) fp) tg (tG c ws g)) (ht : ∀ (s : Shared) (H : Hp) (C : Addr) (cl : List (Str × Addr)) (fp : List Addr), PTs (X.blk s H scope (compEnvC scope cl C X.env) fp) ifs (tT c W0 t))
  (he : ∀ (s : Shared) (H : Hp) (C : Addr) (cl : List (Str × Addr)) (fp : List Addr), PE (X.blk s H scope (compEnvC scope cl C X.env) fp) elt (tM c W0 el)) (hs : ∀ x, foldedSetIterable iter X.env x = pure x := by intro _; rfl) :
  PS X (.Assign [.Name y py] (.ListComp elt [⟨tg, iter, ifs, 0⟩] scope pos) spos) (tS c W (setS i (lcE m g t el (own.map (·.2))))) := (ps_setLc hc hN hy hyl hsw hi ok hg ht he hs).imp fun Dn σ H ⟨ρ, st, env, o, env', st', R, E, e, F⟩ => by
 refine r_lc (W := W) hws (tX.bindS R E e F fun ρ1 H1 st1 a v s1 R1 E1 r1 e1 F1 => ?_)
 cases e1
 exact F1.nx .refl R1 (E1.set i r1)
theorem m_one {op} {a : Expr} {pos : Pos} {m : Env → Mo D} (h : PE X a (tM c W m)) : PE X (.BoolOp op [a] pos) (tM c W m) := pe_one h
end
theorem rvs_kwp {ρ : List Addr} {H : Hp} : ∀ (is : List Nat) {zs : List V} {bs : List D}, RVs c ρ H zs bs → RVs c ρ H (kwp is zs) (kwp is bs)
 | [], _, _, _ => .nil
 | i :: r, zs, bs, h => by
  unfold kwp
  cases e : zs[i]? with
  | none =>
   have e2 : bs[i]? = none := by rw [List.getElem?_eq_none_iff] at e ⊢; rw [← h.length]; exact e
   rw [List.filterMap_cons_none e, List.filterMap_cons_none e2]
   exact rvs_kwp r h
  | some v =>
   obtain ⟨d, e2, rv⟩ := h.getV e
   rw [List.filterMap_cons_some e, List.filterMap_cons_some e2]
   exact .cons rv (rvs_kwp r h)
def gK (is : List Nat) : List D → List D → List D := fun as bs => as ++ kwp is bs
theorem bnd_kw {x qual : Str} {st : Stmt} {f : Addr} {fd : FuncData} (F : L2.Fun c.K x qual st f fd) (n : Nat) (ks : List Str) (is : List Nat) {ps : List Str}
  (h : ∀ (kV doc pm : Value) (an : Option Addr) (cdv ct : Value) (us ws : List Value), us.length = n → ws.length = ks.length → bindArgs (PySem.W.fnOf x qual (defArgs st) (defBody st) (defScope st) .none kV doc pm an cdv ct) ⟨us, ks.zip ws⟩ = pure (ps.zip (us ++ kwp is ws))) :
  Bnd c c.K fd ps n ks (gK is) := ⟨_, _, fun_kbn F n ks is h, fun ρ H vs zs as bs h1 h2 => h1.app (rvs_kwp is h2)⟩
def spLawM (c : MC) : Sp := fun vs H Q _ => ∃ (a : Addr) (ns : List Int), vs = [.ref a] ∧ SqL c.K H a (ns.map V.int) ∧ ns.length ≤ 63 ∧ ∀ H', Q (.bl true) H'
theorem sp_law {f : List D → Mo D} (h : ∀ ns : List Int, ns.length ≤ 63 → ∃ st', f [.scr ns] [] = some (.ok (.bl true), st')) : ∀ vs H Q E, spLawM c vs H Q E → spM c 1 f vs H Q E := fun vs H Q E ⟨a, ns, e, hs, hl, q⟩ => by
 subst e
 obtain ⟨st', h⟩ := h ns hl
 refine ⟨[], [], [.scr ns], _, st', ⟨rfl, List.nodup_nil, fun n o e => by simp at e⟩, .cons (.scr ?_) .nil, rfl, h, fun σ ρ' H' T R v hv => ?_⟩
 ·rcases hs with hs | hs
  ·exact .inl ⟨hs, List.not_mem_nil⟩
  ·exact .inr hs
 ·cases hv; exact q H'
end M
namespace M
open PySem PySem.Spec PyProof.Rows L2 G
variable {c : MC}
section
variable {W : Wx} {X : Cx} {σ : L2.St} {ρ ρ1 ρ' : List Addr} {H H1 H' : Hp} {st st1 st' : Sto} {env env' : Env}
theorem nm_at {L : List Str} {i : Nat} {x : Str} (hnm : c.nm = nmOf L) (h : nmOf L i = x) : c.nm i = x := by rw [hnm]; exact h
def inF (is : List Nat) : Nat → Bool := fun k => is.contains k
theorem nm_ne {L : List Str} {is : List Nat} {x : Str} (hnm : c.nm = nmOf L) (h : (is.all fun i => decide (nmOf L i ≠ x)) = true) : ∀ k, inF is k = true → c.nm k ≠ x := fun k hk => by
 unfold inF at hk
 rw [List.contains_iff_mem] at hk
 rw [hnm]
 exact of_decide_eq_true (List.all_eq_true.mp h k hk)
theorem kit_tuple : KitOk "tuple" ["tuple"] ["int", "NoneType", "bool", "str", "list", "dict"] := ⟨by decide +kernel, by decide +kernel⟩
def pairsM : List ((Env → Mo D) × (Env → Mo D)) → Env → Mo (List (D × D))
 | [], _ => ret []
 | (a, b) :: r, env => bnd (a env) fun x => bnd (b env) fun y => bnd (pairsM r env) fun ps => ret ((x, y) :: ps)
def keyed : List (D × D) → Option (List (Key × D))
 | [] => some []
 | (a, b) :: r => match keyOf a, keyed r with
  | some k, some q => some ((k, b) :: q)
  | _, _ => none
def mergeD (a b : List (Key × D)) : List (Key × D) := b.foldl (fun acc kv => putD acc kv.1 kv.2) a
def dspE (trs : List ((Env → Mo D) × (Env → Mo D))) : Env → Mo D := fun env st => match pairsM trs env (st ++ [.dK []]) with
 | some (.ok ps, s) => match keyed ps with
  | some kvs => if kvs.length ≤ 15 then match s[st.length]? with
   | some (.dK []) => some (.ok (.ref st.length), s.set st.length (.dK (mergeD [] kvs)))
   | _ => none
   else none
  | none => none
 | some (.error e, s) => some (.error e, s)
 | none => none
def PPm (c : MC) (W : Wx) (X : Cx) (pos : Pos) (keys : List (Option Expr)) (values : List Expr) (trs : List ((Env → Mo D) × (Env → Mo D))) : Prop := PPs X pos keys values (trs.map fun p => (tM c W p.1, tM c W p.2))
theorem pm_nil {pos : Pos} : PPm c W X pos [] [] [] := pps_nil
theorem pm_cons {pos : Pos} {k v : Expr} {ks : List (Option Expr)} {vs : List Expr} {a b : Env → Mo D} {trs} (hk : PE X k (tM c W a)) (hv : PE X v (tM c W b)) (hr : PPm c W X pos ks vs trs) : PPm c W X pos (some k :: ks) (v :: vs) ((a, b) :: trs) := pps_cons hk hv hr
def RPs (c : MC) (ρ : List Addr) (H : Hp) (ps : List (V × V)) (ds : List (D × D)) : Prop := RVs c ρ H (ps.map (·.1)) (ds.map (·.1)) ∧ RVs c ρ H (ps.map (·.2)) (ds.map (·.2))
theorem pairs_run {γ : Type} {Q : List Addr → Hp → γ → Prop} {r : M.R γ} : ∀ {trs : List ((Env → Mo D) × (Env → Mo D))} {k : List (D × D) → Mo γ} {G : List (V × V) → Hp → Prop} {ρ : List Addr} {st : Sto} {H : Hp}, Rel c ρ st H → REnv c ρ H σ env → bnd (pairsM trs env) k st = some (r, st') → Fin c W σ ρ H r st' Q →
  (∀ ρ1 H1 st1 ps ds, Step ρ H ρ1 H1 → Rel c ρ1 st1 H1 → REnv c ρ1 H1 σ env → RPs c ρ1 H1 ps ds → k ds st1 = some (r, st') → Fin c W σ ρ1 H1 r st' Q → G ps H1) → tPairs (trs.map fun p => (tM c W p.1, tM c W p.2)) σ H G
 | [], k, G, ρ, st, H, R, E, e, F, hk => by
  exact hk ρ H st [] [] .refl R E ⟨.nil, .nil⟩ e F
 | (a, b) :: tr, k, G, ρ, st, H, R, E, e, F, hk => by
  have e' : bnd (a env) (fun x => bnd (b env) fun y => bnd (pairsM tr env) fun ps => k ((x, y) :: ps)) st = some (r, st') := by
   rw [← e]
   show _ = bnd (bnd (a env) fun x => bnd (b env) fun y => bnd (pairsM tr env) fun ps => ret ((x, y) :: ps)) k st
   rw [bnd_assoc]
   congr 1
   congr 1
   funext x
   rw [bnd_assoc]
   congr 1
   funext y
   rw [bnd_assoc]
   first | done | rfl
  refine tX.bind R E e' F fun ρ1 H1 st1 x vx s1 R1 E1 r1 e1 F1 => ?_
  refine tX.bind R1 E1 e1 F1 fun ρ2 H2 st2 y vy s2 R2 E2 r2 e2 F2 => ?_
  refine pairs_run (trs := tr) R2 E2 e2 F2 fun ρ3 H3 st3 ps ds s3 R3 E3 r3 e3 F3 => ?_
  exact hk ρ3 H3 st3 ((vx, vy) :: ps) ((x, y) :: ds) ((s1.trans s2).trans s3) R3 E3 ⟨.cons ((r1.mono s2).mono s3.to0) r3.1, .cons (r2.mono s3) r3.2⟩ e3 F3
theorem keyed_inv : ∀ {ps : List (V × V)} {ds : List (D × D)} {kvs : List (Key × D)}, RPs c ρ H ps ds → keyed ds = some kvs → ∃ q : List (Key × V), ps = q.map (fun kv => (kV kv.1, kv.2)) ∧ RKs c ρ H q kvs
 | [], [], kvs, h, e => by cases e; exact ⟨[], rfl, .nil⟩
 | [], d :: ds, kvs, h, e => nomatch h.1
 | p :: ps, [], kvs, h, e => nomatch h.1
 | (x, y) :: ps, (a, b) :: ds, kvs, h, e => by
  obtain ⟨h1, h2⟩ := h
  cases h1 with | cons ha h1 => cases h2 with | cons hb h2 =>
  unfold keyed at e
  cases hk : keyOf a with
  | none => rw [hk] at e; cases e
  | some k =>
   cases hq : keyed ds with
   | none => rw [hk, hq] at e; cases e
   | some q0 =>
    rw [hk, hq] at e
    cases e
    obtain ⟨q, e1, rq⟩ := keyed_inv (ps := ps) (ds := ds) ⟨h1, h2⟩ hq
    have hx : x = kV k := keyOf_inv ha hk
    exact ⟨(k, y) :: q, by rw [hx, e1]; rfl, .cons hb rq⟩
theorem rks_merge : ∀ {more : List (Key × V)} {mds : List (Key × D)} {vs : List (Key × V)} {ds : List (Key × D)}, RKs c ρ H more mds → RKs c ρ H vs ds → RKs c ρ H (mergeK vs more) (mergeD ds mds)
 | [], _, _, _, .nil, h => h
 | (k, v) :: more, _, _, _, .cons r t, h => by have h2 := rks_merge t (h.put (k := k) r); exact h2
theorem r_dsp {trs : List ((Env → Mo D) × (Env → Mo D))} {Q : VK} (h : tM c W (dspE trs) σ H Q) : tDisp (trs.map fun p => (tM c W p.1, tM c W p.2)) σ H Q := by
 obtain ⟨ρ, st, env, res, st', R, E, e, F⟩ := h
 intro p hp
 obtain ⟨R1, T1, rP⟩ := R.new hp (.dK (c := c) .nil)
 have hPn : (ρ ++ [p])[st.length]? = some p := by cases rP with | ref h => exact h
 have e' : bnd (pairsM trs env) (fun ps s => match keyed ps with
  | some kvs => if kvs.length ≤ 15 then match s[st.length]? with
   | some (.dK []) => some (.ok (D.ref st.length), s.set st.length (.dK (mergeD [] kvs)))
   | _ => none
   else none
  | none => none) (st ++ [.dK []]) = some (res, st') := by
  rw [← e]
  unfold bnd dspE
  cases pairsM trs env (st ++ [.dK []]) with
  | none => rfl
  | some q => obtain ⟨r, s⟩ := q; cases r <;> rfl
 refine pairs_run (W := W) R1 (E.mono T1) e' (F.step T1) fun ρ1 H1 st1 ps ds s1 R2 E2 rp e1 F1 => ?_
 try dsimp only at e1
 cases hq : keyed ds with
 | none => rw [hq] at e1; cases e1
 | some kvs =>
  rw [hq] at e1
  dsimp only at e1
  by_cases hl : kvs.length ≤ 15
  ·rw [if_pos hl] at e1
   obtain ⟨q, eq, rq⟩ := keyed_inv rp hq
   cases hs : st1[st.length]? with
   | none => rw [hs] at e1; cases e1
   | some o =>
    rw [hs] at e1
    cases o with
    | dK kv0 =>
     cases kv0 with
     | nil =>
      cases e1
      have hP1 : ρ1[st.length]? = some p := s1.get hPn
      obtain ⟨a, ob, q1, q2, q3⟩ := R2.ob _ _ hs
      rw [hP1] at q1; cases q1
      have hob : H1 p = some (.dK []) := by
       cases q3 with | un q3 => cases q3 with | dK q3 => cases q3 with | nil => exact q2
      have hlq : q.length = kvs.length := rq.length
      refine ⟨hob, q, eq, by rw [hlq]; exact hl, ?_⟩
      obtain ⟨R3, T3⟩ := R2.put hs hP1 (.un (.dK (rks_merge rq .nil)))
      exact F1.ok T3 R3 _ (.ref hP1)
     | cons => cases e1
    | _ => cases e1
  ·rw [if_neg hl] at e1; cases e1
theorem m_dsp {pos : Pos} {keys : List (Option Expr)} {values : List Expr} {trs : List ((Env → Mo D) × (Env → Mo D))} (h : PPm c W X pos keys values trs) (hall : keys.all (·.isSome) = true := by rfl) (hl : keys.length = values.length := by rfl) (h0 : keys ≠ [] := by simp) (h15 : keys.length ≤ 15 := by decide) : PE X (.Dict keys values pos) (tM c W (dspE trs)) :=
 (pe_disp h hall hl h0 h15).imp fun _ _ _ => r_dsp
end
end M
namespace M
open PySem PySem.Spec PyProof.Rows L2 G
variable {c : MC}
theorem c_insubI : OpC c subI rSub := fun {W σ ρ st st' H x y a b res Q} R rx ry e F => by
 obtain ⟨i, j, e1, e2, q⟩ := c_sub (W := W) (σ := σ) R rx ry e F
 exact ⟨i, j, e1, e2, q⟩
def mulS := intOp (fun i j => decide ((-(2 ^ 64) < i ∧ i < 2 ^ 64) ∨ (-(2 ^ 64) < j ∧ j < 2 ^ 64))) fun i j => .int (i * j)
theorem c_mulS : OpC c mulS (rI CMul fun i j => .int (i * j)) := c_intOp (fun _ _ h => of_decide_eq_true h) fun _ _ _ _ => .int _
def mulD : D → D → Mo D := alt mulS mulI
theorem c_mulD : OpC c mulD (fun x y H Q => rI CMul (fun i j => .int (i * j)) x y H Q ∨ rI CMulW (fun i j => .int (i * j)) x y H Q) := OpC.or c_mulS c_mul
theorem o_mulD {X : Cx} : OpR X (binaryOp .Mult) (fun x y H Q => rI CMul (fun i j => .int (i * j)) x y H Q ∨ rI CMulW (fun i j => .int (i * j)) x y H Q) := OpR.or op_mul op_mulW
def nilD (neg : Bool) : D → D → Mo D := fun a b st => match lstOf a st, lstOf b st with
 | some xs, some [] => some (.ok (.bl (xor neg xs.isEmpty)), st)
 | _, _ => match tupOf a, tupOf b with
  | some xs, some [] => some (.ok (.bl (xor neg xs.isEmpty)), st)
  | _, _ => none
theorem nil_core {neg : Bool} {ρ : List Addr} {st st' : Sto} {H : Hp} {x y : V} {a b : D} {res : R D} (R : Rel c ρ st H) (rx : RV c ρ H x a) (ry : RV c ρ H y b) (e : nilD neg a b st = some (res, st')) :
  ∃ p q xs, x = .ref p ∧ y = .ref q ∧ ((SqL c.K H p xs ∧ SqL c.K H q []) ∨ (SqT c.K H p xs ∧ SqT c.K H q [])) ∧ res = .ok (.bl (xor neg (decide (xs = [])))) ∧ st' = st := by
 have em : ∀ {vs : List V} {ds : List D}, RVs c ρ H vs ds → ds.isEmpty = decide (vs = []) := by
  intro vs ds h
  cases h <;> simp
 have fin : ∀ {f g : D → Option (List D)} , True := trivial
 unfold nilD at e
 cases h1 : lstOf a st with
 | some xs =>
  cases h2 : lstOf b st with
  | some ys =>
   cases ys with
   | nil =>
    rw [h1, h2] at e
    cases e
    obtain ⟨p, us, rfl, hp, hu⟩ := lstOf_inv R rx h1
    obtain ⟨q, ws, rfl, hq, hw⟩ := lstOf_inv R ry h2
    cases hw
    exact ⟨p, q, us, rfl, rfl, .inl ⟨hp, hq⟩, by rw [em hu], rfl⟩
   | cons y ys =>
    rw [h1, h2] at e
    dsimp only at e
    cases h3 : tupOf a with
    | none => rw [h3] at e; cases e
    | some zs => cases a <;> first | (cases h3; done) | (cases h1; done)
  | none =>
   rw [h1, h2] at e
   dsimp only at e
   cases h3 : tupOf a with
   | none => rw [h3] at e; cases e
   | some zs => cases a <;> first | (cases h3; done) | (cases h1; done)
 | none =>
  rw [h1] at e
  dsimp only at e
  cases h3 : tupOf a with
  | none => rw [h3] at e; cases e
  | some xs =>
   cases h4 : tupOf b with
   | none => rw [h3, h4] at e; cases e
   | some ys =>
    cases ys with
    | cons y ys => rw [h3, h4] at e; cases e
    | nil =>
     rw [h3, h4] at e
     cases e
     obtain ⟨p, us, rfl, hp, hu⟩ := tup_inv rx h3
     obtain ⟨q, ws, rfl, hq, hw⟩ := tup_inv ry h4
     cases hw
     exact ⟨p, q, us, rfl, rfl, .inr ⟨hp, hq⟩, by rw [em hu], rfl⟩
theorem c_eqNil : OpC c (nilD false) (rEqNil c.K) := fun {W σ ρ st st' H x y a b res Q} R rx ry e F => by
 obtain ⟨p, q, xs, e1, e2, h, rfl, rfl⟩ := nil_core R rx ry e
 exact ⟨p, q, xs, e1, e2, h, F.ok .refl R _ (by rw [Bool.false_xor]; exact .bl _)⟩
theorem c_neNil : OpC c (nilD true) (rNeNil c.K) := fun {W σ ρ st st' H x y a b res Q} R rx ry e F => by
 obtain ⟨p, q, xs, e1, e2, h, rfl, rfl⟩ := nil_core R rx ry e
 exact ⟨p, q, xs, e1, e2, h, F.ok .refl R _ (by rw [Bool.true_xor]; exact .bl _)⟩
def eqE : D → D → Mo D := alt (nilD false) eqD
def neE : D → D → Mo D := alt (nilD true) neD
theorem c_eqE : OpC c eqE (fun x y H Q => rEqNil c.K x y H Q ∨ rEq x y H Q ∨ rEqD c.K x y H Q) := OpC.or c_eqNil c_eq
theorem c_neE : OpC c neE (fun x y H Q => rNeNil c.K x y H Q ∨ rNe x y H Q ∨ rNeD c.K x y H Q) := OpC.or c_neNil c_ne
section
variable {X : Cx}
theorem o_eqE (hu : X.A.units + 65 < cLine) (hK : X.K = c.K := by rfl) : OpR X (compareOp .Eq) (fun x y H Q => rEqNil c.K x y H Q ∨ rEq x y H Q ∨ rEqD c.K x y H Q) := OpR.or (op_eqNil c.K (by omega) hK) (o_eq hu hK)
theorem o_neE (hu : X.A.units + 65 < cLine) (hK : X.K = c.K := by rfl) : OpR X (compareOp .NotEq) (fun x y H Q => rNeNil c.K x y H Q ∨ rNe x y H Q ∨ rNeD c.K x y H Q) := OpR.or (op_neNil c.K (by omega) hK) (o_ne hu hK)
end
end M
namespace M
open PySem PySem.Spec PyProof.Rows L2 G
def Runs (m : MS) (env : Env) (st : Sto) (Q : Out → Env → Sto → Prop) : Prop := ∃ o e s, m env st = some (o, e, s) ∧ Q o e s
def Ends' (f : Mo D) (st : Sto) (Q : D → Sto → Prop) : Prop := ∃ d s, f st = some (.ok d, s) ∧ Q d s
def afterF (Q : D → Sto → Prop) : Out → Env → Sto → Prop := fun o _ s => match o with
 | .nx => Q .non s
 | .rt d => Q d s
 | _ => False
def afterS (b : MS) (Q : Out → Env → Sto → Prop) : Out → Env → Sto → Prop := fun o e s => match o with
 | .nx => Runs b e s Q
 | .rt d => Q (.rt d) e s
 | .bk => Q .bk e s
 | .ct => Q .ct e s
 | .er x => Q (.er x) e s
section
variable {m : MS} {env env' : Env} {st s : Sto} {Q : Out → Env → Sto → Prop} {d : D}
theorem run_f {n k : Nat} {ds : List D} {Q : D → Sto → Prop} (hl : ds.length = k) (h : Runs m (ds.map some ++ List.replicate (n - k) none) st (afterF Q)) : Ends' (runF n k m ds) st Q := by
 obtain ⟨o, e, s, h1, h2⟩ := h
 cases o with
 | nx => exact ⟨_, s, by unfold runF; rw [if_pos hl, h1], h2⟩
 | rt d => exact ⟨d, s, by unfold runF; rw [if_pos hl, h1], h2⟩
 | _ => exact h2.elim
theorem r_seqS {a b : MS} (h : Runs a env st (afterS b Q)) : Runs (seqS a b) env st Q := by
 obtain ⟨o, e, s, h1, h2⟩ := h
 cases o with
 | nx => obtain ⟨o2, e2, s2, h3, h4⟩ := h2; exact ⟨o2, e2, s2, by unfold seqS; rw [h1]; exact h3, h4⟩
 | _ => exact ⟨_, _, _, by unfold seqS; rw [h1], h2⟩
theorem r_setS {i : Nat} {e : Env → Mo D} (h : e env st = some (.ok d, s)) (k : Q .nx (env.set i (some d)) s) : Runs (setS i e) env st Q := ⟨_, _, _, bndS_ok h, k⟩
theorem r_retS {e : Env → Mo D} (h : e env st = some (.ok d, s)) (k : Q (.rt d) env s) : Runs (retS e) env st Q := ⟨_, _, _, bndS_ok h, k⟩
theorem r_retNS (k : Q (.rt .non) env st) : Runs retN env st Q := ⟨_, _, _, rfl, k⟩
theorem r_exprS {e : Env → Mo D} (h : e env st = some (.ok d, s)) (k : Q .nx env s) : Runs (exprS e) env st Q := ⟨_, _, _, bndS_ok h, k⟩
theorem r_asgS {e : Env → Mo D} {g : MG} {s' : Sto} (h : e env st = some (.ok d, s)) (h2 : g d env s = some (env', s')) (k : Q .nx env' s') : Runs (asgS e g) env st Q := ⟨_, _, _, (bndS_ok h).trans (by rw [h2]), k⟩
theorem r_subS {e : Env → Mo D} {mo mi : Env → Mo D} {o i : D} {s1 s2 s3 : Sto} (h : e env st = some (.ok d, s)) (ho : mo env s = some (.ok o, s1)) (hi : mi env s1 = some (.ok i, s2)) (h3 : setD o i d s2 = some s3) (k : Q .nx env s3) : Runs (asgS e (gSubM mo mi)) env st Q :=
 ⟨_, _, _, (bndS_ok h).trans (by unfold gSubM noEx; rw [ho]; dsimp only; rw [hi]; dsimp only; rw [h3]), k⟩
theorem r_passS (k : Q .nx env st) : Runs passS env st Q := ⟨_, _, _, rfl, k⟩
theorem r_ctnS (k : Q .ct env st) : Runs ctnS env st Q := ⟨_, _, _, rfl, k⟩
theorem r_ifT {t : Env → Mo Bool} {a b : MS} (h : t env st = some (.ok true, s)) (k : Runs a env s Q) : Runs (ifS t a b) env st Q := by
 obtain ⟨o, e, s2, h1, h2⟩ := k
 exact ⟨o, e, s2, (bndS_ok h).trans h1, h2⟩
theorem r_ifF {t : Env → Mo Bool} {a b : MS} (h : t env st = some (.ok false, s)) (k : Runs b env s Q) : Runs (ifS t a b) env st Q := by
 obtain ⟨o, e, s2, h1, h2⟩ := k
 exact ⟨o, e, s2, (bndS_ok h).trans h1, h2⟩
theorem r_ifB {t : Env → Mo Bool} {a b : MS} {k : Bool} (h : t env st = some (.ok k, s)) (h1 : k = true → Runs a env s Q) (h2 : k = false → Runs b env s Q) : Runs (ifS t a b) env st Q := by
 cases k with
 | true => exact r_ifT h (h1 rfl)
 | false => exact r_ifF h (h2 rfl)
theorem r_ifD {t : Env → Mo Bool} {a b : MS} {p : Prop} [Decidable p] (h : t env st = some (.ok (decide p), s)) (h1 : p → Runs a env s Q) (h2 : ¬ p → Runs b env s Q) : Runs (ifS t a b) env st Q := by
 by_cases hp : p
 ·exact r_ifT (by rw [h, decide_eq_true hp]) (h1 hp)
 ·exact r_ifF (by rw [h, decide_eq_false hp]) (h2 hp)
theorem r_whileS {t : Env → Mo Bool} {b : MS} (I : Env → Sto → Prop) (μ : Env → Sto → Nat) (h0 : I env st) (hμ : μ env st < 1000000000)
  (hs : ∀ env st, I env st → ∃ k s, t env st = some (.ok k, s) ∧ (k = true → Runs b env s fun o e s' => match o with
   | .nx => I e s' ∧ μ e s' < μ env st
   | .ct => I e s' ∧ μ e s' < μ env st
   | .bk => Q .nx e s'
   | o => Q o e s') ∧ (k = false → Q .nx env s)) : Runs (whileS t b) env st Q := by
 have main : ∀ (n : Nat) (env : Env) (st : Sto), I env st → μ env st < n → Runs (whileM t b n) env st Q := by
  intro n
  induction n with
  | zero => intro env st _ h; exact absurd h (Nat.not_lt_zero _)
  | succ n ih =>
   intro env st hI hn
   obtain ⟨k, s, h1, h2, h3⟩ := hs env st hI
   cases k with
   | false => exact ⟨_, _, _, by unfold whileM; rw [bndS_ok h1]; rfl, h3 rfl⟩
   | true =>
    obtain ⟨o, e, s2, h4, h5⟩ := h2 rfl
    cases o with
    | nx =>
     obtain ⟨o3, e3, s3, h6, h7⟩ := ih e s2 h5.1 (by omega)
     exact ⟨o3, e3, s3, by unfold whileM; rw [bndS_ok h1, if_pos rfl]; rw [h4]; exact h6, h7⟩
    | ct =>
     obtain ⟨o3, e3, s3, h6, h7⟩ := ih e s2 h5.1 (by omega)
     exact ⟨o3, e3, s3, by unfold whileM; rw [bndS_ok h1, if_pos rfl]; rw [h4]; exact h6, h7⟩
    | bk => exact ⟨_, e, s2, by unfold whileM; rw [bndS_ok h1, if_pos rfl]; rw [h4], h5⟩
    | rt d => exact ⟨_, e, s2, by unfold whileM; rw [bndS_ok h1, if_pos rfl]; rw [h4], h5⟩
    | er x => exact ⟨_, e, s2, by unfold whileM; rw [bndS_ok h1, if_pos rfl]; rw [h4], h5⟩
 exact main FUEL env st h0 (Nat.lt_trans hμ (by decide))
theorem r_forS {m : Env → Mo Gt} {g : Gt} {tg : MG} {b : MS} (N : Nat) (I : Nat → Env → Sto → Prop) (h : m env st = some (.ok g, s)) (hN : N < 1000000000) (h0 : I 0 env s)
  (hend : ∀ env st, I N env st → g N st = some none ∧ Q .nx env st)
  (hs : ∀ i env st, i < N → I i env st → ∃ d e1 s1, g i st = some (some d) ∧ tg d env st = some (e1, s1) ∧ Runs b e1 s1 fun o e s' => match o with
   | .nx => I (i + 1) e s'
   | .ct => I (i + 1) e s'
   | .bk => Q .nx e s'
   | o => Q o e s') : Runs (forS m tg b) env st Q := by
 have main : ∀ (n i : Nat) (env : Env) (st : Sto), i ≤ N → I i env st → N - i < n → Runs (forM g tg b n i) env st Q := by
  intro n
  induction n with
  | zero => intro i env st _ _ h; exact absurd h (Nat.not_lt_zero _)
  | succ n ih =>
   intro i env st hi hI hn
   by_cases he : i = N
   ·subst he
    obtain ⟨h1, h2⟩ := hend env st hI
    exact ⟨_, env, st, by unfold forM; rw [h1], h2⟩
   ·obtain ⟨d, e1, s1, h1, h2, o, e, s2, h4, h5⟩ := hs i env st (by omega) hI
    cases o with
    | nx =>
     obtain ⟨o3, e3, s3, h6, h7⟩ := ih (i + 1) e s2 (by omega) h5 (by omega)
     exact ⟨o3, e3, s3, by unfold forM; rw [h1]; dsimp only; rw [h2]; dsimp only; rw [h4]; exact h6, h7⟩
    | ct =>
     obtain ⟨o3, e3, s3, h6, h7⟩ := ih (i + 1) e s2 (by omega) h5 (by omega)
     exact ⟨o3, e3, s3, by unfold forM; rw [h1]; dsimp only; rw [h2]; dsimp only; rw [h4]; exact h6, h7⟩
    | bk => exact ⟨_, e, s2, by unfold forM; rw [h1]; dsimp only; rw [h2]; dsimp only; rw [h4], h5⟩
    | rt d => exact ⟨_, e, s2, by unfold forM; rw [h1]; dsimp only; rw [h2]; dsimp only; rw [h4], h5⟩
    | er x => exact ⟨_, e, s2, by unfold forM; rw [h1]; dsimp only; rw [h2]; dsimp only; rw [h4], h5⟩
 obtain ⟨o, e, s2, h1, h2⟩ := main FUEL 0 env s (Nat.zero_le _) h0 (Nat.lt_trans hN (by decide))
 exact ⟨o, e, s2, (bndS_ok h).trans h1, h2⟩
theorem r_lcE {m : Env → Mo Gt} {g : Gt} {tg : MG} {t : Env → Mo Bool} {el : Env → Mo D} {vs : List Nat} {R : D → Sto → Prop} (N : Nat) (I : Nat → List D → Sto → Prop) (h : m env st = some (.ok g, s)) (hN : N < 100000)
  (h0 : I 0 [] (s ++ [.lst []])) (hacc : ∀ i acc st, I i acc st → st[s.length]? = some (.lst acc))
  (hend : ∀ acc st, I N acc st → g N st = some none ∧ R (.ref s.length) st)
  (hs : ∀ i acc st, i < N → I i acc st → ∃ d e1 s1 k s2, g i st = some (some d) ∧ tg d (wipeE env vs) st = some (e1, s1) ∧ t e1 s1 = some (.ok k, s2) ∧
   (k = false → I (i + 1) acc s2) ∧ (k = true → ∃ y s3, el e1 s2 = some (.ok y, s3) ∧ s3[s.length]? = some (.lst acc) ∧ I (i + 1) (acc ++ [y]) (s3.set s.length (.lst (acc ++ [y]))))) :
  ∃ d s', lcE m tg t el vs env st = some (.ok d, s') ∧ R d s' := by
 have main : ∀ (n i : Nat) (acc : List D) (st : Sto), i ≤ N → acc.length ≤ i → I i acc st → N - i < n → ∃ s', lcM g tg t el (wipeE env vs) s.length n i st = some s' ∧ R (.ref s.length) s' := by
  intro n
  induction n with
  | zero => intro i acc st _ _ _ h; exact absurd h (Nat.not_lt_zero _)
  | succ n ih =>
   intro i acc st hi ha hI hn
   by_cases he : i = N
   ·subst he
    obtain ⟨h1, h2⟩ := hend acc st hI
    exact ⟨st, by unfold lcM; rw [h1], h2⟩
   ·obtain ⟨d, e1, s1, k, s2, h1, h2, h3, h4, h5⟩ := hs i acc st (by omega) hI
    cases k with
    | false =>
     obtain ⟨s', h6, h7⟩ := ih (i + 1) acc s2 (by omega) (by omega) (h4 rfl) (by omega)
     exact ⟨s', by unfold lcM; rw [h1]; dsimp only; rw [h2]; dsimp only; rw [h3]; exact h6, h7⟩
    | true =>
     obtain ⟨y, s3, h6, h7, h8⟩ := h5 rfl
     obtain ⟨s', h9, h10⟩ := ih (i + 1) (acc ++ [y]) _ (by omega) (by rw [List.length_append]; show acc.length + 1 ≤ _; omega) h8 (by omega)
     exact ⟨s', by unfold lcM; rw [h1]; dsimp only; rw [h2]; dsimp only; rw [h3]; dsimp only; rw [h6]; dsimp only; rw [h7]; dsimp only; rw [if_pos (by omega)]; exact h9, h10⟩
 obtain ⟨s', h1, h2⟩ := main FUEL 0 [] (s ++ [.lst []]) (Nat.zero_le _) (Nat.le_refl _) h0 (Nat.lt_trans hN (by decide))
 exact ⟨_, s', by unfold lcE; rw [bnd_ok h]; rw [h1], h2⟩
theorem atI_nn {α : Type} {xs : List α} {i : Int} {d : α} (h0 : 0 ≤ i) (h : xs[i.toNat]? = some d) : atI xs i = some d := by
 unfold atI
 rw [ixN_in h0 (by have := (List.getElem?_eq_some_iff.mp h).1; omega)]
 exact h
theorem line : LINE = 1000000 := rfl
theorem lt_of {α : Type} {st : List α} {n : Nat} {o : α} (h : st[n]? = some o) : n < st.length := (List.getElem?_eq_some_iff.mp h).1
theorem getA {α : Type} {st g : List α} {n : Nat} {o : α} (h : st[n]? = some o) : (st ++ g)[n]? = some o := by rw [List.getElem?_append_left (lt_of h)]; exact h
theorem getS {α : Type} {st : List α} {n k : Nat} {o x : α} (h : st[n]? = some o) (hne : k ≠ n) : (st.set k x)[n]? = some o := by rw [List.getElem?_set_ne hne]; exact h
theorem getN {α : Type} {st : List α} {x : α} : (st ++ [x])[st.length]? = some x := by simp
theorem getSS {α : Type} {st : List α} {n : Nat} {o x : α} (h : st[n]? = some o) : (st.set n x)[n]? = some x := List.getElem?_set_self (lt_of h)
end
end M
namespace M
open PySem PySem.Spec PyProof.Rows L2 G
def R_drw (g l : Nat) (r t m : Int) : List (Key × D) := [(.inr "great", .ref g), (.inr "cells", .ref l), (.inr "rest", .int r), (.inr "turn", .int t), (.inr "more", .int m)]
section
variable {g l : Nat} {r t m : Int} {z : Int}
theorem vd_great : valD (R_drw g l r t m) (.inr "great") = some (.ref g) := by rfl
theorem vd_cells : valD (R_drw g l r t m) (.inr "cells") = some (.ref l) := by rfl
theorem vd_rest : valD (R_drw g l r t m) (.inr "rest") = some (.int r) := by rfl
theorem vd_turn : valD (R_drw g l r t m) (.inr "turn") = some (.int t) := by rfl
theorem vd_more : valD (R_drw g l r t m) (.inr "more") = some (.int m) := by rfl
theorem pd_rest : putD (R_drw g l r t m) (.inr "rest") (.int z) = R_drw g l z t m := by rfl
theorem pd_turn : putD (R_drw g l r t m) (.inr "turn") (.int z) = R_drw g l r z m := by rfl
theorem pd_more : putD (R_drw g l r t m) (.inr "more") (.int z) = R_drw g l r t z := by rfl
theorem ln_drw : (R_drw g l r t m).length = 5 := by rfl
end
structure Same (is : List Nat) (st st' : Sto) : Prop where
 len : st.length ≤ st'.length
 eq : ∀ n o, st[n]? = some o → n ∉ is → st'[n]? = some o
theorem Same.refl {is : List Nat} {st : Sto} : Same is st st := ⟨Nat.le_refl _, fun _ _ h _ => h⟩
theorem Same.trans {is : List Nat} {a b c : Sto} (h : Same is a b) (h2 : Same is b c) : Same is a c := ⟨Nat.le_trans h.len h2.len, fun n o e hn => h2.eq n o (h.eq n o e hn) hn⟩
theorem Same.app {is : List Nat} {st g : Sto} : Same is st (st ++ g) := ⟨by simp, fun n o h _ => getA h⟩
theorem Same.set {is : List Nat} {st : Sto} {n : Nat} {o : Ob} (h : n ∈ is) : Same is st (st.set n o) := ⟨by simp, fun k x e hk => getS e fun z => hk (z ▸ h)⟩
theorem Same.setN {is : List Nat} {st s : Sto} {n : Nat} {o : Ob} (h : Same is st s) (hn : st.length ≤ n) : Same is st (s.set n o) := ⟨by rw [List.length_set]; exact h.len, fun k x e hk => getS (h.eq k x e hk) fun z => by have := lt_of e; omega⟩
end M
namespace M
open PySem PySem.Spec PyProof.Rows L2 G
variable {c : MC}
section
variable {W : Wx} {σ : L2.St} {ρ ρ1 ρ' : List Addr} {H H1 H' : Hp} {st st1 st' : Sto} {env env' : Env} {X : Cx}
theorem _root_.L2.PG.pick {e : Expr} {t' : TG} (hi : ∀ v σ H Q, t' v σ H Q → ∃ t, PG X e t ∧ t v σ H Q) : PG X e t' := ⟨fun pins s σ H v u Q I r q => let ⟨t, h, h2⟩ := hi v σ H Q q; h.run pins s σ H v u Q I r h2⟩
theorem gs_starC {e : Expr} {es : List Expr} {p : Pos} {g : MG} {gs : List D → Env → Sto → Option (Env × Sto)} {vs ws : List Nat} (h1 : PG X e (tG c vs g)) (h2 : PGs X es (tGs c ws gs))
  (hs : (assignEach (.Starred e p :: es) X.env).map (·.2) = assign e X.env :: (assignEach es X.env).map (·.2) := by rfl) : PGs X (.Starred e p :: es) (tGs c (vs ++ ws) (gsCons g gs)) := (pgs_starC h1 h2 hs).imp fun us σ H Q ⟨ρ, st, env, ds, env', st', R, E, r, e, F⟩ => by
 cases r with
 | nil => cases e
 | @cons v d us ds hv ht =>
  unfold gsCons at e
  try dsimp only at e
  cases hg : g d env st with
  | none => rw [hg] at e; cases e
  | some p =>
   obtain ⟨env1, st1⟩ := p
   rw [hg] at e
   refine ⟨v, us, rfl, ρ, st, env, d, env1, st1, R, E, hv, hg, fun ρ1 H1 σ1 t1 R1 E1 l1 a1 => ?_⟩
   refine ⟨ρ1, st1, env1, ds, env', st', R1, E1, ht.mono t1, e, fun ρ2 H2 σ2 t2 R2 E2 l2 a2 => ?_⟩
   exact F ρ2 H2 σ2 (t1.trans t2) R2 E2 (l2.trans l1) fun j hj => (a2 j fun m => hj (List.mem_append_right _ m)).trans (a1 j fun m => hj (List.mem_append_left _ m))
def gStarM (n i : Nat) (gs : List D → Env → Sto → Option (Env × Sto)) : MG := fun d env st => match lstOf d st with
 | some xs => if n ≤ xs.length + 1 then gs (xs.take i ++ [.ref st.length] ++ (xs.drop i).drop (xs.length + 1 - n)) env (st ++ [.lst ((xs.drop i).take (xs.length + 1 - n))]) else none
 | none => match tupOf d with
  | some xs => if i + 1 = n ∧ i ≤ xs.length then gs (xs.take i ++ [.ref st.length]) env (st ++ [.lst (xs.drop i)]) else none
  | none => none
theorem g_starL {es : List Expr} {k : Nat} {n i : Nat} {gs : List D → Env → Sto → Option (Env × Sto)} {vs : List Nat} {pos : Pos} (hc : X.calm = true) (h : PGs X es (tGs c vs gs)) (hi : i < n := by decide) (hn : (assignEach es X.env).length = n := by rfl) (hst : (assignEach es X.env).findIdx? (·.1) = some i := by rfl) (hK : X.K = c.K := by rfl) :
  PG X (.Tuple es k pos) (tG c vs (gStarM n i gs)) := PG.pick fun v σ H Q ⟨ρ, st, env, d, env', st', R, E, r, e, F⟩ => by
 unfold gStarM at e
 cases hl : lstOf d st with
 | some xs =>
  rw [hl] at e
  dsimp only at e
  refine ⟨_, pg_starL c.K n i hc h hi hn hst hK, ?_⟩
  by_cases h1 : n ≤ xs.length + 1
  ·rw [if_pos h1] at e
   obtain ⟨a, us, rfl, hq, hu⟩ := lstOf_inv R r hl
   refine ⟨a, us, rfl, hq, by rw [hu.length]; exact h1, fun p hp => ?_⟩
   rw [hu.length]
   obtain ⟨R1, T, rP⟩ := R.new hp (.lst (c := c) ((hu.drop i).take (xs.length + 1 - n)))
   exact ⟨_, _, env, _, env', st', R1, E.mono T, ((((hu.take i).mono T).app (.cons rP .nil)).app ((((hu.drop i).drop _)).mono T)), e, fun ρ' H' σ' t R' E' l a => F ρ' H' σ' (T.trans t) R' E' l a⟩
  ·rw [if_neg h1] at e; cases e
 | none =>
  rw [hl] at e
  dsimp only at e
  cases ht : tupOf d with
  | none => rw [ht] at e; cases e
  | some xs =>
   rw [ht] at e
   dsimp only at e
   by_cases h1 : i + 1 = n ∧ i ≤ xs.length
   ·rw [if_pos h1] at e
    obtain ⟨a, us, rfl, hq, hu⟩ := tup_inv r ht
    refine ⟨_, pg_star c.K i hc h (by rw [hn, h1.1]) hst hK, a, us, rfl, hq, by rw [hu.length]; exact h1.2, fun p hp => ?_⟩
    obtain ⟨R1, T, rP⟩ := R.new hp (.lst (c := c) (hu.drop i))
    exact ⟨_, _, env, _, env', st', R1, E.mono T, (((hu.take i).mono T).app (.cons rP .nil)), e, fun ρ' H' σ' t R' E' l a => F ρ' H' σ' (T.trans t) R' E' l a⟩
   ·rw [if_neg h1] at e; cases e
def gFldM (cs : List Nat) (f : Nat) (mo : Env → Mo D) : MG := fun d env st => match noEx mo env st with
 | some (o, st1) => match setFld cs f o d st1 with
  | some st2 => some (env, st2)
  | none => none
 | none => none
theorem g_fld {e : Expr} {nm : Str} {pos : Pos} {cs : List Nat} {f : Nat} {mo : Env → Mo D} (hc : ∀ C ∈ cs, FldOk c C f) (hf : c.nm f = nm) (ha : PE X e (tM c W0 mo)) (hK : X.K = c.K := by rfl) : PG X (.Attribute e nm pos) (tG c [] (gFldM cs f mo)) :=
 (pg_fld c.K ha hK).imp fun v σ H Q ⟨ρ, st, env, d, env', st', R, E, r, e, F⟩ => by
  unfold gFldM at e
  cases hm : noEx mo env st with
  | none => rw [hm] at e; cases e
  | some p =>
   obtain ⟨o, st1⟩ := p
   rw [hm] at e
   dsimp only at e
   cases hs : setFld cs f o d st1 with
   | none => rw [hs] at e; cases e
   | some st2 =>
    rw [hs] at e
    cases e
    refine ⟨ρ, st, env, .ok o, st1, R, E, noEx_inv hm, fun ρ1 H1 t1 R1 x hx => ?_⟩
    rw [← hf]
    exact c_setFld hc R1 hx (r.mono t1) hs fun H2 t2 R2 => F _ H2 σ (t1.trans t2) R2 (E.mono (t1.trans t2)) rfl fun _ _ => rfl
def keyD : Key → D
 | .inl i => .int i
 | .inr s => .str s
def listK : List D → Mo D := fun as st => match as with
 | [.ref n] => match st[n]? with
  | some (.dK kvs) => some (.ok (.ref st.length), st ++ [.lst (kvs.map fun kv => keyD kv.1)])
  | _ => none
 | _ => none
theorem rks_keys {vs : List (Key × V)} {ds : List (Key × D)} (h : RKs c ρ H vs ds) : RVs c ρ H (vs.map fun kv => kV kv.1) (ds.map fun kv => keyD kv.1) := by
 induction h with
 | nil => exact .nil
 | @cons k v d vs ds r t ih =>
  have hk : RV c ρ H (kV k) (keyD k) := by
   cases k with
   | inl i => exact .int i
   | inr s => exact .str s
  exact .cons hk ih
theorem c_listK : CallC c listK rListD := fun {W σ ρ st st' H xs as res Q} R rs e F => by
 unfold listK at e
 split at e
 ·rename_i n
  cases hn : st[n]? with
  | none => rw [hn] at e; cases e
  | some o =>
   rw [hn] at e
   cases o with
   | dK kvs =>
    cases e
    obtain ⟨v, rfl, rv⟩ := rv1 rs
    obtain ⟨a, us, rfl, _, ha, hu⟩ := dk_at R rv hn
    refine ⟨a, us, rfl, ha, fun p hp => ?_⟩
    obtain ⟨R', T, r⟩ := R.new hp (.lst (rks_keys hu))
    exact F.ok T R' _ r
   | _ => cases e
 ·cases e
def altC (f g : List D → Mo D) : List D → Mo D := fun as st => match f as st with
 | none => g as st
 | r => r
theorem CallC.or {f g : List D → Mo D} {r1 r2 : List V → Hp → VK → Prop} (h1 : CallC c f r1) (h2 : CallC c g r2) : CallC c (altC f g) (fun x H Q => r1 x H Q ∨ r2 x H Q) := fun {W σ ρ st st' H xs as res Q} R rs e F => by
 unfold altC at e
 cases hf : f as st with
 | none => rw [hf] at e; exact .inr (h2 R rs e F)
 | some p => rw [hf] at e; cases e; exact .inl (h1 R rs hf F)
def listE : List D → Mo D := altC listD listK
theorem c_listE : CallC c listE (fun x H Q => rListOf c.K x H Q ∨ rListD x H Q) := CallC.or c_list c_listK
theorem o_listE (hc : X.calm = true) (hK : X.K = c.K := by rfl) : CallR X (.type "list") (fun x H Q => rListOf c.K x H Q ∨ rListD x H Q) := CallR.or (cl_listK c.K hK) (call_list_dK hc)
end
end M
namespace M
open PySem PySem.Spec PyProof.Rows L2 G
structure SI where
 I : Sto → Prop
 app : ∀ st g, I st → I (st ++ g)
def SI.top : SI := ⟨fun _ => True, fun _ _ h => h⟩
def SI.wth (J : SI) (n : Nat) (o : Ob) : SI := ⟨fun st => J.I st ∧ st[n]? = some o, fun st g h => ⟨J.app st g h.1, getA h.2⟩⟩
def Pure {α : Type} (J : SI) (f : Mo α) (r : α) : Prop := ∀ st, J.I st → ∃ g, f st = some (.ok r, st ++ g)
section
variable {J : SI} {α β : Type} {env env0 : Env} {st s : Sto} {a b d r : D} {m1 m2 : Env → Mo D}
theorem p_ret {r : α} : Pure J (ret r) r := fun st hI => ⟨[], by unfold ret; rw [List.append_nil]⟩
theorem p_bnd {m : Mo α} {k : α → Mo β} {a : α} {r : β} (h : Pure J m a) (h2 : Pure J (k a) r) : Pure J (bnd m k) r := fun st hI => by
 obtain ⟨g, e⟩ := h st hI
 obtain ⟨g2, e2⟩ := h2 (st ++ g) (J.app _ _ hI)
 exact ⟨g ++ g2, by rw [bnd_ok e, e2, List.append_assoc]⟩
theorem p_var {i : Nat} (h : env[i]? = some (some d)) : Pure J (var i env) d := by unfold var; rw [h]; exact p_ret
theorem p_cst : Pure J (cst d env) d := p_ret
theorem p_op2 {f : D → D → Mo D} (h1 : Pure J (m1 env) a) (h2 : Pure J (m2 env) b) (h : Pure J (f a b) r) : Pure J (op2 f m1 m2 env) r := p_bnd h1 (p_bnd h2 h)
theorem p_tru {k : Bool} (h : Pure J (m1 env) (.bl k)) : Pure J (tru m1 env) k := p_bnd h p_ret
theorem p_nil : Pure J (aNil env) [] := p_ret
theorem p_cons {ms : Env → Mo (List D)} {as : List D} (h : Pure J (m1 env) a) (h2 : Pure J (ms env) as) : Pure J (aCons m1 ms env) (a :: as) := p_bnd h (p_bnd h2 p_ret)
theorem p_opN {f : List D → Mo D} {ms : Env → Mo (List D)} {as : List D} (h : Pure J (ms env) as) (h2 : Pure J (f as) r) : Pure J (opN f ms env) r := p_bnd h h2
theorem p_of {f : Mo α} {r : α} (h : ∀ st, f st = some (.ok r, st)) : Pure J f r := fun st hI => ⟨[], by rw [h, List.append_nil]⟩
theorem p_ofI {f : Mo α} {r : α} (h : ∀ st, J.I st → f st = some (.ok r, st)) : Pure J f r := fun st hI => ⟨[], by rw [h st hI, List.append_nil]⟩
variable {e : Env → Mo D} {env1 env' : Env} {o : Out} {x y : MS} {t : Env → Mo Bool}
theorem lc_pure {ζ : Type} (hs0 : J.I s) {m : Env → Mo Gt} {g : Gt} {tg : MG} {t : Env → Mo Bool} {el : Env → Mo D} {vs : List Nat} {zs : List ζ} {φ : ζ → D} {E : ζ → Env} {p : ζ → Bool} {f : ζ → D} (h : m env st = some (.ok g, s)) (hg : ∀ i x, g i (s ++ x) = some (zs.map φ)[i]?) (hl : zs.length < 100000)
  (htg : ∀ z ∈ zs, ∀ st, tg (φ z) (wipeE env vs) st = some (E z, st)) (ht : ∀ z ∈ zs, Pure J (t (E z)) (p z)) (hel : ∀ z ∈ zs, p z = true → Pure J (el (E z)) (f z)) :
  ∃ x, lcE m tg t el vs env st = some (.ok (.ref s.length), s ++ ([.lst ((zs.filter p).map f)] ++ x)) := by
 have key := r_lcE (R := fun d s' => d = .ref s.length ∧ ∃ x, s' = s ++ ([.lst ((zs.filter p).map f)] ++ x)) (tg := tg) (t := t) (el := el) (vs := vs) zs.length (fun i acc st => acc = ((zs.take i).filter p).map f ∧ ∃ x, st = s ++ ([.lst acc] ++ x)) h hl ⟨by simp, [], by simp⟩
  (fun i acc st ⟨_, x, e⟩ => by rw [e]; simp) (fun acc st ⟨e, x, e2⟩ => ⟨by rw [e2, hg]; simp, rfl, x, by rw [e2, e, List.take_length]⟩) ?_
 ·obtain ⟨d, s', h1, rfl, x, rfl⟩ := key
  exact ⟨x, h1⟩
 ·rintro i acc _ hi ⟨rfl, x, rfl⟩
  have hx : (zs.map φ)[i]? = some (φ zs[i]) := by rw [List.getElem?_map, List.getElem?_eq_getElem hi]; rfl
  have hm : zs[i] ∈ zs := List.getElem_mem hi
  have htk : zs.take (i + 1) = zs.take i ++ [zs[i]] := (List.take_append_getElem hi).symm
  obtain ⟨g1, e1⟩ := ht _ hm (s ++ ([.lst (((zs.take i).filter p).map f)] ++ x)) (J.app _ _ hs0)
  refine ⟨φ zs[i], E zs[i], _, p zs[i], _, by rw [hg, hx], htg _ hm _, e1, fun hp => ?_, fun hp => ?_⟩
  ·refine ⟨by rw [htk, List.filter_append, List.filter_cons_of_neg (by rw [hp]; decide), List.filter_nil, List.append_nil], x ++ g1, by simp⟩
  ·obtain ⟨g2, e2⟩ := hel _ hm hp (s ++ ([.lst (((zs.take i).filter p).map f)] ++ x) ++ g1) (J.app _ _ (J.app _ _ hs0))
   refine ⟨f zs[i], _, e2, by simp, ?_, x ++ (g1 ++ g2), ?_⟩
   ·rw [htk, List.filter_append, List.filter_cons_of_pos hp, List.filter_nil, List.map_append]; rfl
   ·simp
def IterP (J : SI) (m : Env → Mo Gt) (env : Env) (xs : List D) : Prop := ∀ st, J.I st → ∃ g x, m env st = some (.ok g, st ++ x) ∧ ∀ i y, g i (st ++ x ++ y) = some xs[i]?
theorem ip_seq {xs : List D} (hp : Pure J (m1 env) d) (hs : ∀ st, J.I st → seqOf d st = some xs) (hd : ∀ s, d ≠ .str s) : IterP J (iterM m1) env xs := fun st hI => by
 obtain ⟨x, e⟩ := hp st hI
 have h0 := hs (st ++ x) (J.app _ _ hI)
 refine ⟨gSeq d, x, ?_, fun i y => ?_⟩
 ·unfold iterM
  rw [bnd_ok e]
  cases d with
  | str s => exact absurd rfl (hd s)
  | _ => dsimp only; rw [h0]
 ·unfold gSeq
  have h1 := hs (st ++ x ++ y) (J.app _ _ (J.app _ _ hI))
  cases d with
  | str s => exact absurd rfl (hd s)
  | _ => dsimp only; rw [h1]
theorem lc_ip {ζ : Type} {m : Env → Mo Gt} {tg : MG} {t : Env → Mo Bool} {el : Env → Mo D} {vs : List Nat} {zs : List ζ} (φ : ζ → D) (E : ζ → Env) (p : ζ → Bool) (f : ζ → D) (h : IterP J m env (zs.map φ)) (hl : zs.length < 100000)
  (htg : ∀ z ∈ zs, ∀ st, tg (φ z) (wipeE env vs) st = some (E z, st)) (ht : ∀ z ∈ zs, Pure J (t (E z)) (p z)) (hel : ∀ z ∈ zs, p z = true → Pure J (el (E z)) (f z)) (st : Sto) (hI : J.I st) :
  ∃ g x, lcE m tg t el vs env st = some (.ok (.ref (st ++ g).length), st ++ g ++ ([.lst ((zs.filter p).map f)] ++ x)) := by
 obtain ⟨g, x, h1, h2⟩ := h st hI
 obtain ⟨y, h3⟩ := lc_pure (J.app _ _ hI) h1 h2 hl htg ht hel
 exact ⟨x, y, h3⟩
theorem lc_all {ζ : Type} {m : Env → Mo Gt} {tg : MG} {el : Env → Mo D} {vs : List Nat} {zs : List ζ} (φ : ζ → D) (E : ζ → Env) (f : ζ → D) (h : IterP J m env (zs.map φ)) (hl : zs.length < 100000)
  (htg : ∀ z ∈ zs, ∀ st, tg (φ z) (wipeE env vs) st = some (E z, st)) (hel : ∀ z ∈ zs, Pure J (el (E z)) (f z)) (st : Sto) (hI : J.I st) :
  ∃ g x, lcE m tg yesT el vs env st = some (.ok (.ref (st ++ g).length), st ++ g ++ ([.lst (zs.map f)] ++ x)) := by
 have key := lc_ip (t := yesT) φ E (fun _ => true) f h hl htg (fun _ _ => p_ret) (fun z hz _ => hel z hz) st hI
 rw [List.filter_eq_self.mpr fun _ _ => rfl] at key
 exact key
def NewP (J : SI) (e : Env → Mo D) (env : Env) (xs : List D) : Prop := ∀ st, J.I st → ∃ n g, e env st = some (.ok (.ref n), st ++ g) ∧ (st ++ g)[n]? = some (.lst xs)
theorem n_lc {lc : Env → Mo D} {out : List D} (h : ∀ st, J.I st → ∃ g x, lc env st = some (.ok (.ref (st ++ g).length), st ++ g ++ ([.lst out] ++ x))) : NewP J lc env out := fun st hI => by
 obtain ⟨g, x, h1⟩ := h st hI
 exact ⟨(st ++ g).length, g ++ ([.lst out] ++ x), by rw [h1, List.append_assoc], by rw [← List.append_assoc]; simp⟩
theorem add_tup {x y : D} {xs ys : List D} {st : Sto} (h : (x :: xs).length + (y :: ys).length ≤ 1000000) : addD (.tup (x :: xs)) (.tup (y :: ys)) st = some (.ok (.tup (x :: xs ++ y :: ys)), st) := by
 have e : addD (.tup (x :: xs)) (.tup (y :: ys)) st = addTup (.tup (x :: xs)) (.tup (y :: ys)) st := rfl
 rw [e]
 unfold addTup tupOf
 dsimp only
 rw [if_pos h]
theorem add_str {a b : Str} {st : Sto} (h : a.length + b.length ≤ 1000000) : addD (.str a) (.str b) st = some (.ok (.str (a ++ b)), st) := by
 unfold addD alt addI
 dsimp only
 rw [if_pos h]
 first | done | rfl
end
end M
namespace M
open PySem PySem.Spec PyProof.Rows L2 G
variable {c : MC}
def indexDp : D → List D → Mo D := fun o as st => match as with
 | [d] => match toP DEEP st o, toP DEEP st d with
  | some (.list qs), some p => if SeqAt.shaped (.list qs) && SeqAt.shaped p then (qs.findIdx? fun z => PyData.eqv z p).map fun j => (.ok (.int (j : Nat)), st) else none
  | _, _ => none
 | _ => none
def indexS : D → List D → Mo D := fun o as st => match o, as with
 | .str a, [.str b] => match Builtin.Str.occurrences a b 0 a.length 1 with
  | i :: _ => some (.ok (.int (i : Nat)), st)
  | [] => none
 | _, _ => none
def repS (z : Str) (n : Nat) : Str := ⟨((List.replicate n z.cps.toList).flatten).toArray⟩
theorem fold_arr : ∀ (l : List (Array Nat)) (a : Array Nat), (l.foldl (· ++ ·) a).toList = a.toList ++ (l.map Array.toList).flatten
 | [], a => by simp
 | x :: l, a => by rw [List.foldl_cons, fold_arr l, Array.toList_append, List.map_cons, List.flatten_cons, List.append_assoc]
theorem repS_fold (z : Str) (n : Nat) : (⟨(List.replicate n z.cps).foldl (· ++ ·) #[]⟩ : Str) = repS z n := by
 unfold repS
 congr 1
 apply Array.ext'
 rw [fold_arr, List.map_replicate]
 simp
theorem repS_len (z : Str) (n : Nat) : (repS z n).length = n * z.length := by
 show ((List.replicate n z.cps.toList).flatten).toArray.size = _
 rw [List.size_toArray, List.length_flatten, List.map_replicate, List.sum_replicate_nat]
 first | done | rfl
theorem repS_one (z : Str) : repS z 1 = z := by
 unfold repS
 simp
def rMulSt : R2 := fun x y H Q => ∃ (z : Str) (n : Int), x = .str z ∧ y = .int n ∧ 0 < z.length ∧ z.length * n.toNat ≤ 1000000 ∧ -1000000 ≤ n ∧ Q (.str (repS z n.toNat)) H
theorem op_mulSt {X : Cx} : OpR X (binaryOp .Mult) rMulSt := by
 intro pins s σ H x y v u Q I rx ry ⟨z, n, ex, ey, hz, h9, h0, q⟩
 subst ex; subst ey
 obtain ⟨t, rfl⟩ := rx
 obtain ⟨t', rfl⟩ := ry
 have hnn : n.toNat ≤ 1000000 := Nat.le_trans (Nat.le_mul_of_pos_left _ hz) h9
 have hnz : z.length ≤ 1000000 ∨ n < 1 := by
  by_cases h : n < 1
  ·exact .inr h
  ·exact .inl (Nat.le_trans (Nat.le_mul_of_pos_right _ (by omega)) h9)
 refine PySem.P.mul_str ?_ (fun h1 _ => ?_) (fun h1 _ => ?_) ?_
 ·rw [decide_eq_false (show ¬ n < -(2 ^ 63 : Int) by omega), decide_eq_false (show ¬ n ≥ 2 ^ 63 by omega)]; rfl
 ·have : (1000000 : Int) ≤ (2 ^ 63 - 1) / n := by
   rw [Int.le_ediv_iff_mul_le (by omega)]; omega
  omega
 ·unfold Builtin.Str.tooLong
  have : (1000000 : Nat) ≤ sizeLine := by decide
  exact decide_eq_false (by omega)
 ·by_cases h1 : n < 1
  ·rw [if_pos h1]
   have e : n.toNat = 0 := by omega
   rw [e] at q
   exact ⟨by decide, .str _, H, I.tok _, ⟨_, rfl⟩, q⟩
  ·rw [if_neg h1]
   by_cases h2 : (n == 1 || z.length == 0) = true
   ·rw [if_pos h2]
    have e : n.toNat = 1 := by
     rw [Bool.or_eq_true, beq_iff_eq, beq_iff_eq] at h2
     omega
    rw [e, repS_one] at q
    exact ⟨.str z, H, I, ⟨_, rfl⟩, q⟩
   ·rw [if_neg h2, repS_fold]
    have hs : (repS z n.toNat).length ≤ 1000000 := by rw [repS_len, Nat.mul_comm]; exact h9
    exact ⟨Nat.le_trans hs (by decide), .str _, H, I.tok _, ⟨_, rfl⟩, q⟩
def mulSt : D → D → Mo D
 | .str z, .int n => fun st => if 0 < z.length ∧ z.length * n.toNat ≤ 1000000 ∧ -1000000 ≤ n then some (.ok (.str (repS z n.toNat)), st) else none
 | _, _ => stuck
theorem c_mulSt : OpC c mulSt rMulSt := fun {W σ ρ st st' H x y a b res Q} R rx ry e F => by
 cases rx with
 | str z => cases ry with
  | int n =>
   unfold mulSt at e
   dsimp only at e
   by_cases h : 0 < z.length ∧ z.length * n.toNat ≤ 1000000 ∧ -1000000 ≤ n
   ·rw [if_pos h] at e
    cases e
    exact ⟨z, n, rfl, rfl, h.1, h.2.1, h.2.2, F.ok .refl R _ (.str _)⟩
   ·rw [if_neg h] at e; cases e
  | _ => cases e
 | _ => cases ry <;> cases e
def repL (n : Nat) (xs : List D) : List D := (List.replicate n xs).flatten
def mulLs : D → D → Mo D
 | .ref k, .int n => fun st => match st[k]? with
  | some (.lst xs) => if -(2 ^ 63) ≤ n ∧ n < 2 ^ 63 ∧ xs.length * n.toNat ≤ 1000000 then some (.ok (.ref st.length), st ++ [.lst (repL n.toNat xs)]) else none
  | _ => none
 | _, _ => stuck
theorem rvs_rep {ρ : List Addr} {H : Hp} {vs : List V} {ds : List D} (h : RVs c ρ H vs ds) : ∀ n, RVs c ρ H (List.replicate n vs).flatten (List.replicate n ds).flatten
 | 0 => .nil
 | n + 1 => by rw [List.replicate_succ, List.replicate_succ, List.flatten_cons, List.flatten_cons]; exact h.app (rvs_rep h n)
theorem c_mulLs : OpC c mulLs rRep := fun {W σ ρ st st' H x y a b res Q} R rx ry e F => by
 cases a with
 | ref k => cases b with
  | int n =>
   cases rx with
   | ref hk =>
    cases ry
    unfold mulLs at e
    dsimp only at e
    cases hm : st[k]? with
    | none => rw [hm] at e; cases e
    | some o => cases o with
     | lst xs =>
      rw [hm] at e
      dsimp only at e
      by_cases h : -(2 ^ 63) ≤ n ∧ n < 2 ^ 63 ∧ xs.length * n.toNat ≤ 1000000
      ·rw [if_pos h] at e
       cases e
       obtain ⟨a', ho, h1, h2, h3⟩ := R.ob k _ hm
       rw [hk] at h1
       cases h1
       cases h3 with
       | un h3 =>
        cases h3 with
        | lst hv =>
         refine ⟨_, n, _, rfl, rfl, h2, h.1, h.2.1, ?_, fun p hp => ?_⟩
         ·rw [hv.length]; exact Nat.le_trans h.2.2 (by decide)
         ·obtain ⟨R', T, r⟩ := R.new hp (.lst (rvs_rep hv n.toNat))
          exact F.ok T R' _ r
      ·rw [if_neg h] at e; cases e
     | _ => rw [hm] at e; cases e
  | _ => cases e
 | _ => cases b <;> cases e
def mulE : D → D → Mo D := alt mulD (alt mulSt mulLs)
theorem c_mulE : OpC c mulE (fun x y H Q => (rI CMul (fun i j => .int (i * j)) x y H Q ∨ rI CMulW (fun i j => .int (i * j)) x y H Q) ∨ rMulSt x y H Q ∨ rRep x y H Q) := OpC.or c_mulD (OpC.or c_mulSt c_mulLs)
theorem o_mulE {X : Cx} : OpR X (binaryOp .Mult) (fun x y H Q => (rI CMul (fun i j => .int (i * j)) x y H Q ∨ rI CMulW (fun i j => .int (i * j)) x y H Q) ∨ rMulSt x y H Q ∨ rRep x y H Q) := OpR.or o_mulD (OpR.or op_mulSt op_rep)
end M
namespace PySem.SeqAt
open AutoSeq1 (wpAny_loadPart')
open MeetsSeq MeetsSeq2 MeetsSeq3 SeqRoads2
section
variable {prog : Program} {w : World}
theorem lneq_go (p q : Addr) (us vs : Array Value) (k1 k2 : Nat) (d1 d2 : Option Addr) (t1 t2 : Array (Option Value)) (hz : us.size = vs.size) (left : Nat) :
  ∀ i : Nat, us.size - i = left → MeetsIn prog w (Builtin.«list.__eq__.loop» ⟨[.ref p, .ref q, rawInt i, rawInt 3], []⟩) fun A R s =>
    s.heap.get? p = some { cls := .type "list", dict := d1, data := .seq us k1, slots := t1 } ∧ s.heap.get? q = some { cls := .type "list", dict := d2, data := .seq vs k2, slots := t2 } ∧
    (∀ (j : Nat) (a1 : j < us.size) (a2 : j < vs.size), EqIn prog w A.in1 s us[j] vs[j] true) ∧ R (.ok (.ret (.bool false))) s := by
 induction left with
 | zero =>
  intro i hi A R s g
  obtain ⟨hp0, gen, dr, tok, ost⟩ := s
  obtain ⟨e1, e2, hall, g⟩ := g
  wp_walk using wpAny_loadPart' e1, wpAny_loadPart' e2
  have n1 : us[((i : Nat) : Int).toNat]? = none := by simp; omega
  have n2 : vs[((i : Nat) : Int).toNat]? = none := by simp; omega
  rw [n1, n2]
  wp_walk using wpAny_loadPart' e1, wpAny_loadPart' e2
  show R (.ok (.ret (.bool (us.size != vs.size)))) _
  simpa [hz] using g
 | succ left ih =>
  intro i hi A R s g
  obtain ⟨hp0, gen, dr, tok, ost⟩ := s
  obtain ⟨e1, e2, hall, g⟩ := g
  wp_walk using wpAny_loadPart' e1, wpAny_loadPart' e2
  have l1 : i < us.size := by omega
  have l2 : i < vs.size := by omega
  have n1 : us[((i : Nat) : Int).toNat]? = some us[i] := by simp [l1]
  have n2 : vs[((i : Nat) : Int).toNat]? = some vs[i] := by simp [l2]
  have cs : ((i : Int) + 1) = ((i + 1 : Nat) : Int) := by push_cast; rfl
  rw [n1, n2]
  refine wpAny_bind (hall i l1 l2 _ _ ?_)
  wp_walk
  rw [cs]
  refine ⟨plainId_quiet plain_eq_loop _, codeAny_builtin entry_eq_loop ?_⟩
  rw [Around.under_plainId plain_eq_loop _]
  exact ih (i + 1) (by omega) A R _ ⟨e1, e2, hall, g⟩
theorem lneq_in (p q : Addr) (us vs : Array Value) (k1 k2 : Nat) (d1 d2 : Option Addr) (t1 t2 : Array (Option Value)) (hz : us.size = vs.size) :
  MeetsIn prog w (Builtin.«list.__ne__» ⟨[.ref p, .ref q], []⟩) fun A R s =>
    s.heap.get? p = some { cls := .type "list", dict := d1, data := .seq us k1, slots := t1 } ∧ s.heap.get? q = some { cls := .type "list", dict := d2, data := .seq vs k2, slots := t2 } ∧
    (∀ (j : Nat) (a1 : j < us.size) (a2 : j < vs.size), EqIn prog w A.in1 s us[j] vs[j] true) ∧ R (.ok (.ret (.bool false))) s := by
 intro A R s g
 obtain ⟨hp0, gen, dr, tok, ost⟩ := s
 obtain ⟨e1, e2, hall, g⟩ := g
 have sub := AutoSeq1.sub_list_list
 have same : ¬ (us.size != vs.size) = true := by simp [hz]
 wp_walk using wpAny_loadPart' e1, wpAny_loadPart' e2
 refine ⟨plainId_quiet plain_eq_loop _, codeAny_builtin entry_eq_loop ?_⟩
 rw [Around.under_plainId plain_eq_loop _]
 exact lneq_go p q us vs k1 k2 d1 d2 t1 t2 hz _ 0 rfl A R _ ⟨e1, e2, hall, g⟩
theorem tneq_in (p q : Addr) (us vs : Array Value) (k1 k2 : Nat) (d1 d2 : Option Addr) (t1 t2 : Array (Option Value)) (hz : us.size = vs.size) :
  MeetsIn prog w (Builtin.«tuple.__ne__» ⟨[.ref p, .ref q], []⟩) fun A R s =>
    s.heap.get? p = some { cls := .type "tuple", dict := d1, data := .seq us k1, slots := t1 } ∧ s.heap.get? q = some { cls := .type "tuple", dict := d2, data := .seq vs k2, slots := t2 } ∧
    (∀ (j : Nat) (a1 : j < us.size) (a2 : j < vs.size), EqIn prog w A.in1 s us[j] vs[j] true) ∧ R (.ok (.ret (.bool false))) s :=
 .of_wp fun A R s g => by
  obtain ⟨hp0, gen, dr, tok, ost⟩ := s
  obtain ⟨e1, e2, hall, g⟩ := g
  have sub := AutoSeq1.sub_tuple_tuple
  wp_walk using wpAny_loadPart' e1, wpAny_loadPart' e2, wpAny_forIn_list _ (fun more acc s2 => acc.1 = none ∧ s2 = ⟨hp0, gen, dr, tok, ost⟩ ∧ ∃ i, more = (us.toList.zip vs.toList).drop i) _
  case turn =>
   rintro ⟨y, x⟩ more acc s2 ⟨hacc, rfl, i, hm⟩
   have lt : i < (us.toList.zip vs.toList).length := Nat.lt_of_not_le fun z => by rw [List.drop_of_length_le z] at hm; cases hm
   have l12 := lt
   rw [List.length_zip] at l12
   have l1 : i < us.size := by have := Array.length_toList (xs := us); omega
   have l2 : i < vs.size := by have := Array.length_toList (xs := vs); omega
   rw [List.drop_eq_getElem_cons lt] at hm
   injection hm with hyx hmore
   obtain rfl : y = us[i] := by simpa using congrArg Prod.fst hyx
   obtain rfl : x = vs[i] := by simpa using congrArg Prod.snd hyx
   refine wpAny_bind (hall i l1 l2 _ _ ?_)
   wp_walk
   exact ⟨rfl, rfl, i + 1, hmore⟩
  case fin =>
   rintro ⟨b1, b2⟩ s2 ⟨hb1, rfl, i, hm⟩
   simp only at hb1
   subst hb1
   wp_walk
   exact ⟨_, rfl, by simpa [Builtin.Tuple.tupleCompareSizes, bne, hz] using g⟩
  case h => exact ⟨rfl, rfl, 0, rfl⟩
end
section
variable {prog : Program} {w : World} {A : Around} {s : Shared} {E : Value → Shared → Prop} {Q : Value → Shared → Prop}
theorem neIn_lists {p q : Addr} {us vs : Array Value} (hp : s.heap.IsList p us) (hq : s.heap.IsList q vs) (hz : us.size = vs.size) (hu : A.units < cLine)
  (hall : ∀ (j : Nat) (a1 : j < us.size) (a2 : j < vs.size), EqIn prog w A.in1 s us[j] vs[j] true) (g : Q (.bool false) s) : wpAny (model prog w) A (richCompare .NotEq (.ref p) (.ref q)) Q E s := by
 obtain ⟨⟨c1, d1, x1, t1⟩, o1, rfl, k1, rfl⟩ := id hp
 obtain ⟨⟨c2, d2, x2, t2⟩, o2, rfl, k2, rfl⟩ := id hq
 refine wpAny_richCompare_same_room (T := "list") (op := .NotEq) ⟨_, o1, rfl⟩ ⟨_, o2, rfl⟩ F.slot_list_ne ?_ hu
 refine call_meetsIn F.slot_list_ne ⟨_, o1, rfl⟩ F.entry_list_ne (F.args_list_ne_2 _ _) (lneq_in p q us vs k1 k2 d1 d2 t1 t2 hz) ⟨o1, o2, hall, ?_⟩
 exact ⟨(fun z => nomatch z), g⟩
theorem neIn_tuples {p q : Addr} {us vs : Array Value} (hp : s.heap.IsTuple p us) (hq : s.heap.IsTuple q vs) (hz : us.size = vs.size) (hu : A.units < cLine)
  (hall : ∀ (j : Nat) (a1 : j < us.size) (a2 : j < vs.size), EqIn prog w A.in1 s us[j] vs[j] true) (g : Q (.bool false) s) : wpAny (model prog w) A (richCompare .NotEq (.ref p) (.ref q)) Q E s := by
 obtain ⟨⟨c1, d1, x1, t1⟩, o1, hc1, k1, hx1⟩ := id hp
 obtain ⟨⟨c2, d2, x2, t2⟩, o2, hc2, k2, hx2⟩ := id hq
 simp only at hc1 hx1 hc2 hx2
 subst hc1 hx1 hc2 hx2
 refine wpAny_richCompare_same_room (T := "tuple") (op := .NotEq) ⟨_, o1, rfl⟩ ⟨_, o2, rfl⟩ F.slot_tuple_ne ?_ hu
 refine call_meetsIn F.slot_tuple_ne ⟨_, o1, rfl⟩ F.entry_tuple_ne (F.args_tuple_ne_2 _ _) (tneq_in p q us vs k1 k2 d1 d2 t1 t2 hz) ⟨o1, o2, hall, ?_⟩
 exact ⟨(fun z => nomatch z), g⟩
end
end PySem.SeqAt
namespace PySem.W
open Lean Elab Tactic Meta PySem PySem.Calls PyProof.Rows PyProof.V PySem.Spec
section
variable {prog : Program} {w : World} {K : Type} [DecidableEq K] {knd : KeyKind prog w K} {A : Around} {E : Value → Shared → Prop} {s : Shared}
theorem neIn_dicts {p q : Addr} {ks ls : List (K × Value)} {Q : Value → Shared → Prop} (hp : (p == sysModules) = false) (hq : (q == sysModules) = false) (dp : s.heap.DictOf knd p ks) (dq : s.heap.DictOf knd q ls) (hu : A.units < cLine)
  (hl : ks.length = ls.length) (hits : KeqHitsIn prog w A.in1 s ls ks true) (g : Q (.bool false) s) : wpAny (model prog w) A (compareOp .NotEq (.ref p) (.ref q)) Q E s := by
 refine wpAny_richCompare_same_room (op := .NotEq) dp.typeIs dq.typeIs PySem.F.slot_dict_ne ?_ hu
 refine wpAny_call_entry PySem.F.slot_dict_ne dp.typeIs PySem.F.entry_dict_ne ?_ (PySem.F.args_dict_ne_2 _ _)
 show wpAny _ _ (Builtin.Dict.dictSlotArgs "__ne__" ⟨[.ref p, .ref q], []⟩ >>= _) _ _ s
 unfold Builtin.Dict.dictSlotArgs
 refine wpAny_bind (wpAny_bind (wpAny_notOrdered_dict dp.typeIs (wpAny_pure ?_)))
 refine wpAny_bind (wpAny_isInstance (T := "dict") dq.typeIs PySem.F.sub_dict_dict ?_)
 rw [if_neg (by simp)]
 refine wpAny_bind (wpAny_pure (wpAny_bind (wpAny_pure (wpAny_bind (keq_samePairsIn hp hq dp dq (fun _ => hits) (wpAny_pure ⟨_, rfl, (fun z => nomatch z), ?_⟩))))))
 simpa [hl] using g
end
end PySem.W
namespace M
open PySem PySem.Spec PyProof.Rows L2 G
inductive EtV (K : PySem.W.Frag) (H : Hp) : Nat → V → V → Prop
 | non {n : Nat} : EtV K H n .non .non
 | bl {n : Nat} (b : Bool) : EtV K H n (.bl b) (.bl b)
 | int {n : Nat} (i : Int) : EtV K H n (.int i) (.int i)
 | str {n : Nat} (s : Str) : EtV K H n (.str s) (.str s)
 | ref {n : Nat} (a : Addr) : EtV K H n (.ref a) (.ref a)
 | lst {n : Nat} {a b : Addr} {xs ys : List V} : SqL K H a xs → SqL K H b ys → xs.length = ys.length → (∀ (j : Nat) (x y : V), xs[j]? = some x → ys[j]? = some y → EtV K H n x y) → EtV K H (n + 1) (.ref a) (.ref b)
 | tup {n : Nat} {a b : Addr} {xs ys : List V} : SqT K H a xs → SqT K H b ys → xs.length = ys.length → (∀ (j : Nat) (x y : V), xs[j]? = some x → ys[j]? = some y → EtV K H n x y) → EtV K H (n + 1) (.ref a) (.ref b)
 | dct {n : Nat} {a b : Addr} {ks ls : List (Key × V)} {f : Key → V} : Rd H a (.dK ks) → Rd H b (.dK ls) → ks.length = ls.length → (∀ p ∈ ks, valV ls p.1 = some (f p.1)) → (∀ p ∈ ks, EtV K H n p.2 (f p.1)) → EtV K H (n + 1) (.ref a) (.ref b)
section
variable {X : Cx} {pins : List (Addr × Obj)} {σ : L2.St} {H : Hp} {s : Shared}
theorem vals_at {vs : List V} {us : List Value} (h : Vals vs us) {j : Nat} (hj : j < us.length) : ∃ x, vs[j]? = some x ∧ RelV x us[j] := by
 induction h generalizing j with
 | nil => exact absurd hj (Nat.not_lt_zero _)
 | cons r t ih =>
  cases j with
  | zero => exact ⟨_, rfl, r⟩
  | succ j => exact ih (Nat.lt_of_succ_lt_succ hj)
theorem vals_len {vs : List V} {us : List Value} (h : Vals vs us) : vs.length = us.length := by
 induction h with
 | nil => rfl
 | cons r t ih => rw [List.length_cons, List.length_cons, ih]
theorem kv_at {κ : Type} {ks : List (κ × V)} {va : List (κ × Value)} (h : KV ks va) {k : κ} {v : Value} (hm : (k, v) ∈ va) : ∃ x, (k, x) ∈ ks ∧ RelV x v := by
 unfold KV at h
 induction h with
 | nil => cases hm
 | @cons p q ps qs h t ih =>
  rcases List.mem_cons.mp hm with e | hm
  ·subst e
   exact ⟨p.2, by rw [show (k, p.2) = p from Prod.ext (show k = p.1 from h.1.symm) rfl]; exact List.mem_cons_self, h.2⟩
  ·obtain ⟨x, h1, h2⟩ := ih hm
   exact ⟨x, List.mem_cons_of_mem _ h1, h2⟩
theorem all_yes {n : Nat} : ((List.range n).all fun _ => true) = true := List.all_eq_true.mpr fun _ _ => rfl
theorem EtV.tree (I : Inv X pins σ H s) {n : Nat} {x y : V} (h : EtV X.K H n x y) : ∀ v u, RelV x v → RelV y u → PySem.W.EqTree X.prog X.w s n v u true := by
 induction h with
 | non => intro v u r1 r2; cases r1; cases r2; exact .same
 | bl b => intro v u r1 r2; cases r1; cases r2; exact .same
 | int i =>
  intro v u r1 r2
  obtain ⟨t1, rfl⟩ := r1
  obtain ⟨t2, rfl⟩ := r2
  refine .leaf fun A _ => ?_
  have := SeqAt.EqAt.int_int (A := A) (s := s) i t1 i t2
  rwa [beq_self_eq_true] at this
 | str z =>
  intro v u r1 r2
  obtain ⟨t1, rfl⟩ := r1
  obtain ⟨t2, rfl⟩ := r2
  refine .leaf fun A _ => ?_
  have := SeqAt.EqAt.str_str (A := A) (s := s) z t1 z t2
  rwa [beq_self_eq_true] at this
 | ref a =>
  intro v u r1 r2
  obtain rfl : v = Value.ref a := r1
  obtain rfl : u = Value.ref a := r2
  exact .same
 | @lst n a b xs ys h1 h2 hl _ ih =>
  intro v u r1 r2
  obtain rfl : v = Value.ref a := r1
  obtain rfl : u = Value.ref b := r2
  by_cases hab : a = b
  ·subst hab; exact .same
  obtain ⟨i1, q1, ⟨o1, k1, e1, c1, _, d1⟩, _⟩ := I.list h1
  obtain ⟨i2, q2, ⟨o2, k2, e2, c2, _, d2⟩, _⟩ := I.list h2
  have hz : i1.toArray.size = i2.toArray.size := by rw [List.size_toArray, List.size_toArray, ← vals_len q1, ← vals_len q2, hl]
  have := PySem.W.EqTree.lists (prog := X.prog) (w := X.w) (e := fun _ => true) hab ⟨o1, e1, c1, k1, d1⟩ ⟨o2, e2, c2, k2, d2⟩ hz fun j a1 a2 => by
   have a1' : j < i1.length := by simpa using a1
   have a2' : j < i2.length := by simpa using a2
   obtain ⟨x, hx, rx⟩ := vals_at q1 a1'
   obtain ⟨y, hy, ry⟩ := vals_at q2 a2'
   exact ih j x y hx hy _ _ (by simpa using rx) (by simpa using ry)
  rwa [all_yes] at this
 | @tup n a b xs ys h1 h2 hl _ ih =>
  intro v u r1 r2
  obtain rfl : v = Value.ref a := r1
  obtain rfl : u = Value.ref b := r2
  by_cases hab : a = b
  ·subst hab; exact .same
  obtain ⟨i1, q1, ⟨o1, e1, c1, k1, d1⟩, _⟩ := I.tuple h1
  obtain ⟨i2, q2, ⟨o2, e2, c2, k2, d2⟩, _⟩ := I.tuple h2
  have hz : i1.toArray.size = i2.toArray.size := by rw [List.size_toArray, List.size_toArray, ← vals_len q1, ← vals_len q2, hl]
  have := PySem.W.EqTree.tuples (prog := X.prog) (w := X.w) (e := fun _ => true) hab ⟨o1, e1, c1, k1, d1⟩ ⟨o2, e2, c2, k2, d2⟩ fun j a1 a2 => by
   have a1' : j < i1.length := by simpa using a1
   have a2' : j < i2.length := by simpa using a2
   obtain ⟨x, hx, rx⟩ := vals_at q1 a1'
   obtain ⟨y, hy, ry⟩ := vals_at q2 a2'
   exact ih j x y hx hy _ _ (by simpa using rx) (by simpa using ry)
  rw [hz, all_yes, Bool.true_and, beq_self_eq_true] at this
  exact this
 | @dct n a b ks ls f h1 h2 hl hv _ ih =>
  intro v u r1 r2
  obtain rfl : v = Value.ref a := r1
  obtain rfl : u = Value.ref b := r2
  by_cases hab : a = b
  ·subst hab; exact .same
  obtain ⟨_, y1, va, k1, d1⟩ := (show ObjOk X.prog X.w H s.heap a (.dK ks) from h1.ok I.hok)
  obtain ⟨_, y2, vb, k2, d2⟩ := (show ObjOk X.prog X.w H s.heap b (.dK ls) from h2.ok I.hok)
  have hval : ∀ k v, (k, v) ∈ va → ∃ y, PySem.valueAt vb k = some y ∧ RelV (f k) y := fun k v hm => by
   obtain ⟨x, hx, rx⟩ := kv_at k1 hm
   have e := hv _ hx
   have rr : RelO (some (f k)) (valueAt vb k) := by rw [← e]; exact k2.val k
   exact rr.some_of
  have := PySem.W.EqTree.dicts (prog := X.prog) (w := X.w) (s := s) (n := n) (e := fun _ => true) hab y1 y2 d1 d2 fun k v y hm hy => by
   obtain ⟨x, hx, rx⟩ := kv_at k1 hm
   obtain ⟨y', hy', ry⟩ := hval k v hm
   rw [hy] at hy'; cases hy'
   exact ih _ hx _ _ rx ry
  have hlen : va.length = vb.length := by rw [← k1.length, ← k2.length]; exact hl
  have hb : (va.length == vb.length && va.all fun p => (PySem.valueAt vb p.1).isSome && true) = true := by
   rw [hlen, beq_self_eq_true, Bool.true_and, List.all_eq_true]
   rintro ⟨k, v⟩ hm
   obtain ⟨y, hy, _⟩ := hval k v hm
   rw [show PySem.valueAt vb (k, v).1 = some y from hy]; rfl
  rw [hb] at this
  exact this
inductive EtTop (K : PySem.W.Frag) (H : Hp) : V → V → Prop
 | lst {a b : Addr} {xs ys : List V} : SqL K H a xs → SqL K H b ys → xs.length = ys.length → (∀ (j : Nat) (x y : V), xs[j]? = some x → ys[j]? = some y → EtV K H 50 x y) → EtTop K H (.ref a) (.ref b)
 | tup {a b : Addr} {xs ys : List V} : SqT K H a xs → SqT K H b ys → xs.length = ys.length → (∀ (j : Nat) (x y : V), xs[j]? = some x → ys[j]? = some y → EtV K H 50 x y) → EtTop K H (.ref a) (.ref b)
 | dct {a b : Addr} {ks ls : List (Key × V)} {f : Key → V} : Rd H a (.dK ks) → Rd H b (.dK ls) → ks.length = ls.length → (∀ p ∈ ks, valV ls p.1 = some (f p.1)) → (∀ p ∈ ks, EtV K H 50 p.2 (f p.1)) → EtTop K H (.ref a) (.ref b)
def rEqT (K : PySem.W.Frag) : R2 := fun x y H Q => EtTop K H x y ∧ Q (.bl true) H
def rNeT (K : PySem.W.Frag) : R2 := fun x y H Q => EtTop K H x y ∧ Q (.bl false) H
end
section
variable {X : Cx}
theorem op_top {op : CmpOp} {b0 : Bool} (hu : X.A.units + 51 < cLine)
  (hl : ∀ {s : Shared} {E : Value → Shared → Prop} {Q : Value → Shared → Prop} {p q : Addr} {us vs : Array Value}, s.heap.IsList p us → s.heap.IsList q vs → us.size = vs.size → (∀ (j : Nat) (a1 : j < us.size) (a2 : j < vs.size), SeqAt.EqIn X.prog X.w X.A.in1 s us[j] vs[j] true) → Q (.bool b0) s → wpAny (model X.prog X.w) X.A (compareOp op (.ref p) (.ref q)) Q E s)
  (ht : ∀ {s : Shared} {E : Value → Shared → Prop} {Q : Value → Shared → Prop} {p q : Addr} {us vs : Array Value}, s.heap.IsTuple p us → s.heap.IsTuple q vs → us.size = vs.size → (∀ (j : Nat) (a1 : j < us.size) (a2 : j < vs.size), SeqAt.EqIn X.prog X.w X.A.in1 s us[j] vs[j] true) → Q (.bool b0) s → wpAny (model X.prog X.w) X.A (compareOp op (.ref p) (.ref q)) Q E s)
  (hd : ∀ {s : Shared} {E : Value → Shared → Prop} {Q : Value → Shared → Prop} {p q : Addr} {ks ls : List (Key × Value)}, (p == sysModules) = false → (q == sysModules) = false → s.heap.DictOf (mixKind X.prog X.w) p ks → s.heap.DictOf (mixKind X.prog X.w) q ls → ks.length = ls.length → PySem.W.KeqHitsIn X.prog X.w X.A.in1 s ls ks true → Q (.bool b0) s → wpAny (model X.prog X.w) X.A (compareOp op (.ref p) (.ref q)) Q E s) :
  OpR X (compareOp op) (fun x y H Q => EtTop X.K H x y ∧ Q (.bl b0) H) := by
 intro pins s σ H x y v u Q I rx ry ⟨h, q⟩
 have hu1 : X.A.in1.units + 50 < cLine := by show X.A.units + 1 + 50 < cLine; omega
 cases h with
 | @lst a b xs ys h1 h2 hlen ih =>
  obtain rfl : v = Value.ref a := rx
  obtain rfl : u = Value.ref b := ry
  obtain ⟨i1, q1, ⟨o1, k1, e1, c1, _, d1⟩, _⟩ := I.list h1
  obtain ⟨i2, q2, ⟨o2, k2, e2, c2, _, d2⟩, _⟩ := I.list h2
  have hz : i1.toArray.size = i2.toArray.size := by rw [List.size_toArray, List.size_toArray, ← vals_len q1, ← vals_len q2, hlen]
  refine hl ⟨o1, e1, c1, k1, d1⟩ ⟨o2, e2, c2, k2, d2⟩ hz (fun j a1 a2 => ?_) ⟨.bl b0, H, I, rfl, q⟩
  have a1' : j < i1.length := by simpa using a1
  have a2' : j < i2.length := by simpa using a2
  obtain ⟨x, hx, rx⟩ := vals_at q1 a1'
  obtain ⟨y, hy, ry⟩ := vals_at q2 a2'
  exact ((ih j x y hx hy).tree I _ _ (by simpa using rx) (by simpa using ry)).at X.A.in1 hu1
 | @tup a b xs ys h1 h2 hlen ih =>
  obtain rfl : v = Value.ref a := rx
  obtain rfl : u = Value.ref b := ry
  obtain ⟨i1, q1, ⟨o1, e1, c1, k1, d1⟩, _⟩ := I.tuple h1
  obtain ⟨i2, q2, ⟨o2, e2, c2, k2, d2⟩, _⟩ := I.tuple h2
  have hz : i1.toArray.size = i2.toArray.size := by rw [List.size_toArray, List.size_toArray, ← vals_len q1, ← vals_len q2, hlen]
  refine ht ⟨o1, e1, c1, k1, d1⟩ ⟨o2, e2, c2, k2, d2⟩ hz (fun j a1 a2 => ?_) ⟨.bl b0, H, I, rfl, q⟩
  have a1' : j < i1.length := by simpa using a1
  have a2' : j < i2.length := by simpa using a2
  obtain ⟨x, hx, rx⟩ := vals_at q1 a1'
  obtain ⟨y, hy, ry⟩ := vals_at q2 a2'
  exact ((ih j x y hx hy).tree I _ _ (by simpa using rx) (by simpa using ry)).at X.A.in1 hu1
 | @dct a b ks ls f h1 h2 hlen hv ih =>
  obtain rfl : v = Value.ref a := rx
  obtain rfl : u = Value.ref b := ry
  obtain ⟨_, y1, va, k1, d1⟩ := (show ObjOk X.prog X.w H s.heap a (.dK ks) from h1.ok I.hok)
  obtain ⟨_, y2, vb, k2, d2⟩ := (show ObjOk X.prog X.w H s.heap b (.dK ls) from h2.ok I.hok)
  have hval : ∀ k v, (k, v) ∈ va → ∃ y, PySem.valueAt vb k = some y ∧ RelV (f k) y := fun k v hm => by
   obtain ⟨x, hx, rx⟩ := kv_at k1 hm
   have e := hv _ hx
   have rr : RelO (some (f k)) (valueAt vb k) := by rw [← e]; exact k2.val k
   exact rr.some_of
  refine hd y1 y2 d1 d2 (by rw [← k1.length, ← k2.length]; exact hlen) ?_ ⟨.bl b0, H, I, rfl, q⟩
  have hh := PySem.W.KeqHitsIn.of (prog := X.prog) (w := X.w) (A := X.A.in1) (s := s) (kb := vb) (e := fun _ => true) va fun k v y hm hy => by
   obtain ⟨x, hx, rx⟩ := kv_at k1 hm
   obtain ⟨y', hy', ry⟩ := hval k v hm
   rw [hy] at hy'; cases hy'
   exact ((ih _ hx).tree I _ _ rx ry).at X.A.in1 hu1
  have hb : (va.all fun p => (PySem.valueAt vb p.1).isSome && true) = true := by
   rw [List.all_eq_true]
   rintro ⟨k, v⟩ hm
   obtain ⟨y, hy, _⟩ := hval k v hm
   rw [show PySem.valueAt vb (k, v).1 = some y from hy]; rfl
  rw [hb] at hh
  exact hh
theorem op_eqT (hu : X.A.units + 51 < cLine) : OpR X (compareOp .Eq) (rEqT X.K) :=
 op_top hu (fun h1 h2 hz ha q => SeqAt.rcIn_lists h1 h2 hz (by omega) (e := fun _ => true) ha (by rw [all_yes]; exact q)) (fun h1 h2 hz ha q => SeqAt.rcIn_tuples h1 h2 (by omega) (e := fun _ => true) ha (by rw [all_yes, hz, Bool.true_and, beq_self_eq_true]; exact q))
  fun y1 y2 d1 d2 hl hh q => PySem.W.keq_eqIn y1 y2 d1 d2 (by omega) (fun _ => hh) (by rw [hl]; simpa using q)
theorem op_neT (hu : X.A.units + 51 < cLine) : OpR X (compareOp .NotEq) (rNeT X.K) :=
 op_top hu (fun h1 h2 hz ha q => SeqAt.neIn_lists h1 h2 hz (by omega) ha q) (fun h1 h2 hz ha q => SeqAt.neIn_tuples h1 h2 hz (by omega) ha q)
  fun y1 y2 d1 d2 hl hh q => PySem.W.neIn_dicts y1 y2 d1 d2 (by omega) hl hh q
end
end M
namespace M
open PySem PySem.Spec PyProof.Rows L2 G
variable {c : MC}
def dctOf (d : D) (st : Sto) : Option (List (Key × D)) := match d with
 | .ref n => match st[n]? with
  | some (.dK ks) => some ks
  | some (.lk (.dK ks)) => some ks
  | _ => none
 | _ => none
def eqSc : D → D → Bool
 | .non, .non => true
 | .bl a, .bl b => a == b
 | .int i, .int j => i == j
 | .str a, .str b => a == b
 | .ref m, .ref k => m == k
 | _, _ => false
def eqT : Nat → Sto → D → D → Bool
 | 0, _, a, b => eqSc a b
 | n + 1, st, a, b => eqSc a b || match lstOf a st, lstOf b st with
  | some xs, some ys => xs.length == ys.length && (xs.zip ys).all fun p => eqT n st p.1 p.2
  | _, _ => match tupOf a, tupOf b with
   | some xs, some ys => xs.length == ys.length && (xs.zip ys).all fun p => eqT n st p.1 p.2
   | _, _ => match dctOf a st, dctOf b st with
    | some ks, some ls => ks.length == ls.length && ks.all fun p => match valD ls p.1 with
     | some u => eqT n st p.2 u
     | none => false
    | _, _ => false
section
variable {ρ : List Addr} {H : Hp} {st st' : Sto}
theorem dctOf_inv (R : Rel c ρ st H) {x : V} {d : D} {ks : List (Key × D)} (r : RV c ρ H x d) (h : dctOf d st = some ks) : ∃ a vs, x = .ref a ∧ Rd H a (.dK vs) ∧ RKs c ρ H vs ks := by
 cases d with
 | ref n =>
  unfold dctOf at h
  dsimp only at h
  cases r with
  | @ref a _ hn =>
   cases hs : st[n]? with
   | none => rw [hs] at h; cases h
   | some ob =>
    obtain ⟨a', ho, h1, h2, h3⟩ := R.ob n ob hs
    rw [hn] at h1; cases h1
    rw [hs] at h
    cases ob with
    | dK _ =>
     cases h
     cases h3 with
     | un h3 => cases h3 with
      | dK hv => exact ⟨_, _, rfl, .inl h2, hv⟩
    | lk ob =>
     cases ob with
     | dK _ =>
      cases h
      cases h3 with
      | un h3 => cases h3
      | lk h3 => cases h3 with
       | dK hv => exact ⟨_, _, rfl, .inr ⟨_, h2⟩, hv⟩
     | _ => cases h
    | _ => cases h
 | _ => cases h
theorem eqSc_v (R : Rel c ρ st H) {n : Nat} {x y : V} {a b : D} (h : eqSc a b = true) (rx : RV c ρ H x a) (ry : RV c ρ H y b) : EtV c.K H n x y := by
 cases rx <;> cases ry <;> first
  | exact .non
  | (obtain rfl := eq_of_beq h; exact .bl _)
  | (obtain rfl := eq_of_beq h; exact .int _)
  | (obtain rfl := eq_of_beq h; exact .str _)
  | cases h
  | (rename_i h1 _ _ h2; obtain rfl := eq_of_beq h; rw [h1] at h2; cases h2; exact .ref _)
theorem zip_at {xs ys : List D} {q : D × D → Bool} (h : (xs.zip ys).all q = true) {j : Nat} {a b : D} (ha : xs[j]? = some a) (hb : ys[j]? = some b) : q (a, b) = true := by
 refine List.all_eq_true.mp h _ ?_
 have : (xs.zip ys)[j]? = some (a, b) := by rw [List.getElem?_zip_eq_some]; exact ⟨ha, hb⟩
 exact List.mem_of_getElem? this
theorem rks_mem {vs : List (Key × V)} {ks : List (Key × D)} (h : RKs c ρ H vs ks) {p : Key × V} (hp : p ∈ vs) : ∃ d, (p.1, d) ∈ ks ∧ RV c ρ H p.2 d := by
 induction vs generalizing ks with
 | nil => cases hp
 | cons q vs ih =>
  cases h with
  | cons r t =>
   rcases List.mem_cons.mp hp with e | hp
   ·rw [e]; exact ⟨_, List.mem_cons_self, r⟩
   ·obtain ⟨d, h1, h2⟩ := ih t hp
    exact ⟨d, List.mem_cons_of_mem _ h1, h2⟩
theorem seq_kids {n : Nat} {xs ys : List D} {us vs : List V} (hx : RVs c ρ H us xs) (hy : RVs c ρ H vs ys) (h : (xs.length == ys.length && (xs.zip ys).all fun p => eqT n st p.1 p.2) = true)
  (ih : ∀ {x y : V} {a b : D}, eqT n st a b = true → RV c ρ H x a → RV c ρ H y b → EtV c.K H n x y) : us.length = vs.length ∧ ∀ (j : Nat) (x y : V), us[j]? = some x → vs[j]? = some y → EtV c.K H n x y := by
 rw [Bool.and_eq_true] at h
 refine ⟨by rw [hx.length, hy.length]; exact eq_of_beq h.1, fun j x y h1 h2 => ?_⟩
 obtain ⟨a, ha, ra⟩ := hx.getV h1
 obtain ⟨b, hb, rb⟩ := hy.getV h2
 exact ih (zip_at (q := fun p => eqT n st p.1 p.2) h.2 ha hb) ra rb
theorem dct_kids {n : Nat} {ks ls : List (Key × D)} {us vs : List (Key × V)} (hx : RKs c ρ H us ks) (hy : RKs c ρ H vs ls)
  (h : (ks.length == ls.length && ks.all fun p => match valD ls p.1 with
     | some u => eqT n st p.2 u
     | none => false) = true)
  (ih : ∀ {x y : V} {a b : D}, eqT n st a b = true → RV c ρ H x a → RV c ρ H y b → EtV c.K H n x y) : us.length = vs.length ∧ (∀ p ∈ us, valV vs p.1 = some ((valV vs p.1).getD .non)) ∧ ∀ p ∈ us, EtV c.K H n p.2 ((valV vs p.1).getD .non) := by
 rw [Bool.and_eq_true] at h
 have key : ∀ p ∈ us, ∃ y, valV vs p.1 = some y ∧ EtV c.K H n p.2 y := fun p hp => by
  obtain ⟨d, hd, rd⟩ := rks_mem hx hp
  have h2 := List.all_eq_true.mp h.2 _ hd
  dsimp only at h2
  rcases hy.val (k := p.1) with ⟨_, e⟩ | ⟨v, u, e1, e2, ru⟩
  ·rw [e] at h2; cases h2
  ·rw [e2] at h2
   exact ⟨v, e1, ih h2 rd ru⟩
 refine ⟨by rw [hx.length, hy.length]; exact eq_of_beq h.1, fun p hp => ?_, fun p hp => ?_⟩
 ·obtain ⟨y, e, _⟩ := key p hp
  rw [e]; rfl
 ·obtain ⟨y, e, h3⟩ := key p hp
  rw [e]; exact h3
theorem eqT_v (R : Rel c ρ st H) : ∀ {n : Nat} {x y : V} {a b : D}, eqT n st a b = true → RV c ρ H x a → RV c ρ H y b → EtV c.K H n x y
 | 0, x, y, a, b, h, rx, ry => eqSc_v R h rx ry
 | n + 1, x, y, a, b, h, rx, ry => by
  unfold eqT at h
  rw [Bool.or_eq_true] at h
  rcases h with h | h
  ·exact eqSc_v R h rx ry
  ·cases h1 : lstOf a st with
   | some xs => cases h2 : lstOf b st with
    | some ys =>
     rw [h1, h2] at h
     obtain ⟨p, us, rfl, hp, hu⟩ := lstOf_inv R rx h1
     obtain ⟨q, vs, rfl, hq, hv⟩ := lstOf_inv R ry h2
     obtain ⟨k1, k2⟩ := seq_kids hu hv h (fun h => eqT_v R h)
     exact .lst hp hq k1 k2
    | none =>
     rw [h1, h2] at h
     have ht : tupOf a = none := by
      cases a <;> first | rfl | (unfold lstOf at h1; cases h1)
     have hd : dctOf a st = none := by
      cases a with
      | ref m =>
       unfold lstOf at h1; unfold dctOf
       dsimp only at h1 ⊢
       split <;> first | rfl | (rename_i he; rw [he] at h1; cases h1)
      | _ => rfl
     rw [ht, hd] at h
     cases h
   | none =>
    rw [h1] at h
    dsimp only at h
    cases h3 : tupOf a with
    | some xs => cases h4 : tupOf b with
     | some ys =>
      rw [h3, h4] at h
      obtain ⟨p, us, rfl, hp, hu⟩ := tup_inv rx h3
      obtain ⟨q, vs, rfl, hq, hv⟩ := tup_inv ry h4
      obtain ⟨k1, k2⟩ := seq_kids hu hv h (fun h => eqT_v R h)
      exact .tup hp hq k1 k2
     | none =>
      rw [h3, h4] at h
      have hd : dctOf a st = none := by cases a <;> first | rfl | (unfold tupOf at h3; cases h3)
      rw [hd] at h
      cases h
    | none =>
     rw [h3] at h
     dsimp only at h
     cases h5 : dctOf a st with
     | some ks => cases h6 : dctOf b st with
      | some ls =>
       rw [h5, h6] at h
       obtain ⟨p, us, rfl, hp, hu⟩ := dctOf_inv R rx h5
       obtain ⟨q, vs, rfl, hq, hv⟩ := dctOf_inv R ry h6
       obtain ⟨k1, k2, k3⟩ := dct_kids hu hv h (fun h => eqT_v R h)
       exact .dct (f := fun k => (valV vs k).getD .non) hp hq k1 k2 k3
      | none => rw [h5, h6] at h; cases h
     | none => rw [h5] at h; cases h
def topT (st : Sto) (a b : D) : Bool := match lstOf a st, lstOf b st with
 | some xs, some ys => xs.length == ys.length && (xs.zip ys).all fun p => eqT 50 st p.1 p.2
 | _, _ => match tupOf a, tupOf b with
  | some xs, some ys => xs.length == ys.length && (xs.zip ys).all fun p => eqT 50 st p.1 p.2
  | _, _ => match dctOf a st, dctOf b st with
   | some ks, some ls => ks.length == ls.length && ks.all fun p => match valD ls p.1 with
    | some u => eqT 50 st p.2 u
    | none => false
   | _, _ => false
theorem topT_v (R : Rel c ρ st H) {x y : V} {a b : D} (h : topT st a b = true) (rx : RV c ρ H x a) (ry : RV c ρ H y b) : EtTop c.K H x y := by
 unfold topT at h
 split at h
 ·rename_i xs ys h1 h2
  obtain ⟨p, us, rfl, hp, hu⟩ := lstOf_inv R rx h1
  obtain ⟨q, vs, rfl, hq, hv⟩ := lstOf_inv R ry h2
  obtain ⟨k1, k2⟩ := seq_kids hu hv h (fun h => eqT_v R h)
  exact .lst hp hq k1 k2
 ·split at h
  ·rename_i xs ys h1 h2
   obtain ⟨p, us, rfl, hp, hu⟩ := tup_inv rx h1
   obtain ⟨q, vs, rfl, hq, hv⟩ := tup_inv ry h2
   obtain ⟨k1, k2⟩ := seq_kids hu hv h (fun h => eqT_v R h)
   exact .tup hp hq k1 k2
  ·split at h
   ·rename_i ks ls h1 h2
    obtain ⟨p, us, rfl, hp, hu⟩ := dctOf_inv R rx h1
    obtain ⟨q, vs, rfl, hq, hv⟩ := dctOf_inv R ry h2
    obtain ⟨k1, k2, k3⟩ := dct_kids hu hv h (fun h => eqT_v R h)
    exact .dct (f := fun k => (valV vs k).getD .non) hp hq k1 k2 k3
   ·cases h
def eqTD (neg : Bool) : D → D → Mo D := fun a b st => if topT st a b then some (.ok (.bl (!neg)), st) else none
theorem c_neT : OpC c (eqTD true) (rNeT c.K) := fun {W σ ρ st st' H x y a b res Q} R rx ry e F => by
 unfold eqTD at e
 by_cases h : topT st a b = true
 ·rw [if_pos h] at e; cases e
  exact ⟨topT_v R h rx ry, F.ok .refl R _ (.bl _)⟩
 ·rw [if_neg h] at e; cases e
def neX : D → D → Mo D := alt neE (eqTD true)
theorem c_neX : OpC c neX (fun x y H Q => (rNeNil c.K x y H Q ∨ rNe x y H Q ∨ rNeD c.K x y H Q) ∨ rNeT c.K x y H Q) := OpC.or c_neE c_neT
theorem o_eqX {X : Cx} (hu : X.A.units + 65 < cLine) (hK : X.K = c.K := by rfl) : OpR X (compareOp .Eq) (fun x y H Q => (rEqNil c.K x y H Q ∨ rEq x y H Q ∨ rEqD c.K x y H Q) ∨ rEqT c.K x y H Q) := OpR.or (o_eqE hu hK) (by rw [← hK]; exact op_eqT (by omega))
theorem o_neX {X : Cx} (hu : X.A.units + 65 < cLine) (hK : X.K = c.K := by rfl) : OpR X (compareOp .NotEq) (fun x y H Q => (rNeNil c.K x y H Q ∨ rNe x y H Q ∨ rNeD c.K x y H Q) ∨ rNeT c.K x y H Q) := OpR.or (o_neE hu hK) (by rw [← hK]; exact op_neT (by omega))
end
end M
namespace M
open PySem PySem.Spec PyProof.Rows L2 G
variable {c : MC}
section
variable {W : Wx} {X : Cx} {σ : L2.St} {ρ ρ1 ρ' : List Addr} {H H1 H' : Hp} {st st1 st' : Sto} {env env' : Env}
def gFix (xs : List D) : Gt := fun i _ => some xs[i]?
def lkOf (d : D) (st : Sto) : Option (List (Key × D)) := match d with
 | .ref n => match st[n]? with
  | some (.lk (.dK ks)) => some ks
  | _ => none
 | _ => none
theorem lkOf_inv (R : Rel c ρ st H) {x : V} {d : D} {ks : List (Key × D)} (r : RV c ρ H x d) (h : lkOf d st = some ks) : ∃ a od vs, x = .ref a ∧ H a = some (.frz od (.dK vs)) ∧ RKs c ρ H vs ks := by
 cases d with
 | ref n =>
  unfold lkOf at h
  dsimp only at h
  cases r with
  | @ref a _ hn =>
   cases hs : st[n]? with
   | none => rw [hs] at h; cases h
   | some ob =>
    obtain ⟨a', ho, h1, h2, h3⟩ := R.ob n ob hs
    rw [hn] at h1; cases h1
    rw [hs] at h
    cases ob with
    | lk ob =>
     cases ob with
     | dK _ =>
      cases h
      cases h3 with
      | un h3 => cases h3
      | lk h3 => cases h3 with
       | dK hv => exact ⟨_, _, _, rfl, h2, hv⟩
     | _ => cases h
    | _ => cases h
 | _ => cases h
theorem rks_at {vs : List (Key × V)} {ks : List (Key × D)} (h : RKs c ρ H vs ks) {i : Nat} {k : Key} {d : D} (hk : ks[i]? = some (k, d)) : ∃ v, vs[i]? = some (k, v) ∧ RV c ρ H v d := by
 induction vs generalizing ks i with
 | nil => cases h; cases hk
 | cons q vs ih =>
  cases h with
  | cons r t =>
   cases i with
   | zero => cases hk; exact ⟨_, rfl, r⟩
   | succ i => exact ih t hk
theorem rv_key {k : Key} : RV c ρ H (kV k) (keyD k) := by
 cases k with
 | inl i => exact .int i
 | inr s => exact .str s
def keysM (m : Env → Mo D) : Env → Mo Gt := fun env => bnd (m env) fun d st => match lkOf d st with
 | some ks => some (.ok (gFix (ks.map fun kv => keyD kv.1)), st)
 | none => none
theorem it_keys {a : Addr} {od : Obj} {vs : List (Key × V)} {ks : List (Key × D)} (ha : H a = some (.frz od (.dK vs))) (hv : RKs c ρ H vs ks) : ItC c ρ H (Itk a od vs) (gFix (ks.map fun kv => keyD kv.1)) := fun ρ2 st2 H2 i T R => by
 have h2 := T.frz _ _ _ ha
 have hv2 := hv.mono T.to0
 refine ⟨fun h => ⟨h2, ?_⟩, fun d h => ?_⟩
 ·have := List.getElem?_eq_none_iff.mp (Option.some.inj h)
  rw [List.length_map] at this
  rw [hv.length]; exact this
 ·have h := Option.some.inj h
  rw [List.getElem?_map] at h
  obtain ⟨⟨k, d'⟩, hk, rfl⟩ := Option.map_eq_some_iff.mp h
  obtain ⟨v, hv3, rv⟩ := rks_at hv2 hk
  refine ⟨⟨h2, lt_of hv3⟩, fun x H' ⟨e, k', v', e2, e3⟩ => ?_⟩
  subst e
  rw [hv3] at e2
  cases e2
  subst e3
  exact ⟨.refl, R, rv_key⟩
theorem i_keys {tg e : Expr} {m : Env → Mo D} (h : PE X e (tM c W m)) : PI X tg e (tI c W (keysM m)) := (pi_keys h).imp fun σ H Q ⟨ρ, st, env, r, st', R, E, e, F⟩ => by
 refine tX.bind R E e F fun ρ1 H1 st1 d v s1 R1 E1 r1 e1 F1 => ?_
 cases hl : lkOf d st1 with
 | none => rw [hl] at e1; cases e1
 | some ks =>
  rw [hl] at e1
  cases e1
  obtain ⟨a, od, vs, rfl, ha, hv⟩ := lkOf_inv R1 r1 hl
  exact ⟨a, od, rfl, .inl ⟨vs, ha, F1.ok .refl R1 _ (it_keys ha hv)⟩⟩
def lkAt (m : Env → Mo D) (env : Env) (st : Sto) : Option (Nat × Ob) := match m env st with
 | some (.ok (.ref n), _) => match st[n]? with
  | some (.dK ks) => some (n, .dK ks)
  | _ => none
 | _ => none
def unlk (n : Nat) (st : Sto) : Option Sto := match st[n]? with
 | some (.lk u) => some (st.set n u)
 | _ => none
def isEr : Out → Bool
 | .er _ => true
 | _ => false
def lkS (m : Env → Mo D) (b : MS) : MS := fun env st => match lkAt m env st with
 | some (n, u) => match b env (st.set n (.lk u)) with
  | some (o, e, s) => if isEr o then none else (unlk n s).map fun s' => (o, e, s')
  | none => none
 | none => none
def lkE {α : Type} (m : Env → Mo D) (b : Env → Mo α) : Env → Mo α := fun env st => match lkAt m env st with
 | some (n, u) => match b env (st.set n (.lk u)) with
  | some (.ok d, s) => (unlk n s).map fun s' => (.ok d, s')
  | _ => none
 | none => none
theorem lk_open (R : Rel c ρ st H) {m : Env → Mo D} {n : Nat} {u : Ob} (h : lkAt m env st = some (n, u)) : ∃ a ho, ρ[n]? = some a ∧ H a = some ho ∧ Mut (some ho) ∧ ∀ od, Rel c ρ (st.set n (.lk u)) (upd H a (.frz od ho)) ∧ Step ρ H ρ (upd H a (.frz od ho)) ∧
  ∀ ρ' s s' H', Step ρ (upd H a (.frz od ho)) ρ' H' → Rel c ρ' s H' → unlk n s = some s' → H' a = some (.frz od ho) ∧ Rel c ρ' s' (upd H' a ho) ∧ Step ρ H ρ' (upd H' a ho) ∧ Step0 ρ' H' ρ' (upd H' a ho) := by
 unfold lkAt at h
 split at h
 ·rename_i n' _ _
  split at h
  ·rename_i ks hk
   cases h
   obtain ⟨a, ho, h1, h2, h3⟩ := R.ob _ _ hk
   cases h3 with
   | un h3 =>
    have h3' := h3
    cases h3 with
    | @dK vs _ hv =>
     refine ⟨a, _, h1, h2, trivial, fun od => ?_⟩
     obtain ⟨R1, S1⟩ := R.put hk h1 (RO.lk (ob := od) h3')
     refine ⟨R1, S1, fun ρ' s s' H' S R' hu => ?_⟩
     have hf := S.frz a od (.dK vs) upd_same
     have ha' := S.get h1
     unfold unlk at hu
     split at hu
     ·rename_i u hsu
      cases hu
      obtain ⟨a2, ho2, k1, k2, k3⟩ := R'.ob _ _ hsu
      rw [ha'] at k1; cases k1
      rw [hf] at k2; cases k2
      cases k3 with
      | un k3 => cases k3
      | lk k3 =>
       obtain ⟨R2, S2⟩ := R'.put0 hsu ha' (RO.un k3)
       refine ⟨hf, R2, ?_, S2⟩
       have hne : ∀ {b : Addr} {o : HO}, H b = some o → b ≠ a → (upd H a (.frz od (.dK vs))) b = some o := fun hb hba => by rw [upd_ne hba]; exact hb
       refine ⟨?_, fun b o hb hn => ?_, fun b o hb => ?_, fun b od' u' hb => ?_⟩
       ·obtain ⟨l, e, hl⟩ := S.ext
        refine ⟨l, e, fun b hb => ?_⟩
        have := hl b hb
        by_cases hba : b = a
        ·subst hba; rw [upd_same] at this; cases this
        ·rw [upd_ne hba] at this; exact this
       ·have hba : b ≠ a := fun e => hn (by rw [e]; exact List.mem_of_getElem? h1)
        rw [upd_ne hba]
        exact S.keep b o (hne hb hba) hn
       ·by_cases hba : b = a
        ·exact ⟨_, by rw [hba, upd_same]⟩
        ·obtain ⟨o', ho'⟩ := S.there b o (hne hb hba)
         exact ⟨o', by rw [upd_ne hba]; exact ho'⟩
       ·have hba : b ≠ a := fun e => by
         subst e
         rw [h2] at hb; cases hb
        rw [upd_ne hba]
        exact S.frz b od' u' (hne hb hba)
     ·cases hu
  ·cases h
 ·cases h
theorem s_lk {s : Stmt} {m : Env → Mo D} {b : MS} (h : PS X s (tS c W b)) : PS X s (tS c W (lkS m b)) := (ps_lock h).imp fun Dn σ H ⟨ρ, st, env, o, env', st', R, E, e, F⟩ => by
 unfold lkS at e
 split at e
 ·rename_i n u hk
  obtain ⟨a, ho, h1, h2, hm, hod⟩ := lk_open R hk
  refine ⟨a, ho, h2, hm, fun od => ?_⟩
  obtain ⟨R1, S1, hfin⟩ := hod od
  split at e
  ·rename_i o1 e1 s1 hb
   have hne : ¬ isEr o1 = true := fun z => by rw [if_pos z] at e; cases e
   rw [if_neg hne] at e
   obtain ⟨s2, hu, e2⟩ := Option.map_eq_some_iff.mp e
   cases e2
   refine ⟨ρ, _, env, o, env', s1, R1, E.mono S1.to0, hb, fun ρ' H' σ' S R' E' => ?_⟩
   obtain ⟨k1, k2, k3, k4⟩ := hfin ρ' s1 _ H' S R' hu
   have F1 := F ρ' (upd H' a ho) σ' k3 k2 (E'.mono k4)
   cases o with
   | nx => exact ⟨k1, F1⟩
   | rt d => exact fun v hv => ⟨k1, F1 v (hv.mono k4)⟩
   | bk => exact ⟨k1, F1⟩
   | ct => exact ⟨k1, F1⟩
   | er x => exact absurd rfl hne
  ·cases e
 ·cases e
theorem m_lk {x : Expr} {m : Env → Mo D} {b : Env → Mo D} (h : PE X x (tM c W b)) : PE X x (tM c W (lkE m b)) := (pe_lock h).imp fun σ H Q ⟨ρ, st, env, r, st', R, E, e, F⟩ => by
 unfold lkE at e
 split at e
 ·rename_i n u hk
  obtain ⟨a, ho, h1, h2, hm, hod⟩ := lk_open R hk
  refine ⟨a, ho, h2, hm, fun od => ?_⟩
  obtain ⟨R1, S1, hfin⟩ := hod od
  split at e
  ·rename_i d s1 hb
   obtain ⟨s2, hu, e2⟩ := Option.map_eq_some_iff.mp e
   cases e2
   refine ⟨ρ, _, env, .ok d, s1, R1, E.mono S1.to0, hb, fun ρ' H' S R' v hv => ?_⟩
   obtain ⟨k1, k2, k3, k4⟩ := hfin ρ' s1 _ H' S R' hu
   exact ⟨k1, F ρ' (upd H' a ho) k3 k2 v (hv.mono k4)⟩
  ·cases e
 ·cases e
def dcM (g : Gt) (tg : MG) (t : Env → Mo Bool) (ek ev : Env → Mo D) (env0 : Env) (n0 : Nat) : Nat → Nat → Sto → Option Sto
 | 0, _ => fun _ => none
 | n + 1, i => fun st => match g i st with
  | none => none
  | some none => some st
  | some (some d) => match tg d env0 st with
   | none => none
   | some (env1, st1) => match t env1 st1 with
    | some (.ok true, st2) => match ek env1 st2 with
     | some (.ok yk, st3) => match ev env1 st3 with
      | some (.ok y, st4) => match keyOf yk, st4[n0]? with
       | some k, some (.dK acc) => if acc.length < 1000000 then dcM g tg t ek ev env0 n0 n (i + 1) (st4.set n0 (.dK (putD acc k y))) else none
       | _, _ => none
      | _ => none
     | _ => none
    | some (.ok false, st2) => dcM g tg t ek ev env0 n0 n (i + 1) st2
    | _ => none
def dcE (m : Env → Mo Gt) (tg : MG) (t : Env → Mo Bool) (ek ev : Env → Mo D) (vs : List Nat) : Env → Mo D := fun env => bnd (m env) fun g st => match dcM g tg t ek ev (wipeE env vs) st.length FUEL 0 (st ++ [.dK []]) with
 | none => none
 | some st1 => some (.ok (.ref st.length), st1)
theorem r_dc {m : Env → Mo Gt} {tg : MG} {t : Env → Mo Bool} {ek ev : Env → Mo D} {vs ws : List Nat} {Q : VK} (hs : ∀ v ∈ ws, v ∈ vs) (h : tM c W (dcE m tg t ek ev vs) σ H Q) : tDc (tI c W m) (tG c ws tg) (tT c W0 t) (tM c W0 ek) (tM c W0 ev) vs σ H Q := by
 obtain ⟨ρ, st, env, r, st', R, E, e0, F⟩ := h
 refine tX.bind R E e0 F fun ρ1 H1 st1 g J s1 R1 E1 hJ e1 F1 => ?_
 intro P hP
 cases hm : dcM g tg t ek ev (wipeE env vs) st1.length FUEL 0 (st1 ++ [.dK []]) with
 | none => rw [hm] at e1; cases e1
 | some st2 =>
  rw [hm] at e1
  cases e1
  obtain ⟨R1', T0, rP⟩ := R1.new hP (.dK (c := c) .nil)
  refine ⟨fun i n H => ∃ ρ st, Step (ρ1 ++ [P]) (upd H1 P (.dK [])) ρ H ∧ Rel c ρ st H ∧ dcM g tg t ek ev (wipeE env vs) st1.length n i st = some st',
   ⟨FUEL, _, _, .refl, R1', hm⟩, fun i n H ⟨ρ, st, tt, R, e⟩ => ?_⟩
  have hPn : ρ[st1.length]? = some P := by
   cases rP with | ref h => exact tt.get h
  cases n with
  | zero => cases e
  | succ n =>
   unfold dcM at e
   obtain ⟨h1, h2⟩ := (hJ.mono T0) ρ st H i tt R
   cases hg : g i st with
   | none => rw [hg] at e; cases e
   | some q =>
    rw [hg] at e
    cases q with
    | none =>
     cases e
     exact .inl ⟨h1 hg, F1.ok (T0.trans tt) R _ (.ref hPn)⟩
    | some d =>
     obtain ⟨hgo, hy⟩ := h2 d hg
     refine .inr ⟨hgo, fun H => ∃ ρ st, Step (ρ1 ++ [P]) (upd H1 P (.dK [])) ρ H ∧ Rel c ρ st H ∧ dcM g tg t ek ev (wipeE env vs) st1.length n (i + 1) st = some st', fun H' h => ⟨n, Nat.lt_succ_self n, h⟩, fun x H' hyl => ?_⟩
     obtain ⟨t2, R2, r2⟩ := hy x H' hyl
     try dsimp only at e
     have E0 : REnv c ρ H' (wipe σ vs) (wipeE env vs) := (E1.wipe vs).mono ((T0.trans tt).trans t2).to0
     cases ht : tg d (wipeE env vs) st with
     | none => rw [ht] at e; cases e
     | some p =>
      obtain ⟨env2, st3⟩ := p
      rw [ht] at e
      refine ⟨ρ, st, _, d, env2, st3, R2, E0, r2, ht, fun ρ3 H3 σ3 t3 R3 E3 l3 a3 => ⟨wipe_wipe hs l3 a3, ?_⟩⟩
      have T3 := (tt.trans t2).trans t3
      try dsimp only at e
      cases hb : t env2 st3 with
      | none => rw [hb] at e; cases e
      | some p =>
       obtain ⟨rb, st4⟩ := p
       rw [hb] at e
       cases rb with
       | error x => cases e
       | ok k =>
        refine ⟨ρ3, st3, env2, .ok k, st4, R3, E3, hb, fun ρ4 H4 t4 R4 b hbk => ?_⟩
        subst hbk
        cases b with
        | false =>
         rw [if_neg Bool.false_ne_true]
         exact ⟨ρ4, st4, T3.trans t4, R4, e⟩
        | true =>
         rw [if_pos rfl]
         try dsimp only at e
         cases he : ek env2 st4 with
         | none => rw [he] at e; cases e
         | some p =>
          obtain ⟨ryk, st5⟩ := p
          rw [he] at e
          cases ryk with
          | error x => cases e
          | ok yk =>
           refine ⟨ρ4, st4, env2, .ok yk, st5, R4, E3.mono t4.to0, he, fun ρ5 H5 t5 R5 vk hvk => ?_⟩
           try dsimp only at e
           cases hev : ev env2 st5 with
           | none => rw [hev] at e; cases e
           | some p =>
            obtain ⟨ry, st6⟩ := p
            rw [hev] at e
            cases ry with
            | error x => cases e
            | ok y =>
             refine ⟨ρ5, st5, env2, .ok y, st6, R5, (E3.mono t4.to0).mono t5.to0, hev, fun ρ6 H6 t6 R6 v hv => ?_⟩
             try dsimp only at e
             have T6 := ((T3.trans t4).trans t5).trans t6
             have hP6 : ρ6[st1.length]? = some P := by cases rP with | ref h => exact T6.get h
             cases hk : keyOf yk with
             | none => rw [hk] at e; cases e
             | some kk =>
              have ekv := keyOf_inv hvk hk
              cases ha : st6[st1.length]? with
              | none => rw [hk, ha] at e; cases e
              | some ob =>
               rw [hk, ha] at e
               cases ob with
               | dK acc =>
                try dsimp only at e
                by_cases hl : acc.length < 1000000
                ·rw [if_pos hl] at e
                 obtain ⟨a, ho, q1, q2, q3⟩ := R6.ob _ _ ha
                 rw [hP6] at q1; cases q1
                 cases q3 with
                 | un q3 => cases q3 with
                  | @dK us _ q3 =>
                   refine ⟨us, kk, ekv, q2, by rw [q3.length]; exact Nat.lt_of_lt_of_le hl (by decide), ?_⟩
                   obtain ⟨R7, T7⟩ := R6.put ha hP6 (.un (.dK (q3.put (k := kk) hv)))
                   exact ⟨ρ6, _, T6.trans T7, R7, e⟩
                ·rw [if_neg hl] at e; cases e
               | _ => cases e
theorem m_dc {kx vx tg iter : Expr} {ifs : List Expr} {scope : Scope} {own : List (Str × Nat)} {pos : Pos} {m : Env → Mo Gt} {g : MG} {t : Env → Mo Bool} {ek ev : Env → Mo D} {ws : List Nat} (hc : X.calm = true) (hN : X.N.Nodup) (hi : PI X tg iter (tI c W m)) (ok : BlkOk X.N X.env.scope scope own) (hws : ∀ v ∈ ws, v ∈ own.map (·.2))
  (hg : ∀ (s : Shared) (H : Hp) (C : Addr) (cl : List (Str × Addr)) (fp : List Addr), PG (X.blk s H scope (compEnvC scope cl C X.env) fp) tg (tG c ws g)) (ht : ∀ (s : Shared) (H : Hp) (C : Addr) (cl : List (Str × Addr)) (fp : List Addr), PTs (X.blk s H scope (compEnvC scope cl C X.env) fp) ifs (tT c W0 t))
  (hk : ∀ (s : Shared) (H : Hp) (C : Addr) (cl : List (Str × Addr)) (fp : List Addr), PE (X.blk s H scope (compEnvC scope cl C X.env) fp) kx (tM c W0 ek)) (he : ∀ (s : Shared) (H : Hp) (C : Addr) (cl : List (Str × Addr)) (fp : List Addr), PE (X.blk s H scope (compEnvC scope cl C X.env) fp) vx (tM c W0 ev)) (hs : ∀ x, foldedSetIterable iter X.env x = pure x := by intro _; rfl) :
  PE X (.DictComp kx vx [⟨tg, iter, ifs, 0⟩] scope pos) (tM c W (dcE m g t ek ev (own.map (·.2)))) := (pe_dc hc hN hi ok hg ht hk he hs).imp fun _ _ _ h => r_dc hws h
end
section
variable {ρ ρ1 : List Addr} {H H1 : Hp} {st st1 st' : Sto} {X : Cx} {W : Wx}
def strKeys : List (Key × D) → Option (List Str)
 | [] => some []
 | (.inr s, _) :: r => (strKeys r).map (s :: ·)
 | _ => none
theorem strKeys_of : ∀ {vs : List (Key × V)} {ks : List (Key × D)} {ss : List Str}, RKs c ρ H vs ks → strKeys ks = some ss → vs.map (·.1) = ss.map Sum.inr
 | _, _, _, .nil, h => by cases h; rfl
 | _, _, _, .cons (k := k) _ t, h => by
  cases k with
  | inl i => cases h
  | inr s =>
   obtain ⟨l, hl, rfl⟩ := Option.map_eq_some_iff.mp h
   rw [List.map_cons, List.map_cons, strKeys_of t hl]
def rSortKD : List V → Hp → VK → Prop := fun xs H Q => ∃ (a : Addr) (kvs : List (Key × V)) (ks : List Str), xs = [.ref a] ∧ Rd H a (.dK kvs) ∧ kvs.map (·.1) = ks.map Sum.inr ∧ ks.length < 64 ∧ ∀ ys p, ys.Perm ks → sortedS ys = true → H p = none → Q (.ref p) (upd H p (.lst (ys.map V.str)))
def sortKD : List D → Mo D := fun as st => match as with
 | [d] => match dctOf d st with
  | some ks => match strKeys ks with
   | some ss => if ss.length < 64 then some (.ok (.ref st.length), st ++ [.lst ((srtS ss).map D.str)]) else none
   | none => none
  | none => none
 | _ => none
theorem c_sortKD : CallC c sortKD rSortKD := fun {W σ ρ st st' H xs as res Q} R rs e F => by
 cases as with
 | nil => cases e
 | cons d r => cases r with
  | cons _ _ => cases e
  | nil =>
   obtain ⟨v, rfl, rv⟩ := rv1 rs
   unfold sortKD at e
   dsimp only at e
   cases hl : dctOf d st with
   | none => rw [hl] at e; cases e
   | some ks =>
    rw [hl] at e
    dsimp only at e
    obtain ⟨a, us, rfl, ha, hu⟩ := dctOf_inv R rv hl
    cases hs : strKeys ks with
    | none => rw [hs] at e; cases e
    | some ss =>
     rw [hs] at e
     dsimp only at e
     by_cases h : ss.length < 64
     ·rw [if_pos h] at e; cases e
      refine ⟨a, us, ss, rfl, ha, strKeys_of hu hs, h, fun ns' p h1 h2 hp => ?_⟩
      have : ns' = srtS ss := sorted_oneS (h1.trans srtS_perm.symm) h2 srtS_pw
      subst this
      obtain ⟨R', T, r⟩ := R.new hp (.lst (rvs_strs (c := c) (ρ := ρ) (H := H) (srtS ss)))
      exact F.ok T R' _ r
     ·rw [if_neg h] at e; cases e
def sortE : List D → Mo D := altC sortD sortKD
theorem c_sortE : CallC c sortE (fun xs H Q => (rSortedI c.K xs H Q ∨ rSortedS c.K xs H Q) ∨ rSortKD xs H Q) := CallC.or c_sort c_sortKD
theorem o_sortE (hc : X.calm = true) (hK : X.K = c.K := by rfl) : CallR X (.builtin "sorted") (fun xs H Q => (rSortedI c.K xs H Q ∨ rSortedS c.K xs H Q) ∨ rSortKD xs H Q) := CallR.or (o_sort hK) (call_sortedD hc)
end
end M
namespace M
open PySem PySem.Spec PyProof.Rows L2 G
variable {c : MC}
def gKD (ds : List D) (is : List Nat) : List D → List D → List D := fun as bs => as ++ kwp is (bs ++ ds)
section
variable {x qual : Str} {params : Arguments} {body : List Stmt} {scope : Scope} {dvs : List V} {kws : List (Str × V)} {f : Addr} {fd : FuncData} {ps : List Str}
theorem bnd_dk (F : L2.FunD c.K x qual params body scope dvs kws f fd) (n : Nat) (ks : List Str) (ms : List (Str × V)) (is : List Nat) (ds : List D) (hd : dvs ≠ []) (hk : kws ≠ []) (hms : ∀ q ∈ ms, q ∈ kws) (hR : ∀ ρ H, RVs c ρ H (dvs ++ ms.map (·.2)) ds)
  (h : ∀ (T D : Addr) (doc pm : Value) (an : Option Addr) (cdv ct : Value) (us its mv ws : List Value), us.length = n → its.length = dvs.length → mv.length = ms.length → ws.length = ks.length →
   ∃ k, bindArgs (PySem.W.fnOf x qual params body scope (.ref T) (.ref D) doc pm an cdv ct) ⟨us, ks.zip ws⟩ = seqItems? (.ref T) >>= k ∧ KwChain D ((ms.map (·.1)).zip mv) (k (some its.toArray)) (ps.zip (us ++ kwp is (ws ++ (its ++ mv))))) :
  Bnd c c.K fd ps n ks (gKD ds is) := by
 obtain ⟨its, mv, hb⟩ := F.kbinds n ks ms (fun us its mv ws => us ++ kwp is (ws ++ (its ++ mv))) hd hk hms (fun r1 r2 r3 r4 => r1.append (kwp_vals is (r4.append (r2.append r3)))) h
 exact ⟨_, _, hb, fun ρ H vs zs as bs h1 h2 => h1.app (rvs_kwp is (h2.app (hR ρ H)))⟩
end
theorem kwc_nil {α : Type} {D : Addr} {t : Sem α} {r : α} (h : t = pure r) : KwChain D [] t r := h
theorem kwc_cons {α β γ : Type} {D : Addr} {q : Str × Value} {l : List (Str × Value)} {t : Sem α} {r : α} {k1 : Option Value → Sem β} {k2 : β → Sem γ} {k3 : γ → Sem α} {a : β} (h : t = ((nsGet D q.1 >>= k1) >>= k2) >>= k3) (h1 : k1 (some q.2) = pure a) (h2 : KwChain D l (k2 a >>= k3) r) : KwChain D (q :: l) t r := ⟨β, γ, k1, k2, k3, a, h, h1, h2⟩
theorem fn_mD {P : Program} {w : World} {mg : Str → Option Value} {base : Heap} {x qual : Str} {st : Stmt} {dvs : List V} {kws : List (Str × V)} {f : Addr} {fd : FuncData} {N ps : List Str} {k : Nat} {m : MS} (F : L2.FunD c.K x qual (defArgs st) (defBody st) (defScope st) dvs kws f fd) (S : FnScope N ps (defScope st))
  (hbody : ∀ (cdv : Value) (A : Around) (outer : List PySem.Env) (s : Shared) (H : Hp) (E : XK), Room k (A.deeper (envOfC qual (defScope st) s.heap.objs.size f cdv)) → Takes (cxOf (L2.CX P w) P w c.K mg base N qual (defScope st) f cdv A outer s H E) (WD E) →
   PSs (cxOf (L2.CX P w) P w c.K mg base N qual (defScope st) f cdv A outer s H E) (defBody st) (tS c (WD E) m)) : FnOk P w c.K mg base (L2.CX P w) (k + 1) f fd ps (spM c ps.length (runF N.length ps.length m)) := by
 refine F.ok S (fun vs H Q E h => ?_) fun cdv A outer s H vs Q E hr h => ⟨_, hbody cdv A outer s H E hr (takes_of rfl rfl rfl rfl), ?_⟩
 ·obtain ⟨ρ, st, ds, r, st', R, h1, h2, _⟩ := h
  rw [h1.length]; exact h2
 ·obtain ⟨ρ, st0, ds, r, st', R, h1, h2, e, F⟩ := h
  unfold runF at e
  rw [if_pos h2] at e
  cases hm : m (ds.map some ++ List.replicate (N.length - ps.length) none) st0 with
  | none => rw [hm] at e; cases e
  | some p =>
   obtain ⟨o, env', s1⟩ := p
   rw [hm] at e
   refine ⟨ρ, st0, _, o, env', s1, R, (by have h9 := REnv.start (N := N) h1; rw [h2] at h9; exact h9), hm, fun ρ' H' σ' T R' E' => ?_⟩
   cases o with
   | nx => cases e; exact F σ' ρ' H' T R' _ .non
   | rt d => cases e; exact F σ' ρ' H' T R'
   | er x => cases e; exact F σ' ρ' H' T R'
   | bk => cases e
   | ct => cases e
end M
namespace M
open PySem PySem.Spec PyProof.Rows L2 G
variable {c : MC}
section
variable {P : Program} {w : World} {A : Around} {Er : Value → Shared → Prop} {s : Shared}
theorem iadd_t0 {t b : Addr} {ws : List Value} {Q : Value → Shared → Prop} (x1 : IsTup s.heap t ([] : List Value).toArray) (x2 : IsTup s.heap b ws.toArray) (h : Q (.ref b) s) : wpAny (model P w) A (inplaceOp .Add (.ref t) (.ref b)) Q Er s := by
 obtain ⟨⟨k1, d1, v1, sl1⟩, h1, e1, n1, f1⟩ := x1
 obtain ⟨⟨k2, d2, v2, sl2⟩, h2, e2, n2, f2⟩ := x2
 simp only at e1 f1 e2 f2
 subst e1 f1 e2 f2
 exact wpAny_inplaceOp_concat ⟨_, h1, rfl⟩ ⟨_, h2, rfl⟩ (by with_unfolding_all rfl) noFill_tuple_add seq_tuple_add (call_meets PySem.F.slot_tuple_add ⟨_, h1, rfl⟩ PySem.F.entry_tuple_add (PySem.F.args_tuple_add_2 _ _)
  (tuple_addW0 t b ([] : List Value).toArray ws.toArray n1 n2 d1 d2 sl1 sl2 (by simp)) ⟨h1, h2, h⟩)
theorem iadd_t {t b : Addr} {vs ws : List Value} {Q : Value → Shared → Prop} (x1 : IsTup s.heap t vs.toArray) (x2 : IsTup s.heap b ws.toArray) (hv : vs ≠ []) (q1 : ws = [] → Q (.ref t) s)
  (q2 : ws ≠ [] → Q (.ref s.heap.objs.size) { s with heap := s.heap.push { cls := .type "tuple", data := .seq (vs ++ ws).toArray } }) (hsz : vs.length + ws.length ≤ sizeLine) : wpAny (model P w) A (inplaceOp .Add (.ref t) (.ref b)) Q Er s := by
 obtain ⟨⟨k1, d1, v1, sl1⟩, h1, e1, n1, f1⟩ := x1
 obtain ⟨⟨k2, d2, v2, sl2⟩, h2, e2, n2, f2⟩ := x2
 simp only at e1 f1 e2 f2
 subst e1 f1 e2 f2
 have ap : vs.toArray ++ ws.toArray = (vs ++ ws).toArray := by simp
 by_cases hw : ws = []
 ·exact wpAny_inplaceOp_concat ⟨_, h1, rfl⟩ ⟨_, h2, rfl⟩ (by with_unfolding_all rfl) noFill_tuple_add seq_tuple_add (call_meets PySem.F.slot_tuple_add ⟨_, h1, rfl⟩ PySem.F.entry_tuple_add (PySem.F.args_tuple_add_2 _ _)
   (tuple_addW1 t b vs.toArray ws.toArray n1 n2 d1 d2 sl1 sl2 (by simpa using hv) (by simp [hw])) ⟨h1, h2, q1 hw⟩)
 ·refine wpAny_inplaceOp_concat ⟨_, h1, rfl⟩ ⟨_, h2, rfl⟩ (by with_unfolding_all rfl) noFill_tuple_add seq_tuple_add (call_meets PySem.F.slot_tuple_add ⟨_, h1, rfl⟩ PySem.F.entry_tuple_add (PySem.F.args_tuple_add_2 _ _)
   (tuple_addW2 t b vs.toArray ws.toArray n1 n2 d1 d2 sl1 sl2 (by simpa using hv) (by simpa using hw) (by rw [List.size_toArray, List.size_toArray]; exact hsz)) ⟨h1, h2, ?_⟩)
  rw [ap]
  exact q2 hw
end
section
variable {X : Cx}
theorem iop_cat (K : PySem.W.Frag) (hK : X.K = K := by rfl) : OpR X (inplaceOp .Add) (rCatA K) := by
 subst hK
 intro pins s σ H x y v u Q I rx ry h
 obtain ⟨a, b, xs, ys, rfl, rfl, ha, hb, hz, q0, q1, q2⟩ := h
 cases rx
 cases ry
 obtain ⟨its, r1, p1, _⟩ := I.tuple ha
 obtain ⟨its2, r2, p2, _⟩ := I.tuple hb
 by_cases hx : xs = []
 ·subst hx
  cases r1
  exact iadd_t0 p1 p2 ⟨.ref b, H, I, rfl, q0 rfl⟩
 ·refine iadd_t p1 p2 (fun z => hx (r1.nil_iff.mp z)) (fun z => ⟨.ref a, H, I, rfl, q1 hx (r2.nil_iff.mp z)⟩) (fun z => ?_) (by rw [← r1.length, ← r2.length]; exact hz)
  exact ⟨.ref s.heap.objs.size, _, I.laid (t' := s.toks) (o := .tup (xs ++ ys)) (fun b ob q => Heap.get?_push_of_some _ q) (Nat.le_refl _) ⟨by rw [List.length_append]; exact hz, _, r1.append r2, IsTup.new _ _⟩, rfl, q2 hx (fun w => z (r2.nil_iff.mpr w)) _ (I.hok.fresh (Nat.le_refl _))⟩
def rIadd (K : PySem.W.Frag) : R2 := fun x y H Q => (rI0 (fun i j => .int (i + j)) x y H Q ∨ G.rAddS x y H Q) ∨ rCatA K x y H Q
theorem ip_addA (K : PySem.W.Frag) (hK : X.K = K := by rfl) : OpR X (inplaceOp .Add) (rIadd K) := OpR.or (OpR.or iop_add iop_add_str) (iop_cat K hK)
end
def iaddA : D → D → Mo D := alt addI addTup
theorem c_iaddA : OpC c iaddA (rIadd c.K) := OpC.or c_addI c_addTup
section
variable {W : Wx} {σ : L2.St} {ρ ρ1 ρ' : List Addr} {H H1 H' : Hp} {st st1 st' : Sto} {env env' : Env} {X : Cx}
end
end M
namespace M
open PySem PySem.Spec PyProof.Rows L2 G
theorem eqE_str {a b : Str} {st : Sto} : eqE (.str a) (.str b) st = some (.ok (.bl (decide (a = b))), st) := rfl
theorem callE {f : List D → Mo D} {ms : Env → Mo (List D)} {env : Env} {st s s2 : Sto} {as : List D} {r : M.R D} (h : ms env st = some (.ok as, s)) (h2 : f as s = some (r, s2)) : callB (gK []) f ms aNil env st = some (r, s2) := by
 have e : gK [] as [] = as := by simp [gK, kwp]
 unfold callB
 rw [bnd_ok h]
 refine (bnd_ok (s := s) (a := []) rfl).trans ?_
 rw [e]; exact h2
theorem args1 {m1 : Env → Mo D} {env : Env} {st s : Sto} {a : D} (h : m1 env st = some (.ok a, s)) : aCons m1 aNil env st = some (.ok [a], s) := by unfold aCons; rw [bnd_ok h]; rfl
theorem args2 {m1 m2 : Env → Mo D} {env : Env} {st s s2 : Sto} {a b : D} (h : m1 env st = some (.ok a, s)) (h2 : m2 env s = some (.ok b, s2)) : aCons m1 (aCons m2 aNil) env st = some (.ok [a, b], s2) := by unfold aCons; rw [bnd_ok h, bnd_ok (bnd_ok h2)]; rfl
theorem op2E {f : D → D → Mo D} {m1 m2 : Env → Mo D} {env : Env} {st s s2 s3 : Sto} {a b : D} {r : M.R D} (h : m1 env st = some (.ok a, s)) (h2 : m2 env s = some (.ok b, s2)) (h3 : f a b s2 = some (r, s3)) : op2 f m1 m2 env st = some (r, s3) := by unfold op2; rw [bnd_ok h, bnd_ok h2, h3]
theorem truE {m1 : Env → Mo D} {env : Env} {st s : Sto} {k : Bool} (h : m1 env st = some (.ok (.bl k), s)) : tru m1 env st = some (.ok k, s) := by unfold tru; rw [bnd_ok h]; rfl
theorem opNE {f : List D → Mo D} {ms : Env → Mo (List D)} {env : Env} {st s s2 : Sto} {as : List D} {r : M.R D} (h : ms env st = some (.ok as, s)) (h2 : f as s = some (r, s2)) : opN f ms env st = some (r, s2) := by unfold opN; rw [bnd_ok h, h2]
theorem eq_int {a b : Int} {st : Sto} : eqE (.int a) (.int b) st = some (.ok (.bl (decide (a = b))), st) := rfl
theorem ix_list {st : Sto} {n : Nat} {xs : List D} {i : Int} {x : D} (h : st[n]? = some (.lst xs)) (h0 : 0 ≤ i) (hx : xs[i.toNat]? = some x) : ixD (.ref n) (.int i) st = some (.ok x, st) := by
 unfold ixD
 dsimp only
 rw [h]
 dsimp only
 rw [atI_nn h0 hx]
 first | done | rfl
theorem dsp_run {trs : List ((Env → Mo D) × (Env → Mo D))} {env : Env} {st : Sto} {ps : List (D × D)} {kvs : List (Key × D)} (h : pairsM trs env (st ++ [.dK []]) = some (.ok ps, st ++ [.dK []])) (hk : keyed ps = some kvs) (hl : kvs.length ≤ 15) : dspE trs env st = some (.ok (.ref st.length), (st ++ [Ob.dK []]).set st.length (.dK (mergeD [] kvs))) := by
 unfold dspE
 rw [h]
 dsimp only
 rw [hk]
 dsimp only
 rw [if_pos hl, getN]
theorem dsp_run2 {trs : List ((Env → Mo D) × (Env → Mo D))} {env : Env} {st s : Sto} {ps : List (D × D)} {kvs : List (Key × D)} (h : pairsM trs env (st ++ [.dK []]) = some (.ok ps, s)) (h1 : s[st.length]? = some (.dK [])) (hk : keyed ps = some kvs) (hl : kvs.length ≤ 15) : dspE trs env st = some (.ok (.ref st.length), s.set st.length (.dK (mergeD [] kvs))) := by
 unfold dspE
 rw [h]
 dsimp only
 rw [hk]
 dsimp only
 rw [if_pos hl, h1]
theorem abs_e {i : Int} {st : Sto} : absD [.int i] st = some (.ok (.int i.natAbs), st) := by
 have e : (i.natAbs : Int) = if i < 0 then -i else i := by split <;> omega
 rw [e]; rfl
theorem len_lstE {n : Nat} {xs : List D} {st : Sto} (h : st[n]? = some (.lst xs)) : lenD [.ref n] st = some (.ok (.int xs.length), st) := by unfold lenD seqOf tupOf lstOf; dsimp only; rw [h]
theorem appE {m1 m2 : Env → Mo D} {env : Env} {st : Sto} {n : Nat} {xs : List D} {x : D} (h1 : m1 env st = some (.ok (.ref n), st)) (h2 : m2 env st = some (.ok x, st)) (h : st[n]? = some (.lst xs)) (hl : xs.length < 1000000) : mth "list" (lstMt appF) m1 (aCons m2 aNil) env st = some (.ok .non, st.set n (.lst (xs ++ [x]))) := by
 unfold mth
 rw [bnd_ok h1]
 have hty : isTy "list" (.ref n) st = true := by unfold isTy; dsimp only; rw [h]; rfl
 unfold chk
 rw [if_pos hty, bnd_ok (args1 h2)]
 unfold lstMt
 dsimp only
 rw [h]
 dsimp only
 unfold appF
 dsimp only
 rw [if_pos hl]
theorem slcE {m1 : Env → Mo D} {l h : Env → Mo (Option Int)} {env : Env} {st : Sto} {lo hi : Option Int} {a : D} {r : M.R D} {s : Sto} (h1 : m1 env st = some (.ok a, st)) (h2 : l env st = some (.ok lo, st)) (h3 : h env st = some (.ok hi, st)) (h4 : slD a lo hi st = some (r, s)) : slc slD m1 l h env st = some (r, s) := by unfold slc; rw [bnd_ok h1, bnd_ok h2, bnd_ok h3, h4]
theorem orF {t u : Env → Mo Bool} {env : Env} {st s s2 : Sto} (h : t env st = some (.ok false, s)) (h2 : u env s = some (.ok false, s2)) : orT t u env st = some (.ok false, s2) := by
 unfold orT; rw [bnd_ok h]; exact h2
theorem notE {t : Env → Mo Bool} {env : Env} {st s : Sto} {k : Bool} (h : t env st = some (.ok k, s)) : notT t env st = some (.ok (!k), s) := by unfold notT; rw [bnd_ok h]; rfl
theorem slc_lst {st : Sto} {n : Nat} {xs : List D} {a b : Nat} (h : st[n]? = some (.lst xs)) (h1 : a ≤ b) (h2 : b ≤ xs.length) : slD (.ref n) (some (a : Int)) (some (b : Int)) st = some (.ok (.ref st.length), st ++ [.lst ((xs.drop a).take (b - a))]) := by
 unfold slD tupOf lstOf
 dsimp only
 rw [h]
 dsimp only
 unfold cutL2
 rw [HT.sIx_nat, HT.sIx_nat, Nat.min_eq_left h2, Nat.min_eq_left (Nat.le_trans h1 h2)]
theorem atE {m1 : Env → Mo D} {env : Env} {st s : Sto} {i : Int} (h : m1 env st = some (.ok (.int i), s)) : pAt m1 env st = some (.ok (some i), s) := by unfold pAt; rw [bnd_ok h]; rfl
theorem appE2 {m1 m2 : Env → Mo D} {env : Env} {st st2 : Sto} {n : Nat} {xs : List D} {x : D} (h1 : m1 env st = some (.ok (.ref n), st)) (h0 : st[n]? = some (.lst xs)) (h2 : m2 env st = some (.ok x, st2)) (h : st2[n]? = some (.lst xs)) (hl : xs.length < 1000000) : mth "list" (lstMt appF) m1 (aCons m2 aNil) env st = some (.ok .non, st2.set n (.lst (xs ++ [x]))) := by
 unfold mth
 rw [bnd_ok h1]
 have hty : isTy "list" (.ref n) st = true := by unfold isTy; dsimp only; rw [h0]; rfl
 unfold chk
 rw [if_pos hty, bnd_ok (args1 h2)]
 unfold lstMt
 dsimp only
 rw [h]
 dsimp only
 unfold appF
 dsimp only
 rw [if_pos hl]
theorem slcE2 {m1 : Env → Mo D} {l h : Env → Mo (Option Int)} {env : Env} {st s1 : Sto} {lo hi : Option Int} {a : D} {r : M.R D} {s : Sto} (h1 : m1 env st = some (.ok a, s1)) (h2 : l env s1 = some (.ok lo, s1)) (h3 : h env s1 = some (.ok hi, s1)) (h4 : slD a lo hi s1 = some (r, s)) : slc slD m1 l h env st = some (r, s) := by unfold slc; rw [bnd_ok h1, bnd_ok h2, bnd_ok h3, h4]
theorem ne_str {a b : Str} {st : Sto} : neE (.str a) (.str b) st = some (.ok (.bl (!decide (a = b))), st) := rfl
theorem mul_right {a b : Int} {st : Sto} (h : -(2 ^ 64) < b ∧ b < 2 ^ 64) : mulD (D.int a) (D.int b) st = some (.ok (D.int (a * b)), st) := by
 unfold mulD alt mulS intOp
 dsimp only
 rw [if_pos (decide_eq_true (.inr h))]
 first | done | rfl
theorem add_lst {st : Sto} {m n : Nat} {xs ys : List D} (hm : st[m]? = some (.lst xs)) (hn : st[n]? = some (.lst ys)) (hl : xs.length + ys.length ≤ 1000000) : addD (.ref m) (.ref n) st = some (.ok (.ref st.length), st ++ [.lst (xs ++ ys)]) := by
 unfold addD alt addI addLst
 dsimp only [stuck]
 rw [hm, hn]
 dsimp only
 rw [if_pos (show _ ≤ LINE from hl)]
theorem insE {C : Nat} {is : List Nat} {w : Nat} {fs : List (Nat × D)} {st : Sto} (h : st[w]? = some (.ins C fs)) (hf : (fs.all fun kv => inF is kv.1) = true) : insOf (inF is) C (.ref w) st = true := by
 unfold insOf
 dsimp only
 rw [h]
 dsimp only
 rw [hf, beq_self_eq_true]; rfl
theorem methG {C : Nat} {is : List Nat} {fs : List (Nat × D)} {f : List D → Mo D} {mo : Env → Mo D} {ms : Env → Mo (List D)} {env : Env} {st s1 s2 s : Sto} {w : Nat} {as : List D} {r : M.R D} (h1 : mo env st = some (.ok (.ref w), s1)) (hw : s1[w]? = some (.ins C fs)) (h2 : ms env s1 = some (.ok as, s2)) (h3 : f (.ref w :: as) s2 = some (r, s)) (hf : (fs.all fun kv => inF is kv.1) = true := by rfl) : methB C (inF is) (gK []) f mo ms aNil env st = some (r, s) := by
 have e : gK [] (.ref w :: as) [] = .ref w :: as := by simp [gK, kwp]
 unfold methB
 rw [bnd_ok h1]
 unfold chk
 rw [if_pos (insE hw hf), bnd_ok h2]
 refine (bnd_ok (s := s2) (a := []) rfl).trans ?_
 rw [e]; exact h3
theorem fldE {cs : List Nat} {C f w : Nat} {fs : List (Nat × D)} {d : D} {st : Sto} (h : st[w]? = some (.ins C fs)) (hC : C ∈ cs) (hd : fs.lookup f = some d) : fldD cs f (.ref w) st = some (.ok d, st) := by
 unfold fldD
 dsimp only
 rw [h]
 dsimp only
 rw [if_pos hC, hd]
theorem args0 {env : Env} {st : Sto} : aNil env st = some (.ok [], st) := rfl
theorem argsC {m : Env → Mo D} {ms : Env → Mo (List D)} {env : Env} {st s s2 : Sto} {a : D} {as : List D} (h : m env st = some (.ok a, s)) (h2 : ms env s = some (.ok as, s2)) : aCons m ms env st = some (.ok (a :: as), s2) := by unfold aCons; rw [bnd_ok h, bnd_ok h2]; rfl
theorem args3 {m1 m2 m3 : Env → Mo D} {env : Env} {st s s2 s3 : Sto} {a b c : D} (h : m1 env st = some (.ok a, s)) (h2 : m2 env s = some (.ok b, s2)) (h3 : m3 env s2 = some (.ok c, s3)) : aCons m1 (aCons m2 (aCons m3 aNil)) env st = some (.ok [a, b, c], s3) := argsC h (args2 h2 h3)
theorem ifET {t : Env → Mo Bool} {a b : Env → Mo D} {env : Env} {st s s2 : Sto} {r : M.R D} (h : t env st = some (.ok true, s)) (h2 : a env s = some (r, s2)) : ifE t a b env st = some (r, s2) := by unfold ifE; rw [bnd_ok h, if_pos rfl, h2]
theorem ifEF {t : Env → Mo Bool} {a b : Env → Mo D} {env : Env} {st s s2 : Sto} {r : M.R D} (h : t env st = some (.ok false, s)) (h2 : b env s = some (r, s2)) : ifE t a b env st = some (r, s2) := by unfold ifE; rw [bnd_ok h, if_neg Bool.false_ne_true, h2]
theorem orTT {t u : Env → Mo Bool} {env : Env} {st s : Sto} (h : t env st = some (.ok true, s)) : orT t u env st = some (.ok true, s) := by unfold orT; rw [bnd_ok h]; rfl
theorem andF {t u : Env → Mo Bool} {env : Env} {st s : Sto} (h : t env st = some (.ok false, s)) : andT t u env st = some (.ok false, s) := by unfold andT; rw [bnd_ok h]; rfl
theorem andE {t u : Env → Mo Bool} {env : Env} {st s s2 : Sto} {k : Bool} (h : t env st = some (.ok true, s)) (h2 : u env s = some (.ok k, s2)) : andT t u env st = some (.ok k, s2) := by unfold andT; rw [bnd_ok h]; exact h2
theorem orE {t u : Env → Mo Bool} {env : Env} {st s s2 : Sto} {k : Bool} (h : t env st = some (.ok false, s)) (h2 : u env s = some (.ok k, s2)) : orT t u env st = some (.ok k, s2) := by unfold orT; rw [bnd_ok h]; exact h2
theorem op1E {f : D → Mo D} {m : Env → Mo D} {env : Env} {st s s2 : Sto} {a : D} {r : M.R D} (h : m env st = some (.ok a, s)) (h2 : f a s = some (r, s2)) : op1 f m env st = some (r, s2) := by unfold op1; rw [bnd_ok h, h2]
theorem rngE {m : Env → Mo D} {env : Env} {st s : Sto} {N : Nat} {j : Int} (h : m env st = some (.ok (.int j), s)) (hj : j.toNat = N) (h1 : -(2 ^ 62) ≤ j) (h2 : j < 2 ^ 62) : rng1M m env st = some (.ok (gRng 0 N), s) := by
 unfold rng1M
 rw [bnd_ok h]
 dsimp only
 rw [if_pos ⟨h1, h2⟩, hj]
theorem gRng_in {lo : Int} {N i : Nat} {st : Sto} (h : i < N) : gRng lo N i st = some (some (.int (lo + i))) := by unfold gRng; rw [if_pos h]
theorem gRng_end {lo : Int} {N : Nat} {st : Sto} : gRng lo N N st = some none := by unfold gRng; rw [if_neg (Nat.lt_irrefl _)]
theorem iterLE {m : Env → Mo D} {env : Env} {st s : Sto} {n : Nat} {xs : List D} (h : m env st = some (.ok (.ref n), s)) (hn : s[n]? = some (.lst xs)) : iterM m env st = some (.ok (gSeq (.ref n)), s) := by
 unfold iterM
 rw [bnd_ok h]
 unfold seqOf tupOf lstOf
 dsimp only
 rw [hn]
theorem gSeqL {n : Nat} {xs : List D} {st : Sto} {i : Nat} (hn : st[n]? = some (.lst xs)) : gSeq (.ref n) i st = some xs[i]? := by
 unfold gSeq seqOf tupOf lstOf
 dsimp only
 rw [hn]
end M
namespace G
open PySem PySem.Spec PyProof.Rows L2
def FlatP (d : PyData) : Prop := (∃ t : Str, d = .str t ∧ t.length ≤ 8) ∨ ∃ i : Int, d = .int i ∧ i.natAbs < 10 ^ 402
def PartD (s : Str) (d : PyData) : Prop := isPart s d = true ∧ FlatP d
def KNL : List Str := ["clock", "past", "ask", "stop", "told", "piece", "shut", "room"]
inductive FrameD : PyData → Prop
 | mk {k x y : Str} {ss : List Str} {ds : List PyData} : k ∈ KNL → sortsOf k = some ss → OkN x → OkN y → x ≠ y → Paired PartD ss ds → FrameD (.tuple (.str k :: .str x :: .str y :: ds))
def PartT (s : Str) (d : PyData) : Prop := isPart s d = true ∧ ((∃ t : Str, d = .str t ∧ t.length ≤ 8) ∨ ∃ i : Int, d = .int i ∧ i.natAbs < 10 ^ 3999)
inductive FrameT : List PyData → Prop
 | mk {k x y : Str} {ss : List Str} {ds : List PyData} : k ∈ KNL → sortsOf k = some ss → OkN x → OkN y → x ≠ y → Paired PartT ss ds → FrameT (.str k :: .str x :: .str y :: ds)
theorem paired_imp {α β : Type} {R S : α → β → Prop} (f : ∀ a b, R a b → S a b) {xs : List α} {ys : List β} (h : Paired R xs ys) : Paired S xs ys := by
 induction h with
 | nil => exact .nil
 | cons a _ ih => exact .cons (f _ _ a) ih
theorem FrameD.t {d : PyData} (h : FrameD d) : ∃ ds, d = .tuple ds ∧ FrameT ds := by
 cases h with
 | mk a b c d e f => exact ⟨_, rfl, .mk a b c d e (paired_imp (fun s d h => ⟨h.1, h.2.imp id fun ⟨i, e, hi⟩ => ⟨i, e, Nat.lt_trans hi (by decide +kernel)⟩⟩) f)⟩
end G
namespace ZM
open PySem PySem.Spec PyProof.Rows L2
section
variable {prog : Program} {w : World} {A : Around} {E : Value → Shared → Prop} {s : Shared}
variable {c2 : Bool} {z TI TO i1 i2 l2 : Addr} {k1 k2 : Nat} {xs : Str} {tx : Tok} {ch : Nat} {ys : Array Value} {y a b : Value}
end
section
variable {prog : Program} {w : World} {A : Around} {E : Value → Shared → Prop} {s : Shared}
end
abbrev n1 (h : Heap) (x : Str) (u : Tok) : Heap := h.push { cls := .type "str_ascii_iterator", data := .fields #[.str x u, .int 0 0] }
abbrev n2 (c2 : Bool) (h : Heap) (x : Str) (u : Tok) (l2 : Addr) : Heap := (n1 h x u).push { cls := .type (itName c2), data := .fields #[.ref l2, .int 0 0] }
abbrev n3 (c2 : Bool) (h : Heap) (x : Str) (u : Tok) (l2 : Addr) : Heap := (n2 c2 h x u l2).push { cls := .type "tuple", data := .seq #[.ref h.objs.size, .ref (n1 h x u).objs.size] }
abbrev n4 (c2 : Bool) (h : Heap) (x : Str) (u : Tok) (l2 : Addr) : Heap := (n3 c2 h x u l2).push { cls := .type "tuple", data := .seq #[.none, .none] }
section
variable {prog : Program} {w : World} {A : Around} {E : Value → Shared → Prop} {s : Shared}
end
end ZM
namespace G
open PySem PySem.Spec PyProof.Rows L2
section
variable {pr : Program} {wd : World} {A : Around} {en : Env} {R : Result → Shared → Prop} {y t0 i0 t1 i1 : Expr} {f0 f1 : List Expr} {sc : Scope} {ps : Pos} {a acc : Value} {s : Shared}
end
def Held (Y : Cx) (fp : List Addr) (tn : Nat → Heap → Prop) (pins : List (Addr × Obj)) (i : Nat) (σ : L2.St) (H : Hp) (s : Shared) : Prop := Inv Y pins σ H s ∧ tn i s.heap ∧ ∀ b ∈ fp, H b = none
section
variable {Y : Cx} {tg : Expr} {J : It} {fp : List Addr} {it : Addr} {tn : Nat → Heap → Prop} {pins : List (Addr × Obj)} {i : Nat} {σ σ2 : L2.St} {H : Hp} {s : Shared}
theorem Held.of (T : Turn Y.prog Y.w Y.K tg J fp it tn) {hp : Heap} (t : tn i hp) (I : Inv Y (pins ++ pinsAt fp hp) σ H s) : Held Y fp tn pins i σ H s := by
 have pin : ∀ b ∈ fp, ∀ o, hp.get? b = some o → s.heap.get? b = some o ∧ H b = none := fun b hb o e =>
  have z := I.pin (b, o) (List.mem_append_right _ (List.mem_append_right _ (mem_pinsAt hb e)))
  ⟨z.1, z.2.1⟩
 exact ⟨I.unpinned, T.keep _ _ _ t fun b hb o e => (pin b hb o e).1, fun b hb => let ⟨o, e, _⟩ := T.obj _ _ t b hb; (pin b hb o e).2⟩
end
section
variable {X : Cx}
end
end G
namespace G
open PySem PySem.Spec PyProof.Rows L2
def kLt : Key → Key → Bool
 | .inl i, .inl j => decide (i < j)
 | .inr x, .inr y => decide (x.cps.toList < y.cps.toList)
 | .inl _, .inr _ => true
 | .inr _, .inl _ => false
def ksLt : List Key → List Key → Bool
 | _, [] => false
 | [], _ :: _ => true
 | a :: as, b :: bs => if a = b then ksLt as bs else kLt a b
def sameSort : Key → Key → Bool
 | .inl _, .inl _ => true
 | .inr _, .inr _ => true
 | _, _ => false
def ksCmp : List Key → List Key → Bool
 | a :: as, b :: bs => if a = b then ksCmp as bs else sameSort a b
 | _, _ => true
theorem kLt_asym : ∀ {a b : Key}, kLt a b = true → kLt b a = false
 | .inl i, .inl j, h => by
  have h := of_decide_eq_true h
  exact decide_eq_false (by omega)
 | .inr x, .inr y, h => by
  have h := of_decide_eq_true h
  exact decide_eq_false (List.not_lt.mpr (List.le_of_lt h))
 | .inl _, .inr _, _ => rfl
 | .inr _, .inl _, h => nomatch h
theorem kLt_tr : ∀ {a b c : Key}, kLt b a = false → kLt c b = false → kLt c a = false
 | .inl i, .inl j, .inl k, h, h2 => by
  have h := of_decide_eq_false h
  have h2 := of_decide_eq_false h2
  exact decide_eq_false (by omega)
 | .inr x, .inr y, .inr z, h, h2 => by
  have h := of_decide_eq_false h
  have h2 := of_decide_eq_false h2
  exact decide_eq_false (List.not_lt.mpr (List.le_trans (List.not_lt.mp h) (List.not_lt.mp h2)))
 | .inl _, .inl _, .inr _, _, _ => rfl
 | .inl _, .inr _, .inr _, _, _ => rfl
 | .inl _, .inr _, .inl _, _, h => nomatch h
 | .inr _, .inl _, _, h, _ => nomatch h
 | .inr _, .inr _, .inl _, _, h => nomatch h
theorem kLt_one : ∀ {a b : Key}, kLt a b = false → kLt b a = false → a = b
 | .inl i, .inl j, h, h2 => by
  have h := of_decide_eq_false h
  have h2 := of_decide_eq_false h2
  rw [show i = j by omega]
 | .inr x, .inr y, h, h2 => by
  have h := of_decide_eq_false h
  have h2 := of_decide_eq_false h2
  rw [G.cps_eq (List.le_antisymm (List.not_lt.mp h2) (List.not_lt.mp h))]
 | .inl _, .inr _, h, _ => nomatch h
 | .inr _, .inl _, _, h => nomatch h
theorem ksLt_asym : ∀ {a b : List Key}, ksLt a b = true → ksLt b a = false
 | _, [], h => by unfold ksLt at h; cases h
 | [], _ :: _, _ => rfl
 | a :: as, b :: bs, h => by
  unfold ksLt at h ⊢
  by_cases e : a = b
  ·rw [if_pos e] at h
   rw [if_pos e.symm]
   exact ksLt_asym h
  ·rw [if_neg e] at h
   rw [if_neg (Ne.symm e)]
   exact kLt_asym h
theorem ksLt_tr : ∀ {a b c : List Key}, ksLt b a = false → ksLt c b = false → ksLt c a = false
 | [], _, _, _, _ => by unfold ksLt; rfl
 | _ :: _, [], _, h, _ => by unfold ksLt at h; cases h
 | _ :: _, _ :: _, [], _, h => by unfold ksLt at h; cases h
 | a :: as, b :: bs, c :: cs, h, h2 => by
  unfold ksLt at h h2 ⊢
  by_cases e : b = a
  ·subst e
   rw [if_pos rfl] at h
   by_cases e2 : c = b
   ·subst e2
    rw [if_pos rfl] at h2 ⊢
    exact ksLt_tr h h2
   ·rw [if_neg e2] at h2 ⊢
    exact h2
  ·rw [if_neg e] at h
   by_cases e2 : c = b
   ·subst e2
    rw [if_neg e]
    exact h
   ·rw [if_neg e2] at h2
    by_cases e3 : c = a
    ·subst e3
     exact absurd (kLt_one h h2) e
    ·rw [if_neg e3]
     exact kLt_tr h h2
theorem ksLt_one : ∀ {a b : List Key}, ksLt a b = false → ksLt b a = false → a = b
 | [], [], _, _ => rfl
 | [], _ :: _, h, _ => by unfold ksLt at h; cases h
 | _ :: _, [], _, h => by unfold ksLt at h; cases h
 | a :: as, b :: bs, h, h2 => by
  unfold ksLt at h h2
  by_cases e : a = b
  ·rw [if_pos e] at h
   rw [if_pos e.symm] at h2
   rw [e, ksLt_one h h2]
  ·rw [if_neg e] at h
   rw [if_neg (Ne.symm e)] at h2
   exact absurd (kLt_one h h2) e
theorem swo_ks {α : Type} (k : α → List Key) : SrtO.Swo fun x y => ksLt (k x) (k y) := ⟨fun _ _ h => ksLt_asym h, fun _ _ _ h1 h2 => ksLt_tr h1 h2⟩
def TupK (h : Heap) (v : Value) (ks : List Key) : Prop := ∃ (a : Addr) (o : Obj) (us : List Value) (n : Nat), v = .ref a ∧ h.get? a = some o ∧ o.cls = .type "tuple" ∧ o.data = .seq us.toArray n ∧ Vals (ks.map kV) us
theorem TupK.keeps {h h' : Heap} {v : Value} {ks : List Key} (x : TupK h v ks) (k : ∀ b o, h.get? b = some o → o.cls = .type "tuple" → h'.get? b = some o) : TupK h' v ks := by
 obtain ⟨a, o, us, n, e, ho, hc, hd, hv⟩ := x
 exact ⟨a, o, us, n, e, k _ _ ho hc, hc, hd, hv⟩
section
variable {prog : Program} {w : World} {A : Around} {s : Shared} {Q : Bool → Shared → Prop} {fin : Bool}
theorem lex_keys : ∀ {as bs : List Key} {us ws : List Value} (i : Nat), Vals (as.map kV) us → Vals (bs.map kV) ws → ksCmp as bs = true → fin = decide (as.length < bs.length) → Q (ksLt as bs) s → PySem.W.KatLex prog w A true fin Q (us.zip ws) i s
 | [], [], us, ws, i, hu, hw, hc, hf, q => by
  cases hu; cases hw
  exact PySem.W.kat_nil (by rw [hf]; exact q)
 | [], _ :: _, us, ws, i, hu, hw, hc, hf, q => by
  cases hu
  rw [List.zip_nil_left]
  exact PySem.W.kat_nil (by rw [hf]; exact q)
 | _ :: _, [], us, ws, i, hu, hw, hc, hf, q => by
  cases hw
  rw [List.zip_nil_right]
  exact PySem.W.kat_nil (by rw [hf]; exact q)
 | a :: as, b :: bs, us, ws, i, hu, hw, hc, hf, q => by
  rw [List.map_cons] at hu hw
  cases hu with
  | cons ru hu =>
   cases hw with
   | cons rw' hw =>
    rw [List.zip_cons_cons]
    unfold ksCmp at hc
    unfold ksLt at q
    have hf' : fin = decide (as.length < bs.length) := by
     rw [hf, List.length_cons, List.length_cons]
     exact decide_eq_decide.mpr (by omega)
    cases a with
    | inl x => cases b with
     | inl y =>
      obtain ⟨t, rfl⟩ := ru
      obtain ⟨t', rfl⟩ := rw'
      refine PySem.W.kat_cons (wpAny_eqBool_int ?_)
      by_cases e : x = y
      ·subst e
       rw [if_pos rfl] at hc q
       rw [show (x == x) = true by simp]
       exact PySem.W.kat_yes (lex_keys (i + 1) hu hw hc hf' q)
      ·have e2 : (Sum.inl x : Key) ≠ .inl y := fun z => e (Sum.inl.inj z)
       rw [if_neg e2] at hc q
       rw [show (x == y) = false by simpa using e]
       exact PySem.W.kat_no (oneLt_any_int q)
     | inr y =>
      rw [if_neg (by intro z; cases z)] at hc
      cases hc
    | inr x => cases b with
     | inr y =>
      obtain ⟨t, rfl⟩ := ru
      obtain ⟨t', rfl⟩ := rw'
      refine PySem.W.kat_cons (wpAny_eqBool_str ?_)
      by_cases e : x = y
      ·subst e
       rw [if_pos rfl] at hc q
       rw [decide_eq_true rfl]
       exact PySem.W.kat_yes (lex_keys (i + 1) hu hw hc hf' q)
      ·have e2 : (Sum.inr x : Key) ≠ .inr y := fun z => e (Sum.inr.inj z)
       rw [if_neg e2] at hc q
       rw [decide_eq_false e]
       exact PySem.W.kat_no (oneLt_any_str q)
     | inl y =>
      rw [if_neg (by intro z; cases z)] at hc
      cases hc
theorem tup_lt {x y : Value} {ks ls : List Key} {E : Value → Shared → Prop} (hx : TupK s.heap x ks) (hy : TupK s.heap y ls) (hc : ksCmp ks ls = true) (q : Q (ksLt ks ls) s) : wpAny (model prog w) A (keyLt' (tuples' true) x y) Q E s := by
 obtain ⟨a, o, us, n, rfl, ho, hcl, hd, hv⟩ := hx
 obtain ⟨b, o', ws, m, rfl, ho', hcl', hd', hv'⟩ := hy
 refine PySem.W.kat_lt ho hd ho' hd' ?_
 have e1 := hv.length
 have e2 := hv'.length
 rw [List.length_map] at e1 e2
 refine lex_keys 0 hv hv' hc ?_ q
 simp only [List.size_toArray]
 rw [e1, e2]
end
def firstSort (kss : List (List Key)) : Bool := (kss.all fun ks => match ks with | .inl _ :: _ => true | _ => false) || (kss.all fun ks => match ks with | .inr _ :: _ => true | _ => false)
theorem first_of {kss : List (List Key)} (h : firstSort kss = true) : (∀ ks ∈ kss, ∃ i r, ks = .inl i :: r) ∨ (∀ ks ∈ kss, ∃ z r, ks = .inr z :: r) := by
 unfold firstSort at h
 rw [Bool.or_eq_true] at h
 rcases h with h | h
 ·refine .inl fun ks hk => ?_
  have := List.all_eq_true.mp h ks hk
  match ks, this with
  | .inl i :: r, _ => exact ⟨i, r, rfl⟩
  | .inr _ :: _, e => exact nomatch e
  | [], e => exact nomatch e
 ·refine .inr fun ks hk => ?_
  have := List.all_eq_true.mp h ks hk
  match ks, this with
  | .inr i :: r, _ => exact ⟨i, r, rfl⟩
  | .inl _ :: _, e => exact nomatch e
  | [], e => exact nomatch e
section
variable {prog : Program} {w : World} {A : Around} {s : Shared}
theorem kats_of {h : Heap} {k : Value → List Key} : ∀ {vs : List Value}, (∀ v ∈ vs, TupK h v (k v)) → (∀ v ∈ vs, k v ≠ []) → ∃ fs : List Value, PySem.W.KatTups h vs fs ∧ fs.length = vs.length ∧ ∀ f ∈ fs, ∃ v ∈ vs, ∃ a r, k v = a :: r ∧ RelV (kV a) f
 | [], _, _ => ⟨[], PySem.W.KatTups.nil, rfl, fun _ hm => nomatch hm⟩
 | v :: vs, hp, hn => by
  obtain ⟨fs, h1, h2, h3⟩ := kats_of (vs := vs) (fun v' hm => hp v' (List.mem_cons_of_mem _ hm)) fun v' hm => hn v' (List.mem_cons_of_mem _ hm)
  obtain ⟨a, o, us, n, rfl, ho, hc, hd, hv⟩ := hp v List.mem_cons_self
  have hne := hn _ (List.mem_cons_self (a := Value.ref a) (l := vs))
  generalize hk : k (Value.ref a) = ks at hv hne
  cases ks with
  | nil => exact absurd rfl hne
  | cons b r =>
   rw [List.map_cons] at hv
   cases hv with
   | @cons _ u _ us' ru hu =>
    refine ⟨u :: fs, PySem.W.KatTups.cons ho hc hd (by simp) h1, by rw [List.length_cons, List.length_cons, h2], fun f hm => ?_⟩
    rcases List.mem_cons.mp hm with rfl | hm
    ·exact ⟨_, List.mem_cons_self, b, r, hk, ru⟩
    ·obtain ⟨v', a1, a2⟩ := h3 f hm
     exact ⟨v', List.mem_cons_of_mem _ a1, a2⟩
theorem keys_sortable {a : Addr} {vs : List Value} {k : Value → List Key} (h0 : 0 < vs.length) (hp : ∀ v ∈ vs, TupK s.heap v (k v)) (hc : ∀ v ∈ vs, ∀ u ∈ vs, ksCmp (k v) (k u) = true) (hf : firstSort (vs.map k) = true) (ha : ∀ o, s.heap.get? a = some o → o.cls ≠ .type "tuple") : SrtO.SortableO prog w A s a vs fun v u => ksLt (k v) (k u) := by
 intro h' keep
 have hp' : ∀ v ∈ vs, TupK h' v (k v) := fun v hm => (hp v hm).keeps fun b o e c => keep b o (fun z => by subst z; exact ha o e c) e
 have hfs := first_of hf
 have hne : ∀ v ∈ vs, k v ≠ [] := fun v hm => by
  rcases hfs with h | h
  ·obtain ⟨i, r, e⟩ := h _ (List.mem_map_of_mem hm); rw [e]; exact List.cons_ne_nil _ _
  ·obtain ⟨i, r, e⟩ := h _ (List.mem_map_of_mem hm); rw [e]; exact List.cons_ne_nil _ _
 obtain ⟨fs, h1, h2, h3⟩ := kats_of hp' hne
 refine ⟨tuples' true, fun Q E hq => ?_, fun p q hm hm' => tup_lt (s := { s with heap := h' }) (hp' _ hm) (hp' _ hm') (hc _ hm _ hm') ⟨rfl, rfl⟩⟩
 rcases hfs with h | h
 ·refine PySem.W.kat_kind (T := .type "int") h1 (by omega) (fun f hm => ?_) (by rfl) ?_
  ·obtain ⟨v, hv, b, r, e, rel⟩ := h3 f hm
   obtain ⟨i, r', e'⟩ := h _ (List.mem_map_of_mem hv)
   rw [e] at e'
   cases e'
   obtain ⟨t, rfl⟩ := rel
   exact PySem.W.Looks.now
  ·have e : (Value.type "int" != Value.type "tuple") = true := by first | decide +kernel | rfl | decide
   rw [e]
   exact hq
 ·refine PySem.W.kat_kind (T := .type "str") h1 (by omega) (fun f hm => ?_) (by rfl) ?_
  ·obtain ⟨v, hv, b, r, e, rel⟩ := h3 f hm
   obtain ⟨i, r', e'⟩ := h _ (List.mem_map_of_mem hv)
   rw [e] at e'
   cases e'
   obtain ⟨t, rfl⟩ := rel
   exact PySem.W.Looks.now
  ·have e : (Value.type "str" != Value.type "tuple") = true := by first | decide +kernel | rfl | decide
   rw [e]
   exact hq
end
section
variable {X : Cx}
def rSortK (K : PySem.W.Frag) : List V → Hp → VK → Prop := fun vs H Q => ∃ (a : Addr) (xs : List V) (k : V → List Key), vs = [V.ref a] ∧ SqL K H a xs ∧ (∀ x ∈ xs, ∃ t, x = V.ref t ∧ H t = some (.tup ((k x).map kV))) ∧ (∀ x ∈ xs, ∀ y ∈ xs, ksCmp (k x) (k y) = true) ∧ firstSort (xs.map k) = true ∧
 ∀ ys p, ys.Perm xs → ys.Pairwise (fun x y => ksLt (k y) (k x) = false) → H p = none → Q (.ref p) (upd H p (.lst ys))
theorem cl_sortK : CallR X (.builtin "sorted") (rSortK X.K) := by
 intro pins s σ H vs us Q I r h
 obtain ⟨a, xs, k, rfl, hs, hx, hcm, hfs, q⟩ := h
 obtain ⟨its, rv, hl, hz⟩ := I.list hs
 rw [Vals.ref1 r]
 obtain ⟨e1, e2⟩ := refs_back rv fun x m => by
  obtain ⟨t, e, _⟩ := hx x m
  exact ⟨t, e⟩
 have hT : ∀ v ∈ its, TupK s.heap v (k (backV v)) := fun v hv => by
  obtain ⟨t, rfl⟩ := e2 v hv
  have hm : V.ref t ∈ xs := by rw [e1]; exact List.mem_map.mpr ⟨_, hv, rfl⟩
  obtain ⟨t', e, ht⟩ := hx _ hm
  cases e
  obtain ⟨_, its2, r2, o, ho, hc, n, hd⟩ := I.hok _ _ ht
  exact ⟨t, o, its2, n, rfl, ho, hc, hd, r2⟩
 have hbm : ∀ v ∈ its, backV v ∈ xs := fun v hv => by rw [e1]; exact List.mem_map_of_mem hv
 refine SrtO.sorted_ord (swo_ks fun u => k (backV u)) hl.isList (by rw [← rv.length]; exact hz) (fun h2 h₁ a ha kp => ?_) fun out h1 h2 => ?_
 ·refine keys_sortable (s := { s with heap := h₁ }) (by omega) (fun v hv => (hT v hv).keeps fun b o e _ => (kp b o e).2) (fun v hv u hu => hcm _ (hbm v hv) _ (hbm u hu)) ?_ fun o e => ?_
  ·rw [e1, List.map_map] at hfs
   exact hfs
  ·have e' : some o = some (seqObj "list" its.toArray 0) := e.symm.trans ha
   cases e'
   intro c
   injection c with c
   exact absurd c (by decide)
 ·obtain ⟨ep, he'⟩ := PyProof.Rows.sortedAll_at s.heap its out.toArray
  have h3 : ∀ u ∈ out, ∃ a, u = Value.ref a := fun u hu => e2 u (h2.perm.mem_iff.mp hu)
  have hp : (out.map backV).Perm xs := by
   rw [e1]
   exact h2.perm.map backV
  have hlen : (out.map backV).length ≤ sizeLine := by
   rw [hp.length_eq]
   exact hz
  exact ⟨.ref _, upd H (s.heap.objs.size + 1) (.lst (out.map backV)), I.laid (t' := s.toks) (fun _ _ => PyProof.Rows.sortedAll_old) (Nat.le_succ _) ⟨hlen, out, ep, vals_back h3, he'⟩, rfl, q _ _ hp (List.pairwise_map.mpr h1) (I.hok.fresh (Nat.le_succ _))⟩
def rSortKT : List V → Hp → VK → Prop := fun vs H Q => ∃ (d : Addr) (kvs : List (List Key × V)), vs = [V.ref d] ∧ Rd H d (.dT kvs) ∧ (∀ x ∈ kvs, ∀ y ∈ kvs, ksCmp x.1 y.1 = true) ∧ firstSort (kvs.map (·.1)) = true ∧
 ∀ (ys : List (List Key × Addr)) p, (∀ y ∈ ys, H y.2 = some (.tup (y.1.map kV))) → (ys.map (·.1)).Perm (kvs.map (·.1)) → (ys.map (·.1)).Pairwise (fun x y => ksLt y x = false) → H p = none → Q (.ref p) (upd H p (.lst (ys.map fun y => V.ref y.2)))
def deK : V → Option Key
 | .int i => some (.inl i)
 | .str z => some (.inr z)
 | _ => none
theorem deK_map : ∀ {ks : List Key}, (ks.map kV).filterMap deK = ks
 | [] => rfl
 | .inl i :: r => by
  show (V.int i :: r.map kV).filterMap deK = _
  rw [List.filterMap_cons_some (f := deK) (a := V.int i) (b := .inl i) rfl, deK_map]
 | .inr i :: r => by
  show (V.str i :: r.map kV).filterMap deK = _
  rw [List.filterMap_cons_some (f := deK) (a := V.str i) (b := .inr i) rfl, deK_map]
def keysAt (H : Hp) : Value → List Key × Addr
 | .ref a => (match H a with
  | some (.tup xs) => xs.filterMap deK
  | _ => [], a)
 | _ => ([], 0)
theorem keysAt_ref {H : Hp} {a : Addr} {ks : List Key} (h : H a = some (.tup (ks.map kV))) : keysAt H (.ref a) = (ks, a) := by
 unfold keysAt
 dsimp only
 rw [h]
 dsimp only
 rw [deK_map]
theorem cl_sortKT (hc : X.calm = true) : CallR X (.builtin "sorted") rSortKT := by
 intro pins s σ H vs us Q I r h
 obtain ⟨d, kvs, rfl, hd, hcm, hfs, q⟩ := h
 rw [Vals.ref1 r]
 obtain ⟨z, hs, ks, pr, o, es, ep, ho, hx, hdt, he, hn⟩ := (show ObjOk X.prog X.w H s.heap d (.dT kvs) from hd.ok I.hok)
 have l1 : es.size = ks.length := size_of_entries he
 have l2 : kvs.length = ks.length := Paired.length pr
 obtain ⟨ps, hps⟩ : ∃ ps : List (List Key × Addr), ps = ks.map fun x => (x.1, x.2.1) := ⟨_, rfl⟩
 have hkeys : ps.map (·.1) = kvs.map (·.1) := by
  rw [hps]
  clear hps hcm hfs q he hn l1 l2 z hd
  induction pr with
  | nil => rfl
  | cons h t ih => rw [List.map_cons, List.map_cons, List.map_cons, ih, h.1]
 have hpt : ∀ p ∈ ps, H p.2 = some (.tup (p.1.map kV)) := by
  rw [hps]
  clear hps hcm hfs q he hn l1 l2 z hkeys hd
  induction pr with
  | nil => exact fun _ h => nomatch h
  | cons h t ih =>
   intro p hp
   rw [List.map_cons] at hp
   rcases List.mem_cons.mp hp with rfl | hp
   ·rw [← h.1]; exact h.2.1
   ·exact ih p hp
 have h16 : es.size ≤ sizeLine := by omega
 refine Calls.call_function_entry PyProof.Rows.kind_sorted PyProof.Rows.plain_sorted PyProof.Rows.entry_sorted (PyProof.Rows.args_sorted1 _) ?_
 unfold Builtin.«sorted»
 refine wpAny_bind (m := checkCount "sorted" 1 1 _) (wpAny_pure ?_)
 refine wpAny_bind (PySem.W.kdu_collect (A := X.A.in1) (kdl_raw hs hx hdt) (I.ok.hd hc) ho h16 fun h' tk acc hk it => ?_)
 have ea : acc.toList = ps.map fun p => Value.ref p.2 := by
  have hl : acc.toList.length = ks.length := by rw [Array.length_toList, it.1]; exact l1
  rw [hps, List.map_map]
  apply List.ext_getElem?
  intro j
  rw [List.getElem?_map]
  cases hj : acc.toList[j]? with
  | none =>
   have h1 := List.getElem?_eq_none_iff.mp hj
   rw [List.getElem?_eq_none (by omega)]
   first | done | rfl
  | some v =>
   obtain ⟨en, hen, hv⟩ := it.2 j v (by rw [← Array.getElem?_toList]; exact hj)
   have qe := entry_at he j
   rw [hen] at qe
   cases hb : ks[j]? with
   | none =>
    rw [hb] at qe
    exact nomatch (show some en = none from qe)
   | some b =>
    rw [hb] at qe
    have e2 : en = entryOfKey (tupleKind (mixKind X.prog X.w)) b := Option.some.inj qe
    rw [hv, e2]
    first | done | rfl
 have hal : acc.toList.length = ps.length := by rw [ea, List.length_map]
 have hpl : ps.length = ks.length := by rw [hps, List.length_map]
 have I1 : Inv X pins σ H { s with heap := h', toks := tk } := I.kept hk
 refine wpAny_bind (wpAny_newList ?_ (by omega))
 have hoL : (h'.push (seqObj "list" acc.toList.toArray 0)).get? h'.objs.size = some (seqObj "list" acc.toList.toArray 0) := Heap.get?_push_size _ rfl
 show wpAny _ _ _ _ _ { s with heap := h'.push (seqObj "list" acc.toList.toArray 0), toks := tk }
 have hT : ∀ v ∈ acc.toList, ∃ p ∈ ps, v = Value.ref p.2 ∧ keysAt H v = p := fun v hv => by
  rw [ea] at hv
  obtain ⟨p, hp, rfl⟩ := List.mem_map.mp hv
  exact ⟨p, hp, rfl, keysAt_ref (hpt p hp)⟩
 refine wpAny_bind (wpAny_holding (wpAny_call_entry PyProof.Rows.slot_list_sort ⟨_, hoL, rfl⟩ PyProof.Rows.entry_list_sort
  (SrtO.list_sort_ord (s := { s with heap := h'.push (seqObj "list" acc.toList.toArray 0), toks := tk }) (swo_ks fun u => (keysAt H u).1) hoL (by omega) (fun h2 => ?_) fun out a1 a2 => ⟨_, rfl, ?_⟩)
  (PyProof.Rows.args_list_sort _)))
 ·refine keys_sortable (by omega) (fun v hv => ?_) (fun v hv u hu => ?_) ?_ fun o e => ?_
  ·obtain ⟨p, hp, rfl, e⟩ := hT v hv
   rw [e]
   obtain ⟨_, its2, r2, o2, ho2, hc2, n2, hd2⟩ := I.hok _ _ (hpt p hp)
   exact ⟨p.2, o2, its2, n2, rfl, Heap.get?_push_of_some _ (hk _ _ ho2), hc2, hd2, r2⟩
  ·obtain ⟨p, hp, rfl, e⟩ := hT v hv
   obtain ⟨p', hp', rfl, e'⟩ := hT u hu
   rw [e, e']
   have m1 : p.1 ∈ kvs.map (·.1) := by rw [← hkeys]; exact List.mem_map_of_mem hp
   have m2 : p'.1 ∈ kvs.map (·.1) := by rw [← hkeys]; exact List.mem_map_of_mem hp'
   obtain ⟨x, hx1, ex⟩ := List.mem_map.mp m1
   obtain ⟨y, hy1, ey⟩ := List.mem_map.mp m2
   rw [← ex, ← ey]
   exact hcm x hx1 y hy1
  ·have e1 : acc.toList.map (fun u => (keysAt H u).1) = kvs.map (·.1) := by
    rw [← hkeys, ea, List.map_map]
    exact List.map_congr_left fun p hp => by
     show (keysAt H (Value.ref p.2)).1 = p.1
     rw [keysAt_ref (hpt p hp)]
   rw [e1]
   exact hfs
  ·have e' : some o = some (seqObj "list" acc.toList.toArray 0) := e.symm.trans hoL
   cases e'
   intro c
   injection c with c
   exact absurd c (by decide)
 ·obtain ⟨e', he'⟩ := PyProof.Rows.sortedHeap_at (vs := acc.toList) (out := out.toArray) hoL
  have h3 : ∀ u ∈ out, ∃ p ∈ ps, u = Value.ref p.2 ∧ keysAt H u = p := fun u hu => hT u (a2.perm.mem_iff.mp hu)
  have hyo : out = (out.map (keysAt H)).map fun y => Value.ref y.2 := by
   rw [List.map_map]
   refine (List.map_id out).symm.trans (List.map_congr_left fun u hu => ?_)
   obtain ⟨p, _, e1, e2⟩ := h3 u hu
   show u = Value.ref (keysAt H u).2
   rw [e2, e1]
  have hpm : (out.map (keysAt H)).Perm ps := by
   have := a2.perm.map (keysAt H)
   rw [ea, List.map_map] at this
   refine this.trans (List.Perm.of_eq ?_)
   refine (List.map_congr_left fun p hp => ?_).trans (List.map_id ps)
   exact keysAt_ref (hpt p hp)
  have hvs : (out.map (keysAt H)).map (fun y => V.ref y.2) = ((out.map (keysAt H)).map (·.2)).map V.ref := by rw [List.map_map, List.map_map, List.map_map]; rfl
  have hrv : Vals ((out.map (keysAt H)).map fun y => V.ref y.2) out := by
   have := vals_refs ((out.map (keysAt H)).map (·.2))
   rw [hvs]
   have e2 : ((out.map (keysAt H)).map (·.2)).map Value.ref = out := by rw [List.map_map]; exact hyo.symm
   rw [e2] at this
   exact this
  have hlen : ((out.map (keysAt H)).map fun y => V.ref y.2).length ≤ sizeLine := by
   rw [List.length_map, hpm.length_eq]
   omega
  refine wpAny_pure ⟨_, rfl, .ref h'.objs.size, upd H h'.objs.size (.lst ((out.map (keysAt H)).map fun y => V.ref y.2)), I1.laid (t' := tk) (fun b u e => ?_) (Nat.le_refl _)
   (show ObjOk X.prog X.w _ _ _ (.lst ((out.map (keysAt H)).map fun y => V.ref y.2)) from ⟨hlen, out, e', hrv, he'⟩), rfl, q _ _ (fun y hy => ?_) ?_ ?_ (I1.hok.fresh (Nat.le_refl _))⟩
  ·have hb : b < h'.objs.size := Heap.lt_size e
   rw [PyProof.Rows.sortedHeap_old (Nat.ne_of_lt hb) (by rw [size_push']; exact Nat.lt_succ_of_lt hb)]
   exact Heap.get?_push_of_some _ e
  ·exact hpt y (hpm.mem_iff.mp hy)
  ·rw [← hkeys]; exact hpm.map _
  ·rw [List.pairwise_map, List.pairwise_map]
   exact a1
end
end G
namespace G
open PySem PySem.Spec PyProof.Rows L2
section
variable {X : Cx}
theorem call_sortedDIX (hcalm : X.calm = true) : CallR X (.builtin "sorted") (fun xs H Q => ∃ (a : Addr) (kvs : List (Key × V)) (ks : List Int), xs = [.ref a] ∧ Rd H a (.dK kvs) ∧ kvs.map (·.1) = ks.map Sum.inl ∧ ks.length ≤ sizeLine ∧
  ∀ (ys : List Int) (p : Addr), ys.Perm ks → ys.Pairwise (· ≤ ·) → H p = none → Q (.ref p) (upd H p (.lst (ys.map V.int)))) := by
 intro pins s σ H xs us Q I r q
 obtain ⟨a, kvs, ks, ex, hd, hks, h64, q⟩ := q
 subst ex
 obtain ⟨u, eu, rx⟩ := vals1 r
 subst eu
 cases rx
 obtain ⟨z, lo, vs, rel, dd⟩ := dk_rd I.hok hd
 obtain ⟨ep, hat⟩ := dd.dictAt
 have hkeys : vs.map (·.1) = ks.map Sum.inl := rel.keys.symm.trans hks
 have hl : vs.length = ks.length := by
  have e := congrArg List.length hkeys
  rw [List.length_map, List.length_map] at e
  exact e
 have h16 : vs.length ≤ sizeLine := by rw [hl]; exact h64
 refine Calls.call_function_entry PyProof.Rows.kind_sorted PyProof.Rows.plain_sorted PyProof.Rows.entry_sorted (PyProof.Rows.args_sorted1 _) ?_
 unfold Builtin.«sorted»
 refine wpAny_bind (m := checkCount "sorted" 1 1 _) (wpAny_pure ?_)
 refine wpAny_bind (PySem.W.kdu_collect (A := X.A.in1) (PySem.W.kdl_dict (knd := mixKind X.prog X.w) (kvs := vs) (ep := ep) lo) (I.ok.hd hcalm) hat h16 fun h' tk acc hk hacc => ?_)
 have hal : acc.toList.length = ks.length := by rw [Array.length_toList, hacc.1, hl]
 have hS : IntsAre acc.toList ks := ints_each hal fun j v e => by
  obtain ⟨k, x, e1, e2⟩ := hacc.2 j v (by rw [← Array.getElem?_toList]; exact e)
  have e3 : (vs.map (·.1))[j]? = some k := by rw [List.getElem?_map, e1]; rfl
  rw [hkeys, List.getElem?_map] at e3
  cases e4 : ks[j]? with
  | none => rw [e4] at e3; cases e3
  | some y =>
   rw [e4] at e3
   have e5 : Sum.inl y = k := Option.some.inj e3
   subst e5
   rcases keyIs_shape (show keyIs (Sum.inl y) v = true from e2) with ⟨i, t, ek, ev⟩ | ⟨z, t, ek, ev⟩
   ·cases ek
    exact ⟨y, t, rfl, ev⟩
   ·cases ek
 have I1 : Inv X pins σ H { s with heap := h', toks := tk } := I.kept hk
 refine wpAny_bind (wpAny_newList ?_ (by rw [hal]; exact h64))
 have hoL : (h'.push (seqObj "list" acc.toList.toArray 0)).get? h'.objs.size = some (seqObj "list" acc.toList.toArray 0) := Heap.get?_push_size _ rfl
 show wpAny _ _ _ _ _ { s with heap := h'.push (seqObj "list" acc.toList.toArray 0), toks := tk }
 refine wpAny_bind (wpAny_holding (wpAny_call_entry PyProof.Rows.slot_list_sort ⟨_, hoL, rfl⟩ PyProof.Rows.entry_list_sort
  (SrtO.list_sort_ord (s := { s with heap := h'.push (seqObj "list" acc.toList.toArray 0), toks := tk }) SrtO.swo_int hoL (by rw [hal]; exact h64) (fun h2 => SrtO.ints_sortable hS h2) fun out h1 h2 => ⟨_, rfl, ?_⟩) (PyProof.Rows.args_list_sort _)))
 obtain ⟨k1, k2, k3⟩ := SrtO.ints_out hS h1 h2
 obtain ⟨e', he'⟩ := PyProof.Rows.sortedHeap_at (vs := acc.toList) (out := out.toArray) hoL
 have hlen : ((out.map SrtO.iv).map V.int).length ≤ sizeLine := by
  rw [List.length_map, k2.length_eq]
  exact h64
 refine wpAny_pure ⟨_, rfl, .ref h'.objs.size, upd H h'.objs.size (.lst ((out.map SrtO.iv).map V.int)), I1.laid (t' := tk) (fun b u e => ?_) (Nat.le_refl _)
  (show ObjOk X.prog X.w _ _ _ (.lst ((out.map SrtO.iv).map V.int)) from ⟨hlen, out, e', vals_of_ints k1, he'⟩), rfl, q _ _ k2 k3 (I1.hok.fresh (Nat.le_refl _))⟩
 have hb : b < h'.objs.size := Heap.lt_size e
 rw [PyProof.Rows.sortedHeap_old (Nat.ne_of_lt hb) (by rw [size_push']; exact Nat.lt_succ_of_lt hb)]
 exact Heap.get?_push_of_some _ e
end
end G
namespace M
open PySem PySem.Spec PyProof.Rows L2 G
def insK (k : List Key) : List (List Key) → List (List Key)
 | [] => [k]
 | b :: r => if ksLt b k = true then b :: insK k r else k :: b :: r
def srtK : List (List Key) → List (List Key)
 | [] => []
 | k :: r => insK k (srtK r)
theorem insK_perm {k : List Key} : ∀ {l : List (List Key)}, (insK k l).Perm (k :: l)
 | [] => List.Perm.refl _
 | b :: r => by
  unfold insK
  by_cases h : ksLt b k = true
  ·rw [if_pos h]
   exact (List.Perm.cons b insK_perm).trans (List.Perm.swap k b r)
  ·rw [if_neg h]
theorem srtK_perm : ∀ {l : List (List Key)}, (srtK l).Perm l
 | [] => List.Perm.refl _
 | k :: r => insK_perm.trans (List.Perm.cons k srtK_perm)
theorem insK_pw {k : List Key} : ∀ {l : List (List Key)}, l.Pairwise (fun x y => ksLt y x = false) → (insK k l).Pairwise (fun x y => ksLt y x = false)
 | [], _ => List.pairwise_singleton _ _
 | b :: r, h => by
  unfold insK
  obtain ⟨h1, h2⟩ := List.pairwise_cons.mp h
  by_cases hb : ksLt b k = true
  ·rw [if_pos hb]
   refine List.pairwise_cons.mpr ⟨fun y hy => ?_, insK_pw h2⟩
   rcases List.mem_cons.mp (insK_perm.mem_iff.mp hy) with rfl | hy
   ·exact ksLt_asym hb
   ·exact h1 y hy
  ·rw [if_neg hb]
   have hb : ksLt b k = false := by simpa using hb
   refine List.pairwise_cons.mpr ⟨fun y hy => ?_, h⟩
   rcases List.mem_cons.mp hy with rfl | hy
   ·exact hb
   ·exact ksLt_tr hb (h1 y hy)
theorem srtK_pw : ∀ {l : List (List Key)}, (srtK l).Pairwise (fun x y => ksLt y x = false)
 | [] => List.Pairwise.nil
 | _ :: _ => insK_pw srtK_pw
theorem sorted_oneK {a b : List (List Key)} (p : a.Perm b) (ha : a.Pairwise (fun x y => ksLt y x = false)) (hb : b.Pairwise (fun x y => ksLt y x = false)) : a = b :=
 List.Perm.eq_of_pairwise (fun x y _ _ h1 h2 => ksLt_one h2 h1) ha hb p
def tupK (ks : List Key) : D := .tup (ks.map keyD)
def keysTs : List D → Option (List (List Key))
 | [] => some []
 | .tup ds :: r => match keysOf ds, keysTs r with
  | some k, some ks => some (k :: ks)
  | _, _ => none
 | _ => none
def sortK (kss : List (List Key)) : Bool := kss.all (fun x => kss.all fun y => ksCmp x y) && firstSort kss
def sortTL : List D → Mo D := fun as st => match as with
 | [d] => match lstOf d st with
  | some xs => match keysTs xs with
   | some kss => if sortK kss = true then some (.ok (.ref st.length), st ++ [.lst ((srtK kss).map tupK)]) else none
   | none => none
  | none => none
 | _ => none
def sortTD : List D → Mo D := fun as st => match as with
 | [.ref n] => match st[n]? with
  | some (.dT kvs) => if sortK (kvs.map (·.1)) = true then some (.ok (.ref st.length), st ++ [.lst ((srtK (kvs.map (·.1))).map tupK)]) else none
  | _ => none
 | _ => none
section
variable {c : MC} {ρ : List Addr} {st : Sto} {H : Hp}
theorem Rel.tupOut (R : Rel c ρ st H) {a : Addr} {vs : List V} (h : H a = some (.tup vs)) : a ∉ ρ := by
 intro hm
 obtain ⟨n, hn⟩ := List.mem_iff_getElem?.mp hm
 have hl : n < st.length := by rw [← R.len]; exact (List.getElem?_eq_some_iff.mp hn).1
 obtain ⟨b, ho, h1, h2, h3⟩ := R.ob n _ (List.getElem?_eq_getElem hl)
 rw [hn] at h1; cases h1
 rw [h] at h2; cases h2
 generalize st[n] = o at h3
 cases h3 with
 | un h3 => cases h3
theorem rvs_keys : ∀ (ks : List Key), RVs c ρ H (ks.map kV) (ks.map keyD)
 | [] => .nil
 | .inl i :: r => .cons (.int i) (rvs_keys r)
 | .inr z :: r => .cons (.str z) (rvs_keys r)
def kOf (H : Hp) : V → List Key
 | .ref a => match H a with
  | some (.tup xs) => xs.filterMap deK
  | _ => []
 | _ => []
theorem kOf_ref {a : Addr} {ks : List Key} (h : H a = some (.tup (ks.map kV))) : kOf H (.ref a) = ks := by
 unfold kOf
 dsimp only
 rw [h]
 dsimp only
 rw [deK_map]
theorem keysTs_inv : ∀ {xs : List D} {us : List V} {kss : List (List Key)}, RVs c ρ H us xs → keysTs xs = some kss → us.map (kOf H) = kss ∧ ∀ u ∈ us, ∃ t, u = V.ref t ∧ H t = some (.tup ((kOf H u).map kV)) ∧ t ∉ ρ
 | [], _, _, .nil, h => by cases h; exact ⟨rfl, fun _ h => nomatch h⟩
 | x :: xs, _, kss, .cons (v := u) (vs := us) r rs, h => by
  cases x with
  | tup ds =>
   unfold keysTs at h
   cases hk : keysOf ds with
   | none => rw [hk] at h; cases h
   | some k => cases hks : keysTs xs with
    | none => rw [hk, hks] at h; cases h
    | some ks =>
     rw [hk, hks] at h; cases h
     obtain ⟨i1, i2⟩ := keysTs_inv rs hks
     cases r with
     | @tup a vs _ ht hv =>
      have e := keysOf_inv hv hk
      rw [e] at ht
      have ek := kOf_ref ht.1
      refine ⟨by rw [List.map_cons, ek, i1], fun u hu => ?_⟩
      rcases List.mem_cons.mp hu with rfl | hu
      ·exact ⟨a, rfl, by rw [ek]; exact ht.1, ht.2⟩
      ·exact i2 u hu
  | _ => unfold keysTs at h; cases h
theorem rvs_tups : ∀ {us : List V}, (∀ u ∈ us, ∃ t, u = V.ref t ∧ H t = some (.tup ((kOf H u).map kV)) ∧ t ∉ ρ) → RVs c ρ H us ((us.map (kOf H)).map tupK)
 | [], _ => .nil
 | u :: us, h => by
  obtain ⟨t, rfl, h1, h2⟩ := h u List.mem_cons_self
  exact .cons (.tup ⟨h1, h2⟩ (rvs_keys _)) (rvs_tups fun x hx => h x (List.mem_cons_of_mem _ hx))
theorem sortK_of {kss : List (List Key)} (h : sortK kss = true) : (∀ x ∈ kss, ∀ y ∈ kss, ksCmp x y = true) ∧ firstSort kss = true := by
 unfold sortK at h
 rw [Bool.and_eq_true] at h
 exact ⟨fun x hx y hy => List.all_eq_true.mp (List.all_eq_true.mp h.1 x hx) y hy, h.2⟩
theorem c_sortTL : CallC c sortTL (rSortK c.K) := fun {W σ ρ st st' H xs as res Q} R rs e F => by
 cases as with
 | nil => cases e
 | cons d r => cases r with
  | cons _ _ => cases e
  | nil =>
   obtain ⟨v, rfl, rv⟩ := rv1 rs
   unfold sortTL at e
   dsimp only at e
   cases hl : lstOf d st with
   | none => rw [hl] at e; cases e
   | some xs =>
    rw [hl] at e
    dsimp only at e
    obtain ⟨a, us, rfl, ha, hu⟩ := lstOf_inv R rv hl
    cases hk : keysTs xs with
    | none => rw [hk] at e; cases e
    | some kss =>
     rw [hk] at e
     dsimp only at e
     by_cases hs : sortK kss = true
     ·rw [if_pos hs] at e; cases e
      obtain ⟨e1, e2⟩ := keysTs_inv hu hk
      obtain ⟨s1, s2⟩ := sortK_of hs
      refine ⟨a, us, kOf H, rfl, ha, fun x hx => ?_, fun x hx y hy => ?_, by rw [e1]; exact s2, fun ys p h1 h2 hp => ?_⟩
      ·obtain ⟨t, h1, h2, _⟩ := e2 x hx; exact ⟨t, h1, h2⟩
      ·exact s1 _ (by rw [← e1]; exact List.mem_map_of_mem hx) _ (by rw [← e1]; exact List.mem_map_of_mem hy)
      ·have e3 : ys.map (kOf H) = srtK kss := sorted_oneK ((h1.map _).trans (by rw [e1]; exact srtK_perm.symm)) (List.pairwise_map.mpr h2) srtK_pw
       have rv2 : RVs c ρ H ys ((srtK kss).map tupK) := by
        rw [← e3]
        exact rvs_tups fun u hu' => e2 u (h1.mem_iff.mp hu')
       obtain ⟨R', T, r⟩ := R.new hp (.lst rv2)
       exact F.ok T R' _ r
     ·rw [if_neg hs] at e; cases e
theorem c_sortTD : CallC c sortTD rSortKT := fun {W σ ρ st st' H xs as res Q} R rs e F => by
 unfold sortTD at e
 split at e
 ·rename_i n
  cases hn : st[n]? with
  | none => rw [hn] at e; cases e
  | some o =>
   rw [hn] at e
   cases o with
   | dT kvs =>
    dsimp only at e
    by_cases hs : sortK (kvs.map (·.1)) = true
    ·rw [if_pos hs] at e; cases e
     obtain ⟨v, rfl, rv⟩ := rv1 rs
     obtain ⟨a, us, rfl, _, ha, hu⟩ := dt_at R rv hn
     obtain ⟨s1, s2⟩ := sortK_of hs
     have ek := hu.keys
     refine ⟨a, us, rfl, .inl ha, fun x hx y hy => s1 _ (by rw [← ek]; exact List.mem_map_of_mem hx) _ (by rw [← ek]; exact List.mem_map_of_mem hy), by rw [ek]; exact s2, fun ys p h0 h1 h2 hp => ?_⟩
     have e3 : ys.map (·.1) = srtK (kvs.map (·.1)) := sorted_oneK (h1.trans (by rw [ek]; exact srtK_perm.symm)) h2 srtK_pw
     have rv2 : RVs c ρ H (ys.map fun y => V.ref y.2) ((srtK (kvs.map (·.1))).map tupK) := by
      rw [← e3]
      clear e3 h1 h2
      induction ys with
      | nil => exact .nil
      | cons y ys ih => exact .cons (.tup ⟨h0 y List.mem_cons_self, R.tupOut (h0 y List.mem_cons_self)⟩ (rvs_keys _)) (ih fun z hz => h0 z (List.mem_cons_of_mem _ hz))
     obtain ⟨R', T, r⟩ := R.new hp (.lst rv2)
     exact F.ok T R' _ r
    ·rw [if_neg hs] at e; cases e
   | _ => cases e
 ·cases e
def intKeys : List (Key × D) → Option (List Int)
 | [] => some []
 | (.inl i, _) :: r => (intKeys r).map (i :: ·)
 | _ => none
theorem intKeys_of : ∀ {vs : List (Key × V)} {ks : List (Key × D)} {ns : List Int}, RKs c ρ H vs ks → intKeys ks = some ns → vs.map (·.1) = ns.map Sum.inl
 | _, _, _, .nil, h => by cases h; rfl
 | _, _, _, .cons (k := k) _ t, h => by
  cases k with
  | inr i => cases h
  | inl s =>
   obtain ⟨l, hl, rfl⟩ := Option.map_eq_some_iff.mp h
   rw [List.map_cons, List.map_cons, intKeys_of t hl]
def rSortDI : List V → Hp → VK → Prop := fun xs H Q => ∃ (a : Addr) (kvs : List (Key × V)) (ks : List Int), xs = [.ref a] ∧ Rd H a (.dK kvs) ∧ kvs.map (·.1) = ks.map Sum.inl ∧ ks.length ≤ sizeLine ∧ ∀ (ys : List Int) (p : Addr), ys.Perm ks → ys.Pairwise (· ≤ ·) → H p = none → Q (.ref p) (upd H p (.lst (ys.map V.int)))
def sortDI : List D → Mo D := fun as st => match as with
 | [d] => match dctOf d st with
  | some ks => match intKeys ks with
   | some ns => if ns.length < 900000 then some (.ok (.ref st.length), st ++ [.lst ((srtI ns).map D.int)]) else none
   | none => none
  | none => none
 | _ => none
theorem c_sortDI : CallC c sortDI rSortDI := fun {W σ ρ st st' H xs as res Q} R rs e F => by
 cases as with
 | nil => cases e
 | cons d r => cases r with
  | cons _ _ => cases e
  | nil =>
   obtain ⟨v, rfl, rv⟩ := rv1 rs
   unfold sortDI at e
   dsimp only at e
   cases hl : dctOf d st with
   | none => rw [hl] at e; cases e
   | some ks =>
    rw [hl] at e
    dsimp only at e
    obtain ⟨a, us, rfl, ha, hu⟩ := dctOf_inv R rv hl
    cases hs : intKeys ks with
    | none => rw [hs] at e; cases e
    | some ns =>
     rw [hs] at e
     dsimp only at e
     by_cases h : ns.length < 900000
     ·rw [if_pos h] at e; cases e
      refine ⟨a, us, ns, rfl, ha, intKeys_of hu hs, by rw [sizeLine_eq]; omega, fun ns' p h1 h2 hp => ?_⟩
      have : ns' = srtI ns := sorted_oneI (h1.trans srtI_perm.symm) h2 srtI_pw
      subst this
      obtain ⟨R', T, r⟩ := R.new hp (.lst (rvs_ints (c := c) (ρ := ρ) (H := H) (srtI ns)))
      exact F.ok T R' _ r
     ·rw [if_neg h] at e; cases e
def sortA : List D → Mo D := altC sortE (altC (altC sortTL sortTD) sortDI)
theorem c_sortA : CallC c sortA (fun xs H Q => ((rSortedI c.K xs H Q ∨ rSortedS c.K xs H Q) ∨ rSortKD xs H Q) ∨ (rSortK c.K xs H Q ∨ rSortKT xs H Q) ∨ rSortDI xs H Q) := CallC.or c_sortE (CallC.or (CallC.or c_sortTL c_sortTD) c_sortDI)
theorem o_sortA {X : Cx} (hc : X.calm = true) (hK : X.K = c.K := by rfl) : CallR X (.builtin "sorted") (fun xs H Q => ((rSortedI c.K xs H Q ∨ rSortedS c.K xs H Q) ∨ rSortKD xs H Q) ∨ (rSortK c.K xs H Q ∨ rSortKT xs H Q) ∨ rSortDI xs H Q) := CallR.or (o_sortE hc hK) (CallR.or (CallR.or (by rw [← hK]; exact cl_sortK) (cl_sortKT hc)) (call_sortedDIX hc))
end
section
variable {c : MC} {X : Cx}
end
end M
namespace G
open PySem PySem.Spec PyProof.Rows L2
mutual
inductive Dq (K : PySem.W.Frag) (H : Hp) : V → PyData → Prop
 | non : Dq K H .non .none
 | bl (b : Bool) : Dq K H (.bl b) (.bool b)
 | int (i : Int) : Dq K H (.int i) (.int i)
 | str (x : Str) : Dq K H (.str x) (.str x)
 | tup {a : Addr} {xs : List V} {ds : List PyData} : SqT K H a xs → DqAll K H xs ds → Dq K H (.ref a) (.tuple ds)
 | dct {a : Addr} {kvs : List (Key × V)} {ps : List (PyData × PyData)} : Rd H a (.dK kvs) → DqAll K H (kvs.map fun p => kV p.1) (ps.map (·.1)) → DqAll K H (kvs.map (·.2)) (ps.map (·.2)) → Dq K H (.ref a) (.dict ps)
inductive DqAll (K : PySem.W.Frag) (H : Hp) : List V → List PyData → Prop
 | nil : DqAll K H [] []
 | cons {v : V} {vs : List V} {d : PyData} {ds : List PyData} : Dq K H v d → DqAll K H vs ds → DqAll K H (v :: vs) (d :: ds)
end
section
variable {X : Cx} {pins : List (Addr × Obj)} {σ : L2.St} {H : Hp} {s : Shared}
theorem kv_keys {P : Program} {w : World} : ∀ {es : List DictEntry} {kvs : List (Key × V)} {vs : List (Key × Value)}, KV kvs vs → Pairs (mixKind P w) es vs → Vals (kvs.map fun p => kV p.1) (es.map (·.key)) ∧ Vals (kvs.map (·.2)) (es.map (·.val)) := by
 intro es kvs vs h p
 induction p generalizing kvs with
 | nil => cases h; exact ⟨.nil, .nil⟩
 | @cons e kv es2 kvs2 h1 h2 _ ih =>
  cases h with
  | @cons p q ps qs r t =>
   obtain ⟨i1, i2⟩ := ih t
   refine ⟨.cons ?_ i1, .cons ?_ i2⟩
   ·show RelV (kV p.1) e.key
    rw [r.1]
    rcases keyIs_shape (show keyIs kv.1 e.key = true from h1) with ⟨i, u, e1, e2⟩ | ⟨x, u, e1, e2⟩
    ·rw [e1, e2]; exact ⟨u, rfl⟩
    ·rw [e1, e2]; exact ⟨u, rfl⟩
   ·show RelV p.2 e.val
    rw [h2]; exact r.2
mutual
theorem Dq.reads (I : Inv X pins σ H s) : ∀ (d : PyData) (v : V) (u : Value), Dq X.K H v d → RelV v u → ∃ as, Reads s.heap u d as ∧ sysModules ∉ as
 | .none, _, _, h, r => by cases h; cases r; exact ⟨_, Reads.none, by simp⟩
 | .bool b, _, _, h, r => by cases h; cases r; exact ⟨_, Reads.bool b, by simp⟩
 | .int i, _, _, h, r => by cases h; obtain ⟨t, rfl⟩ := r; exact ⟨_, Reads.int i t, by simp⟩
 | .str x, _, _, h, r => by cases h; obtain ⟨t, rfl⟩ := r; exact ⟨_, Reads.str x t, by simp⟩
 | .tuple ds, _, _, h, r => by
  cases h with
  | tup hs ha =>
   cases r
   obtain ⟨its, rv, ⟨o, ho, hc, n, hd⟩, _⟩ := I.tuple hs
   obtain ⟨as, hr, hn⟩ := Dq.readsAll I ds _ its ha rv
   exact ⟨_, Reads.tuple ho hc hd hr, hn⟩
 | .list _, _, _, h, _ => by cases h
 | .dict ps, _, _, h, r => by
  cases h with
  | @dct a kvs _ h1 h2 h3 =>
   cases r
   obtain ⟨_, hsm, vs, rv, o, es, ep, ho, hx, hd, _, hp, _⟩ := dk_rd I.hok h1
   obtain ⟨k1, k2⟩ := kv_keys rv hp
   obtain ⟨as, r1, n1⟩ := Dq.readsFst I ps _ _ h2 k1
   obtain ⟨bs, r2, n2⟩ := Dq.readsSnd I ps _ _ h3 k2
   refine ⟨_, Reads.dict ho hx.1 hd r1 r2, fun hm => ?_⟩
   rcases List.mem_cons.mp hm with e | hm
   ·exact beq_eq_false_iff_ne.mp hsm e.symm
   ·exact (List.mem_append.mp hm).elim n1 n2
theorem Dq.readsAll (I : Inv X pins σ H s) : ∀ (ds : List PyData) (vs : List V) (us : List Value), DqAll X.K H vs ds → Vals vs us → ∃ as, ReadsAll s.heap us ds as ∧ sysModules ∉ as
 | [], _, _, h, r => by cases h; cases r; exact ⟨_, ReadsAll.nil, by simp⟩
 | d :: ds, _, _, h, r => by
  cases h with
  | cons h1 h2 =>
   cases r with
   | cons r1 r2 =>
    obtain ⟨as, q1, n1⟩ := Dq.reads I d _ _ h1 r1
    obtain ⟨bs, q2, n2⟩ := Dq.readsAll I ds _ _ h2 r2
    exact ⟨_, ReadsAll.cons q1 q2, fun hm => (List.mem_append.mp hm).elim n1 n2⟩
theorem Dq.readsFst (I : Inv X pins σ H s) : ∀ (ps : List (PyData × PyData)) (vs : List V) (us : List Value), DqAll X.K H vs (ps.map (·.1)) → Vals vs us → ∃ as, ReadsAll s.heap us (ps.map (·.1)) as ∧ sysModules ∉ as
 | [], _, _, h, r => by cases h; cases r; exact ⟨_, ReadsAll.nil, by simp⟩
 | (d, _) :: ds, _, _, h, r => by
  cases h with
  | cons h1 h2 =>
   cases r with
   | cons r1 r2 =>
    obtain ⟨as, q1, n1⟩ := Dq.reads I d _ _ h1 r1
    obtain ⟨bs, q2, n2⟩ := Dq.readsFst I ds _ _ h2 r2
    exact ⟨_, ReadsAll.cons q1 q2, fun hm => (List.mem_append.mp hm).elim n1 n2⟩
theorem Dq.readsSnd (I : Inv X pins σ H s) : ∀ (ps : List (PyData × PyData)) (vs : List V) (us : List Value), DqAll X.K H vs (ps.map (·.2)) → Vals vs us → ∃ as, ReadsAll s.heap us (ps.map (·.2)) as ∧ sysModules ∉ as
 | [], _, _, h, r => by cases h; cases r; exact ⟨_, ReadsAll.nil, by simp⟩
 | (_, d) :: ds, _, _, h, r => by
  cases h with
  | cons h1 h2 =>
   cases r with
   | cons r1 r2 =>
    obtain ⟨as, q1, n1⟩ := Dq.reads I d _ _ h1 r1
    obtain ⟨bs, q2, n2⟩ := Dq.readsSnd I ds _ _ h2 r2
    exact ⟨_, ReadsAll.cons q1 q2, fun hm => (List.mem_append.mp hm).elim n1 n2⟩
end
end
def rReprX (K : PySem.W.Frag) : List V → Hp → VK → Prop := fun xs H Q => ∃ (a : Addr) (d : PyData), xs = [.ref a] ∧ Dq K H (.ref a) d ∧ d.showable = true ∧ d.depth < 60 ∧ d.shown.length ≤ sizeLine ∧ Q (.str d.shown) H
theorem cl_reprX {X : Cx} (K : PySem.W.Frag) (hg : X.A.guards = some []) (hu : X.A.units + 64 < cLine) (hK : X.K = K := by rfl) : CallR X (.builtin "repr") (rReprX K) := by
 subst hK
 intro pins s σ H xs us Q I r ⟨a, d, e, hd, hs, hz, hl, q⟩
 subst e
 obtain ⟨u, rfl, rx⟩ := vals1 r
 obtain rfl : u = Value.ref a := rx
 obtain ⟨as, hr, hn⟩ := Dq.reads I d _ _ hd rfl
 exact repr_of_reads' hr hs (fun _ => hn) hg (by omega) (fun _ _ e => e) (fun h' u tk k => ⟨.str d.shown, H, I.kept k, ⟨u, rfl⟩, q⟩) hl
end G
namespace M
open PySem PySem.Spec PyProof.Rows L2 G
variable {c : MC}
def kP : Key → PyData
 | .inl i => .int i
 | .inr x => .str x
mutual
def toQ : Nat → Sto → D → Option PyData
 | 0, _, _ => none
 | n + 1, st, d => match d with
  | .non => some .none
  | .bl b => some (.bool b)
  | .int i => some (.int i)
  | .str s => some (.str s)
  | .tup xs => (toQs n st xs).map PyData.tuple
  | .kt xs => (toQs n st xs).map PyData.tuple
  | .ref k => match st[k]? with
   | some (.dK kvs) => (toQs n st (kvs.map (·.2))).map fun ps => PyData.dict ((kvs.map fun p => kP p.1).zip ps)
   | _ => none
  | _ => none
def toQs : Nat → Sto → List D → Option (List PyData)
 | 0, _, _ => none
 | _ + 1, _, [] => some []
 | n + 1, st, d :: r => match toQ n st d, toQs n st r with
  | some p, some ps => some (p :: ps)
  | _, _ => none
end
section
variable {W : Wx} {σ : L2.St} {ρ : List Addr} {H : Hp} {st st' : Sto} {X : Cx}
theorem dqAll_len {K : PySem.W.Frag} : ∀ {vs : List V} {ds : List PyData}, DqAll K H vs ds → vs.length = ds.length
 | _, _, .nil => rfl
 | _, _, .cons _ t => by rw [List.length_cons, List.length_cons, dqAll_len t]
theorem dq_keys {K : PySem.W.Frag} : ∀ {ks : List Key}, DqAll K H (ks.map kV) (ks.map kP)
 | [] => .nil
 | .inl i :: ks => .cons (.int i) dq_keys
 | .inr x :: ks => .cons (.str x) dq_keys
theorem zip_fst {α β : Type} : ∀ {l : List α} {m : List β}, l.length = m.length → (l.zip m).map (·.1) = l
 | [], [], _ => rfl
 | a :: l, b :: m, h => by rw [List.zip_cons_cons, List.map_cons, zip_fst (Nat.succ.inj h)]
theorem zip_snd {α β : Type} : ∀ {l : List α} {m : List β}, l.length = m.length → (l.zip m).map (·.2) = m
 | [], [], _ => rfl
 | a :: l, b :: m, h => by rw [List.zip_cons_cons, List.map_cons, zip_snd (Nat.succ.inj h)]
mutual
theorem toQ_dq (R : Rel c ρ st H) : ∀ (n : Nat) {x : V} {d : D} {p : PyData}, RV c ρ H x d → toQ n st d = some p → Dq c.K H x p
 | 0, _, _, _, _, h => by unfold toQ at h; cases h
 | n + 1, x, d, p, r, h => by
  unfold toQ at h
  cases d with
  | non => cases h; cases r; exact .non
  | bl b => cases h; cases r; exact .bl b
  | int i => cases h; cases r; exact .int i
  | str s => cases h; cases r; exact .str s
  | tup xs =>
   dsimp only at h
   obtain ⟨ps, hp, rfl⟩ := Option.map_eq_some_iff.mp h
   obtain ⟨a, us, rfl, ha, hu⟩ := tup_inv r rfl
   exact .tup ha (toQs_dq R n hu hp)
  | kt xs =>
   dsimp only at h
   obtain ⟨ps, hp, rfl⟩ := Option.map_eq_some_iff.mp h
   obtain ⟨a, us, rfl, ha, hu⟩ := tup_inv r rfl
   exact .tup ha (toQs_dq R n hu hp)
  | ref k =>
   dsimp only at h
   cases hk : st[k]? with
   | none => rw [hk] at h; cases h
   | some o => cases o with
    | dK kvs =>
     rw [hk] at h
     obtain ⟨ps, hp, rfl⟩ := Option.map_eq_some_iff.mp h
     obtain ⟨a, us, rfl, _, ha, hu⟩ := dk_at R r hk
     have hv := toQs_dq R n hu.vals hp
     have hl : (kvs.map fun p => kP p.1).length = ps.length := by
      rw [List.length_map, ← dqAll_len hv, List.length_map, hu.length]
     refine .dct (.of ha) ?_ ?_
     ·rw [zip_fst hl]
      have e1 : (us.map fun p => kV p.1) = (kvs.map (·.1)).map kV := by rw [← hu.keys, List.map_map]; rfl
      have e2 : (kvs.map fun p => kP p.1) = (kvs.map (·.1)).map kP := by rw [List.map_map]; rfl
      rw [e1, e2]
      exact dq_keys
     ·rw [zip_snd hl]; exact hv
    | _ => rw [hk] at h; cases h
  | _ => cases h
theorem toQs_dq (R : Rel c ρ st H) : ∀ (n : Nat) {us : List V} {ds : List D} {ps : List PyData}, RVs c ρ H us ds → toQs n st ds = some ps → DqAll c.K H us ps
 | 0, _, _, _, _, h => by unfold toQs at h; cases h
 | n + 1, us, ds, ps, r, h => by
  unfold toQs at h
  cases r with
  | nil => cases h; exact .nil
  | @cons v d vs ds hv ht =>
   dsimp only at h
   cases h1 : toQ n st d with
   | none => rw [h1] at h; cases h
   | some p => cases h2 : toQs n st ds with
    | none => rw [h1, h2] at h; cases h
    | some qs =>
     rw [h1, h2] at h
     cases h
     exact .cons (toQ_dq R n hv h1) (toQs_dq R n ht h2)
end
def reprD : List D → Mo D := fun as st => match as with
 | [.ref n] => match toQ DEEP st (.ref n) with
  | some p => if p.showable = true ∧ p.depth < 60 ∧ p.shown.length ≤ LINE then some (.ok (.str p.shown), st) else none
  | none => none
 | _ => none
theorem c_reprX : CallC c reprD (rReprX c.K) := fun {W σ ρ st st' H xs as res Q} R rs e F => by
 unfold reprD at e
 split at e
 ·rename_i n
  cases hq : toQ DEEP st (.ref n) with
  | none => rw [hq] at e; cases e
  | some p =>
   rw [hq] at e
   dsimp only at e
   by_cases h : p.showable = true ∧ p.depth < 60 ∧ p.shown.length ≤ LINE
   ·rw [if_pos h] at e
    cases e
    cases rs with
    | cons hv ht =>
     cases ht
     have hd := toQ_dq R _ hv hq
     cases hv with
     | ref ha => exact ⟨_, p, rfl, hd, h.1, h.2.1, Nat.le_trans h.2.2 line_le, F.ok .refl R _ (.str _)⟩
   ·rw [if_neg h] at e; cases e
 ·cases e
end
structure FnG (P : Program) (w : World) (K : PySem.W.Frag) (mg : Str → Option Value) (base : Heap) (CX : CXT) (k : Nat) (f : Addr) (fd : FuncData) (ps : List Str) (sp : Sp) : Prop where
 run : ∀ (s : Shared) (H : Hp) (us : List Value) (vs : List V) (Q : VK) (E : XK), Room k callerA → Env0 P w K mg base callerA [] s H → BindsTo s fd ⟨us, []⟩ (ps.zip us) → Vals vs us → sp vs H Q E →
  codeAny (model P w) callerA (.call (.ref f) ⟨us, []⟩) (CR CX [] P w H s Q E) s
section
variable {P : Program} {w : World} {K : PySem.W.Frag} {mg mb : Str → Option Value} {base : Heap} {CX : CXT} {k : Nat} {f : Addr} {fd : FuncData} {ps : List Str} {sp sp' : Sp}
theorem FnG.imp (F : FnG P w K mg base CX k f fd ps sp) (h : ∀ vs H Q E, sp' vs H Q E → sp vs H Q E) : FnG P w K mg base CX k f fd ps sp' :=
 ⟨fun s H us vs Q E hr he hb hv hs => F.run s H us vs Q E hr he hb hv (h _ _ _ _ hs)⟩
theorem fn_mG {x qual : Str} {st : Stmt} {N : List Str} {m : MS} (F : L2.Fun K x qual st f fd) (S : FnScope N ps (defScope st))
  (hbody : ∀ (cdv : Value) (A : Around) (outer : List PySem.Env) (s : Shared) (H : Hp) (E : XK), Room k (A.deeper (envOfC qual (defScope st) s.heap.objs.size f cdv)) → (A.deeper (envOfC qual (defScope st) s.heap.objs.size f cdv)).guards = some [] →
   Takes (cxOf (L2.CX P w) P w K mg base N qual (defScope st) f cdv A outer s H E) (WD E) → PSs (cxOf (L2.CX P w) P w K mg base N qual (defScope st) f cdv A outer s H E) (defBody st) (tS c (WD E) m)) :
  FnG P w K mg base (L2.CX P w) (k + 1) f fd ps (spM c ps.length (runF N.length ps.length m)) := by
 obtain ⟨oc, od, kV, doc, pm, an, cdv, ct, osl, rfl, lk, hcd⟩ := F.ex
 refine ⟨fun s H us vs Q E hr e0 hb rv hs => ?_⟩
 obtain ⟨ρ, st0, ds, r, st', R, h1, h2, e, G⟩ := hs
 have hl : vs.length = ps.length := h1.length.trans h2
 have all : ∀ {b : Addr} {o : Obj}, base.get? b = some o → s.heap.get? b = some o := fun e => (e0.bs _ _ e).1
 have ht := hbody cdv callerA [] s H E (hr.deeper _) rfl (takes_of rfl rfl rfl rfl)
 have lk' := e0.mod.kin.keeps (fun b o e => all e) _ _ lk
 refine codeAny_call_function hr.depth lk' rfl S.co S.gen rfl (PySem.W.codeRec_of (e0.mod.kin.keeps fun b o e => all e) hcd) (hb _ _ _ _ ?_)
 refine wpAny_newFunctionEnv_cells S.kind (fun y hy => ?_) fun env he s1 x => ?_
 ·rcases S.par y.1 (List.of_mem_zip (show (y.1, y.2) ∈ ps.zip us from hy)).1 with q | q
  ·exact .inl q
  ·exact .inr ⟨q, PySem.W.cellsFrom_some _ _ _ (.inl q)⟩
 subst he
 refine ⟨(e0.mod.nolimit.keeps fun b o e => all e).keeps x.toInCall.keep, codeAny_func ?_⟩
 unfold runF at e
 rw [if_pos h2] at e
 cases hm : m (ds.map some ++ List.replicate (N.length - ps.length) none) st0 with
 | none => rw [hm] at e; cases e
 | some p =>
  obtain ⟨o, env', s2⟩ := p
  rw [hm] at e
  have q : tS c (WD E) m { nx := fun _ H' => Q .non H', rt := Q } (L2.start N vs) H := by
   refine ⟨ρ, st0, _, o, env', s2, R, (by have h9 := REnv.start (N := N) h1; rw [h2] at h9; exact h9), hm, fun ρ' H' σ' T R' E' => ?_⟩
   cases o with
   | nx => cases e; exact G σ' ρ' H' T R' _ .non
   | rt d => cases e; exact G σ' ρ' H' T R'
   | er x => cases e; exact G σ' ρ' H' T R'
   | bk => cases e
   | ct => cases e
  refine wpAny_mono (ht.run [] s1 (L2.start N vs) H _ (inv_start S hr.hd e0 hl rv x) q) (fun fl s' hs => ?_) fun e s' hs => hs
  cases fl with
  | ret u => obtain ⟨v, σ', H', J, r1, q⟩ := hs; exact ⟨v, H', J.os, J.bare, J.base, J.hok, r1, q⟩
  | next => obtain ⟨σ', H', J, q⟩ := hs; exact ⟨.non, H', J.os, J.bare, J.base, J.hok, rfl, q⟩
  | brk => obtain ⟨_, _, _, q⟩ := hs; exact q.elim
  | cont => obtain ⟨_, _, _, q⟩ := hs; exact q.elim
theorem hu_64 {k : Nat} {A : Around} (h : Room k A) : A.units + 64 < cLine := by have := h.un; omega
end
end M
namespace M
open PySem PySem.Spec PyProof.Rows L2 G
def topS (i : Nat) : Stmt := PySem.Challenge.pw_farasked_k23_plainly_done.main.body.getD i (.Pass ⟨0, 0, 0, 0⟩)
def FN : List Str := (["row", "rest", "rows", "at", "below", "behind", "pieces", "closed", "wide", "taken", "kept", "end", "heeds_boots", "heeds_floors", "met", "things", "home", "steps", "worth", "place", "plan", "left", "stores", "given", "pile", "last", "number", "to", "service", "deadline"] : List Str) ++ (["by_step", "giver", "taker", "said", "stopping", "of", "life", "until", "state", "by_stop", "child", "name", "services", "others", "own_clock", "window", "rules", "holding", "asked", "calls", "made", "lead", "begun_at", "homes", "frames_of", "joined", "seen", "noted", "done_deeds", "tellings"] : List Str) ++ (["ticks", "begun_runs", "ended_runs", "under_way", "is_broken", "is_gone", "endings", "papers", "refused", "maker", "has_ending", "clocks", "ticks_ahead", "lives", "begun", "straight", "work", "base", "lines"] : List Str)
abbrev s_PlainTask__init : Stmt := (inClass (topS 4) 0)
theorem sc_PlainTask__init : FnScope ["self", "home", "steps", "worth", "pieces"] ["self", "home", "steps", "worth", "pieces"] (defScope s_PlainTask__init) := ⟨rfl, rfl, rfl, by decide +kernel, rfl, by decide +kernel, by decide +kernel⟩
def b_PlainTask__init : MS := seqS (fldS [18] 16 (var 0) (var 1))
  (seqS (fldS [18] 17 (var 0) (var 2))
  (seqS (fldS [18] 18 (var 0) (var 3))
  (seqS (fldS [18, 19] 6 (var 0) (opN listE (aCons (var 4) (aNil))))
  (fldS [18] 19 (var 0) (cst (.int 0))))))
def m_PlainTask__init : List D → Mo D := runF 5 5 b_PlainTask__init
theorem ok_PlainTask__init {c : MC} {P : Program} {w : World} {mg : Str → Option Value} {base : Heap} {f : Addr} {fd : FuncData} (n_PlainTask_home : FldOk c 18 16) (hnm : c.nm = nmOf FN) (n_PlainTask_steps : FldOk c 18 17) (n_PlainTask_worth : FldOk c 18 18) (z_list : mg "list" = none) (n_PlainTask_pieces : FldOk c 18 6) (n_PlainRun_pieces : FldOk c 19 6) (n_PlainTask_place : FldOk c 18 19) (hw : c.w = w) (F : L2.Fun c.K "__init__" "PlainTask.__init__" s_PlainTask__init f fd) : FnOk P w c.K mg base (L2.CX P w) 1 f fd ["self", "home", "steps", "worth", "pieces"] (spM c 5 m_PlainTask__init) := by
 subst hw
 exact fn_m F sc_PlainTask__init fun cdv A outer s H E hr tk => ss_cons (s_fld (cs := [18]) (f := 16) (List.forall_mem_cons.mpr ⟨n_PlainTask_home, (List.forall_mem_nil _)⟩) (nm_at hnm rfl) (m_var (pv 0)) (m_var (pv 1)))
  (ss_cons (s_fld (cs := [18]) (f := 17) (List.forall_mem_cons.mpr ⟨n_PlainTask_steps, (List.forall_mem_nil _)⟩) (nm_at hnm rfl) (m_var (pv 0)) (m_var (pv 2)))
  (ss_cons (s_fld (cs := [18]) (f := 18) (List.forall_mem_cons.mpr ⟨n_PlainTask_worth, (List.forall_mem_nil _)⟩) (nm_at hnm rfl) (m_var (pv 0)) (m_var (pv 3)))
  (ss_cons (s_fld (cs := [18, 19]) (f := 6) (List.forall_mem_cons.mpr ⟨n_PlainTask_pieces, (List.forall_mem_cons.mpr ⟨n_PlainRun_pieces, (List.forall_mem_nil _)⟩)⟩) (nm_at hnm rfl) (m_var (pv 0)) (m_callTy (o_listE rfl) c_listE (by rfl) z_list (by decide +kernel) (a_cons (m_var (pv 4)) (a_nil))))
  (ss_one (s_fld (cs := [18]) (f := 19) (List.forall_mem_cons.mpr ⟨n_PlainTask_place, (List.forall_mem_nil _)⟩) (nm_at hnm rfl) (m_var (pv 0)) (m_int))))))
abbrev s_PlainTask_is_through : Stmt := (inClass (topS 4) 1)
theorem sc_PlainTask_is_through : FnScope ["self"] ["self"] (defScope s_PlainTask_is_through) := ⟨rfl, rfl, rfl, by decide +kernel, rfl, by decide +kernel, by decide +kernel⟩
def b_PlainTask_is_through : MS := retS (op2 eqE (op1 (fldD [18] 19) (var 0)) (opN lenD (aCons (op1 (fldD [18] 17) (var 0)) (aNil))))
def m_PlainTask_is_through : List D → Mo D := runF 1 1 b_PlainTask_is_through
theorem ok_PlainTask_is_through {c : MC} {P : Program} {w : World} {mg : Str → Option Value} {base : Heap} {f : Addr} {fd : FuncData} (n_PlainTask_place : FldOk c 18 19) (hnm : c.nm = nmOf FN) (n_PlainTask_steps : FldOk c 18 17) (z_len : mg "len" = none) (hw : c.w = w) (F : L2.Fun c.K "is_through" "PlainTask.is_through" s_PlainTask_is_through f fd) : FnOk P w c.K mg base (L2.CX P w) 1 f fd ["self"] (spM c 1 m_PlainTask_is_through) := by
 subst hw
 exact fn_m F sc_PlainTask_is_through fun cdv A outer s H E hr tk => ss_one (s_ret (m_cmp (o_eqE (hu_65 hr)) c_eqE (nomark _) (m_fld (cs := [18]) (f := 19) (List.forall_mem_cons.mpr ⟨n_PlainTask_place, (List.forall_mem_nil _)⟩) (nm_at hnm rfl) (m_var (pv 0))) (m_callB o_len c_len (by rfl) z_len (by decide +kernel) (a_cons (m_fld (cs := [18]) (f := 17) (List.forall_mem_cons.mpr ⟨n_PlainTask_steps, (List.forall_mem_nil _)⟩) (nm_at hnm rfl) (m_var (pv 0))) (a_nil)))))
abbrev s_PlainRun__init : Stmt := (inClass (topS 5) 0)
theorem sc_PlainRun__init : FnScope ["self", "plan", "pieces", "most", "name"] ["self", "plan", "pieces", "most"] (defScope s_PlainRun__init) := ⟨rfl, rfl, rfl, by decide +kernel, rfl, by decide +kernel, by decide +kernel⟩
def b_PlainRun__init : MS := seqS (fldS [19] 20 (var 0) (var 1))
  (seqS (fldS [18, 19] 6 (var 0) (var 2))
  (seqS (fldS [19] 21 (var 0) (var 3))
  (seqS (fldS [19] 22 (var 0) (lkE (var 1) (dcE (keysM (var 1)) (gVar 4) (yesT) (var 4) (newK) [4])))
  (seqS (fldS [19] 23 (var 0) (opN lstD (aNil)))
  (seqS (fldS [19] 24 (var 0) (opN lstD (aNil)))
  (fldS [19] 25 (var 0) (cst .non)))))))
def m_PlainRun__init : List D → Mo D := runF 5 4 b_PlainRun__init
theorem ok_PlainRun__init {c : MC} {P : Program} {w : World} {mg : Str → Option Value} {base : Heap} {f : Addr} {fd : FuncData} (n_PlainRun_plan : FldOk c 19 20) (hnm : c.nm = nmOf FN) (n_PlainTask_pieces : FldOk c 18 6) (n_PlainRun_pieces : FldOk c 19 6) (n_PlainRun_left : FldOk c 19 21) (n_PlainRun_stores : FldOk c 19 22) (n_PlainRun_given : FldOk c 19 23) (n_PlainRun_pile : FldOk c 19 24) (n_PlainRun_last : FldOk c 19 25) (hw : c.w = w) (F : L2.Fun c.K "__init__" "PlainRun.__init__" s_PlainRun__init f fd) : FnOk P w c.K mg base (L2.CX P w) 1 f fd ["self", "plan", "pieces", "most"] (spM c 4 m_PlainRun__init) := by
 subst hw
 exact fn_m F sc_PlainRun__init fun cdv A outer s H E hr tk => ss_cons (s_fld (cs := [19]) (f := 20) (List.forall_mem_cons.mpr ⟨n_PlainRun_plan, (List.forall_mem_nil _)⟩) (nm_at hnm rfl) (m_var (pv 0)) (m_var (pv 1)))
  (ss_cons (s_fld (cs := [18, 19]) (f := 6) (List.forall_mem_cons.mpr ⟨n_PlainTask_pieces, (List.forall_mem_cons.mpr ⟨n_PlainRun_pieces, (List.forall_mem_nil _)⟩)⟩) (nm_at hnm rfl) (m_var (pv 0)) (m_var (pv 2)))
  (ss_cons (s_fld (cs := [19]) (f := 21) (List.forall_mem_cons.mpr ⟨n_PlainRun_left, (List.forall_mem_nil _)⟩) (nm_at hnm rfl) (m_var (pv 0)) (m_var (pv 3)))
  (ss_cons (s_fld (cs := [19]) (f := 22) (List.forall_mem_cons.mpr ⟨n_PlainRun_stores, (List.forall_mem_nil _)⟩) (nm_at hnm rfl) (m_var (pv 0)) (m_lk (m := var 1) (m_dc (own := [("name", 4)]) (g := gVar 4) (ws := [4]) rfl sc_PlainRun__init.nd (i_keys (m_var (pv 1))) (blkOk_by (N := ["self", "plan", "pieces", "most", "name"]) (sc := defScope s_PlainRun__init) (by decide +kernel)) (by decide) (fun _ _ _ _ _ => g_var (i := 4) sc_PlainRun__init.nd rfl (.inl rfl)) (fun _ _ _ _ _ => q_nil) (fun _ _ _ _ _ => m_var (pv 4)) (fun _ _ _ _ _ => m_newK))))
  (ss_cons (s_fld (cs := [19]) (f := 23) (List.forall_mem_cons.mpr ⟨n_PlainRun_given, (List.forall_mem_nil _)⟩) (nm_at hnm rfl) (m_var (pv 0)) (m_lst c_lst (a_nil)))
  (ss_cons (s_fld (cs := [19]) (f := 24) (List.forall_mem_cons.mpr ⟨n_PlainRun_pile, (List.forall_mem_nil _)⟩) (nm_at hnm rfl) (m_var (pv 0)) (m_lst c_lst (a_nil)))
  (ss_one (s_fld (cs := [19]) (f := 25) (List.forall_mem_cons.mpr ⟨n_PlainRun_last, (List.forall_mem_nil _)⟩) (nm_at hnm rfl) (m_var (pv 0)) (m_non))))))))
abbrev s_PlainRun_begin : Stmt := (inClass (topS 5) 1)
theorem sc_PlainRun_begin : FnScope ["self", "home", "service", "worth", "pieces"] ["self", "home", "service", "worth"] (defScope s_PlainRun_begin) := ⟨rfl, rfl, rfl, by decide +kernel, rfl, by decide +kernel, by decide +kernel⟩
def b_PlainRun_begin : MS := seqS (ifS (tru (op2 niD (var 2) (op2 ixD (op1 (fldD [19] 20) (var 0)) (var 1))))
  (seqS (fldS [19] 25 (var 0) (opN tupD (aCons (cst (.str "never")) (aCons (cst (.int 0)) (aNil)))))
  (retN))
  (passS))
  (seqS (setS 4 (ifE (tru (op2 eqE (op1 (fldD [19] 24) (var 0)) (opN lstD (aNil)))) (op1 (fldD [18, 19] 6) (var 0)) (opN tupD (aNil))))
  (exprS (mth "list" (lstMt appF) (op1 (fldD [19] 24) (var 0)) (aCons (mkB 18 (gK []) m_PlainTask__init (aCons (var 1) (aCons (op2 ixD (op2 ixD (op1 (fldD [19] 20) (var 0)) (var 1)) (var 2)) (aCons (var 3) (aCons (var 4) (aNil))))) (aNil)) (aNil)))))
def m_PlainRun_begin : List D → Mo D := runF 5 4 b_PlainRun_begin
theorem ok_PlainRun_begin {c : MC} {P : Program} {w : World} {mg : Str → Option Value} {base : Heap} {f : Addr} {fd : FuncData} (n_PlainRun_plan : FldOk c 19 20) (hnm : c.nm = nmOf FN) (n_PlainRun_last : FldOk c 19 25) (n_PlainRun_pile : FldOk c 19 24) (n_PlainTask_pieces : FldOk c 18 6) (n_PlainRun_pieces : FldOk c 19 6) (q_PlainTask__init_4 : MakB c P w c.K mg base 1 "PlainTask" 18 5 [] (gK []) m_PlainTask__init) (hw : c.w = w) (F : L2.Fun c.K "begin" "PlainRun.begin" s_PlainRun_begin f fd) : FnOk P w c.K mg base (L2.CX P w) 3 f fd ["self", "home", "service", "worth"] (spM c 4 m_PlainRun_begin) := by
 subst hw
 exact fn_m F sc_PlainRun_begin fun cdv A outer s H E hr tk => ss_cons (s_if (t_cmp (o_ni (hu_65 hr)) c_ni rfl (m_var (pv 2)) (m_ix (o_ix (hu_65 hr)) c_ix (m_fld (cs := [19]) (f := 20) (List.forall_mem_cons.mpr ⟨n_PlainRun_plan, (List.forall_mem_nil _)⟩) (nm_at hnm rfl) (m_var (pv 0))) (m_var (pv 1)) (fun _ _ => rfl)))
  (ss_cons (s_fld (cs := [19]) (f := 25) (List.forall_mem_cons.mpr ⟨n_PlainRun_last, (List.forall_mem_nil _)⟩) (nm_at hnm rfl) (m_var (pv 0)) (m_tup c_tup (a_cons (m_str) (a_cons (m_int) (a_nil)))))
  (ss_one (s_retN)))
  (ss_nil))
  (ss_cons (s_set (i := 4) sc_PlainRun_begin.nd rfl (.inl rfl) (m_if (t_cmp (o_eqE (hu_65 hr)) c_eqE (nomark _) (m_fld (cs := [19]) (f := 24) (List.forall_mem_cons.mpr ⟨n_PlainRun_pile, (List.forall_mem_nil _)⟩) (nm_at hnm rfl) (m_var (pv 0))) (m_lst c_lst (a_nil))) (m_fld (cs := [18, 19]) (f := 6) (List.forall_mem_cons.mpr ⟨n_PlainTask_pieces, (List.forall_mem_cons.mpr ⟨n_PlainRun_pieces, (List.forall_mem_nil _)⟩)⟩) (nm_at hnm rfl) (m_var (pv 0))) (m_tup c_tup (a_nil))))
  (ss_one (s_expr (m_mth PySem.F.plainAttrs_list PySem.F.slot_list_append PySem.F.type_list_append mt_append c_append (m_fld (cs := [19]) (f := 24) (List.forall_mem_cons.mpr ⟨n_PlainRun_pile, (List.forall_mem_nil _)⟩) (nm_at hnm rfl) (m_var (pv 0))) (a_cons (m_n q_PlainTask__init_4 tk hr (by decide) (by rfl) (a_cons (m_var (pv 1)) (a_cons (m_ix (o_ix (hu_65 hr)) c_ix (m_ix (o_ix (hu_65 hr)) c_ix (m_fld (cs := [19]) (f := 20) (List.forall_mem_cons.mpr ⟨n_PlainRun_plan, (List.forall_mem_nil _)⟩) (nm_at hnm rfl) (m_var (pv 0))) (m_var (pv 1)) (fun _ _ => rfl)) (m_var (pv 2)) (fun _ _ => rfl)) (a_cons (m_var (pv 3)) (a_cons (m_var (pv 4)) (a_nil))))) (la_cons (la_cons (la_cons (la_cons (la_nil)))))) (a_nil))))))
abbrev s_PlainRun_finish_top : Stmt := (inClass (topS 5) 2)
theorem sc_PlainRun_finish_top : FnScope ["self", "word", "worth"] ["self", "word", "worth"] (defScope s_PlainRun_finish_top) := ⟨rfl, rfl, rfl, by decide +kernel, rfl, by decide +kernel, by decide +kernel⟩
def b_PlainRun_finish_top : MS := seqS (exprS (mth "list" (lstMt popF) (op1 (fldD [19] 24) (var 0)) (aNil)))
  (fldS [19] 25 (var 0) (opN tupD (aCons (var 1) (aCons (var 2) (aNil)))))
def m_PlainRun_finish_top : List D → Mo D := runF 3 3 b_PlainRun_finish_top
theorem ok_PlainRun_finish_top {c : MC} {P : Program} {w : World} {mg : Str → Option Value} {base : Heap} {f : Addr} {fd : FuncData} (n_PlainRun_pile : FldOk c 19 24) (hnm : c.nm = nmOf FN) (n_PlainRun_last : FldOk c 19 25) (hw : c.w = w) (F : L2.Fun c.K "finish_top" "PlainRun.finish_top" s_PlainRun_finish_top f fd) : FnOk P w c.K mg base (L2.CX P w) 1 f fd ["self", "word", "worth"] (spM c 3 m_PlainRun_finish_top) := by
 subst hw
 exact fn_m F sc_PlainRun_finish_top fun cdv A outer s H E hr tk => ss_cons (s_expr (m_mth0 PySem.F.plainAttrs_list PySem.F.slot_list_pop PySem.F.type_list_pop mt_pop c_pop (m_fld (cs := [19]) (f := 24) (List.forall_mem_cons.mpr ⟨n_PlainRun_pile, (List.forall_mem_nil _)⟩) (nm_at hnm rfl) (m_var (pv 0)))))
  (ss_one (s_fld (cs := [19]) (f := 25) (List.forall_mem_cons.mpr ⟨n_PlainRun_last, (List.forall_mem_nil _)⟩) (nm_at hnm rfl) (m_var (pv 0)) (m_tup c_tup (a_cons (m_var (pv 1)) (a_cons (m_var (pv 2)) (a_nil))))))
abbrev s_PlainRun_come_back : Stmt := (inClass (topS 5) 3)
theorem sc_PlainRun_come_back : FnScope ["self", "task", "word", "worth"] ["self", "task"] (defScope s_PlainRun_come_back) := ⟨rfl, rfl, rfl, by decide +kernel, rfl, by decide +kernel, by decide +kernel⟩
def b_PlainRun_come_back : MS := seqS (asgS (op1 (fldD [19] 25) (var 0)) (gTupM 2 (gsCons (gVar 2) (gsCons (gVar 3) (gsNil)))))
  (seqS (fldS [19] 25 (var 0) (cst .non))
  (seqS (ifS (tru (op2 neE (var 2) (cst (.str "done"))))
  (seqS (exprS (methB 19 (inF [20, 6, 21, 22, 23, 24, 25]) (gK []) m_PlainRun_finish_top (var 0) (aCons (cst (.str "stopped")) (aCons (cst (.int 0)) (aNil))) (aNil)))
  (retN))
  (passS))
  (seqS (fldS [18] 18 (var 1) (var 3))
  (fldAug [18] 19 iaddA (var 1) (cst (.int 1))))))
def m_PlainRun_come_back : List D → Mo D := runF 4 2 b_PlainRun_come_back
theorem ok_PlainRun_come_back {c : MC} {P : Program} {w : World} {mg : Str → Option Value} {base : Heap} {f : Addr} {fd : FuncData} (n_PlainRun_last : FldOk c 19 25) (hnm : c.nm = nmOf FN) (q_PlainRun_finish_top_2 : MetB c P w c.K mg base 1 19 "finish_top" 3 [] (gK []) m_PlainRun_finish_top) (n_PlainTask_worth : FldOk c 18 18) (n_PlainTask_place : FldOk c 18 19) (hw : c.w = w) (F : L2.Fun c.K "come_back" "PlainRun.come_back" s_PlainRun_come_back f fd) : FnOk P w c.K mg base (L2.CX P w) 2 f fd ["self", "task"] (spM c 2 m_PlainRun_come_back) := by
 subst hw
 exact fn_m F sc_PlainRun_come_back fun cdv A outer s H E hr tk => ss_cons (s_asg (m_fld (cs := [19]) (f := 25) (List.forall_mem_cons.mpr ⟨n_PlainRun_last, (List.forall_mem_nil _)⟩) (nm_at hnm rfl) (m_var (pv 0))) (g_tup rfl (gs_cons (g_var (i := 2) sc_PlainRun_come_back.nd rfl (.inl rfl)) (gs_cons (g_var (i := 3) sc_PlainRun_come_back.nd rfl (.inl rfl)) (gs_nil)))))
  (ss_cons (s_fld (cs := [19]) (f := 25) (List.forall_mem_cons.mpr ⟨n_PlainRun_last, (List.forall_mem_nil _)⟩) (nm_at hnm rfl) (m_var (pv 0)) (m_non))
  (ss_cons (s_if (t_cmp (o_neE (hu_65 hr)) c_neE (nomark _) (m_var (pv 2)) (m_str))
  (ss_cons (s_expr (m_m q_PlainRun_finish_top_2 tk hr (by decide) (nm_ne hnm (by decide +kernel)) (m_var (pv 0)) (a_cons (m_str) (a_cons (m_int) (a_nil))) (la_cons (la_cons (la_nil)))))
  (ss_one (s_retN)))
  (ss_nil))
  (ss_cons (s_fld (cs := [18]) (f := 18) (List.forall_mem_cons.mpr ⟨n_PlainTask_worth, (List.forall_mem_nil _)⟩) (nm_at hnm rfl) (m_var (pv 1)) (m_var (pv 3)))
  (ss_one (s_fldAug (cs := [18]) (f := 19) (List.forall_mem_cons.mpr ⟨n_PlainTask_place, (List.forall_mem_nil _)⟩) (nm_at hnm rfl) (ip_addA c.K) c_iaddA (m_var (pv 1)) (m_int))))))
abbrev s_PlainRun_do_step : Stmt := (inClass (topS 5) 4)
theorem sc_PlainRun_do_step : FnScope ["self", "task", "step", "kind", "rest", "store", "first", "more"] ["self", "task", "step"] (defScope s_PlainRun_do_step) := ⟨rfl, rfl, rfl, by decide +kernel, rfl, by decide +kernel, by decide +kernel⟩
def b_PlainRun_do_step : MS := seqS (asgS (var 2) (gStarM 2 1 (gsCons (gVar 3) (gsCons (gVar 4) (gsNil)))))
  (seqS (setS 5 (op2 ixD (op1 (fldD [19] 22) (var 0)) (op1 (fldD [18] 16) (var 1))))
  (seqS (ifS (tru (op2 eqE (var 3) (cst (.str "add"))))
  (asgS (op2 addD (getE2 (var 5) (op2 ixD (var 4) (cst (.int 0))) (cst (.int 0))) (op2 ixD (var 4) (cst (.int 1)))) (gSubM (var 5) (op2 ixD (var 4) (cst (.int 0)))))
  (passS))
  (seqS (ifS (tru (op2 eqE (var 3) (cst (.str "put"))))
  (asgS (op1 (fldD [18] 18) (var 1)) (gSubM (var 5) (op2 ixD (var 4) (cst (.int 0)))))
  (passS))
  (seqS (ifS (tru (op2 eqE (var 3) (cst (.str "load"))))
  (fldS [18] 18 (var 1) (getE2 (var 5) (op2 ixD (var 4) (cst (.int 0))) (cst (.int 0))))
  (passS))
  (seqS (ifS (tru (op2 eqE (var 3) (cst (.str "plus"))))
  (fldAug [18] 18 iaddA (var 1) (op2 ixD (var 4) (cst (.int 0))))
  (passS))
  (seqS (ifS (tru (op2 eqE (var 3) (cst (.str "take"))))
  (seqS (asgS (op2 addD (op1 (fldD [18, 19] 6) (var 1)) (op2 mulE (opN lstD (aCons (cst (.int 0)) (aNil))) (opN intD (aCons (op2 eqE (op1 (fldD [18, 19] 6) (var 1)) (opN lstD (aNil))) (aNil))))) (gStarM 2 1 (gsCons (gVar 6) (gsCons (gVar 7) (gsNil)))))
  (asgS (opN tupD (aCons (var 6) (aCons (var 7) (aNil)))) (gTupM 2 (gsCons (gFldM [18] 18 (var 1)) (gsCons (gFldM [18, 19] 6 (var 1)) (gsNil))))))
  (passS))
  (seqS (ifS (andT (tru (op2 eqE (var 3) (cst (.str "give")))) (tru (op2 eqE (opN lenD (aCons (op1 (fldD [19] 24) (var 0)) (aNil))) (cst (.int 1)))))
  (exprS (mth "list" (lstMt appF) (op1 (fldD [19] 23) (var 0)) (aCons (op1 (fldD [18] 18) (var 1)) (aNil))))
  (passS))
  (seqS (fldAug [18] 19 iaddA (var 1) (cst (.int 1)))
  (seqS (ifS (andT (tru (op2 eqE (var 3) (cst (.str "more")))) (tru (op2 neE (op1 (fldD [18, 19] 6) (var 1)) (opN lstD (aNil)))))
  (fldS [18] 19 (var 1) (op2 ixD (var 4) (cst (.int 0))))
  (passS))
  (ifS (tru (op2 eqE (var 3) (cst (.str "done"))))
  (fldS [18] 19 (var 1) (opN lenD (aCons (op1 (fldD [18] 17) (var 1)) (aNil))))
  (passS)))))))))))
def m_PlainRun_do_step : List D → Mo D := runF 8 3 b_PlainRun_do_step
theorem ok_PlainRun_do_step {c : MC} {P : Program} {w : World} {mg : Str → Option Value} {base : Heap} {f : Addr} {fd : FuncData} (n_PlainRun_stores : FldOk c 19 22) (hnm : c.nm = nmOf FN) (n_PlainTask_home : FldOk c 18 16) (n_PlainTask_worth : FldOk c 18 18) (n_PlainTask_pieces : FldOk c 18 6) (n_PlainRun_pieces : FldOk c 19 6) (z_STAT : StatK c.K) (z_int : mg "int" = none) (n_PlainRun_pile : FldOk c 19 24) (z_len : mg "len" = none) (n_PlainRun_given : FldOk c 19 23) (n_PlainTask_place : FldOk c 18 19) (n_PlainTask_steps : FldOk c 18 17) (hw : c.w = w) (F : L2.Fun c.K "do_step" "PlainRun.do_step" s_PlainRun_do_step f fd) : FnOk P w c.K mg base (L2.CX P w) 1 f fd ["self", "task", "step"] (spM c 3 m_PlainRun_do_step) := by
 subst hw
 exact fn_m F sc_PlainRun_do_step fun cdv A outer s H E hr tk => ss_cons (s_asg (m_var (pv 2)) (g_starL (n := 2) (i := 1) rfl (gs_cons (g_var (i := 3) sc_PlainRun_do_step.nd rfl (.inl rfl)) (gs_starC (g_var (i := 4) sc_PlainRun_do_step.nd rfl (.inl rfl)) (gs_nil)))))
  (ss_cons (s_set (i := 5) sc_PlainRun_do_step.nd rfl (.inl rfl) (m_ix (o_ix (hu_65 hr)) c_ix (m_fld (cs := [19]) (f := 22) (List.forall_mem_cons.mpr ⟨n_PlainRun_stores, (List.forall_mem_nil _)⟩) (nm_at hnm rfl) (m_var (pv 0))) (m_fld (cs := [18]) (f := 16) (List.forall_mem_cons.mpr ⟨n_PlainTask_home, (List.forall_mem_nil _)⟩) (nm_at hnm rfl) (m_var (pv 1))) (fun _ _ => rfl)))
  (ss_cons (s_if (t_cmp (o_eqE (hu_65 hr)) c_eqE (nomark _) (m_var (pv 3)) (m_str))
  (ss_one (s_asg (m_op o_add c_add (m_get2 (hu_1 hr) (m_var (pv 5)) (m_ix (o_ix (hu_65 hr)) c_ix (m_var (pv 4)) (m_int) (fun _ _ => rfl)) (m_int) ⟨rfl, rfl, rfl, rfl⟩) (m_ix (o_ix (hu_65 hr)) c_ix (m_var (pv 4)) (m_int) (fun _ _ => rfl))) (g_sub (W1 := W0) (W2 := W0) (hu_1 hr) (m_var (pv 5)) (m_ix (o_ix (hu_65 hr)) c_ix (m_var (pv 4)) (m_int) (fun _ _ => rfl)))))
  (ss_nil))
  (ss_cons (s_if (t_cmp (o_eqE (hu_65 hr)) c_eqE (nomark _) (m_var (pv 3)) (m_str))
  (ss_one (s_asg (m_fld (cs := [18]) (f := 18) (List.forall_mem_cons.mpr ⟨n_PlainTask_worth, (List.forall_mem_nil _)⟩) (nm_at hnm rfl) (m_var (pv 1))) (g_sub (W1 := W0) (W2 := W0) (hu_1 hr) (m_var (pv 5)) (m_ix (o_ix (hu_65 hr)) c_ix (m_var (pv 4)) (m_int) (fun _ _ => rfl)))))
  (ss_nil))
  (ss_cons (s_if (t_cmp (o_eqE (hu_65 hr)) c_eqE (nomark _) (m_var (pv 3)) (m_str))
  (ss_one (s_fld (cs := [18]) (f := 18) (List.forall_mem_cons.mpr ⟨n_PlainTask_worth, (List.forall_mem_nil _)⟩) (nm_at hnm rfl) (m_var (pv 1)) (m_get2 (hu_1 hr) (m_var (pv 5)) (m_ix (o_ix (hu_65 hr)) c_ix (m_var (pv 4)) (m_int) (fun _ _ => rfl)) (m_int) ⟨rfl, rfl, rfl, rfl⟩)))
  (ss_nil))
  (ss_cons (s_if (t_cmp (o_eqE (hu_65 hr)) c_eqE (nomark _) (m_var (pv 3)) (m_str))
  (ss_one (s_fldAug (cs := [18]) (f := 18) (List.forall_mem_cons.mpr ⟨n_PlainTask_worth, (List.forall_mem_nil _)⟩) (nm_at hnm rfl) (ip_addA c.K) c_iaddA (m_var (pv 1)) (m_ix (o_ix (hu_65 hr)) c_ix (m_var (pv 4)) (m_int) (fun _ _ => rfl))))
  (ss_nil))
  (ss_cons (s_if (t_cmp (o_eqE (hu_65 hr)) c_eqE (nomark _) (m_var (pv 3)) (m_str))
  (ss_cons (s_asg (m_op o_add c_add (m_fld (cs := [18, 19]) (f := 6) (List.forall_mem_cons.mpr ⟨n_PlainTask_pieces, (List.forall_mem_cons.mpr ⟨n_PlainRun_pieces, (List.forall_mem_nil _)⟩)⟩) (nm_at hnm rfl) (m_var (pv 1))) (m_op o_mulE c_mulE (m_lst c_lst (a_cons (m_int) (a_nil))) (m_callTy (o_int z_STAT) c_int (by rfl) z_int (by decide +kernel) (a_cons (m_cmp (o_eqE (hu_65 hr)) c_eqE (nomark _) (m_fld (cs := [18, 19]) (f := 6) (List.forall_mem_cons.mpr ⟨n_PlainTask_pieces, (List.forall_mem_cons.mpr ⟨n_PlainRun_pieces, (List.forall_mem_nil _)⟩)⟩) (nm_at hnm rfl) (m_var (pv 1))) (m_lst c_lst (a_nil))) (a_nil))))) (g_starL (n := 2) (i := 1) rfl (gs_cons (g_var (i := 6) sc_PlainRun_do_step.nd rfl (.inl rfl)) (gs_starC (g_var (i := 7) sc_PlainRun_do_step.nd rfl (.inl rfl)) (gs_nil)))))
  (ss_one (s_asg (m_tup c_tup (a_cons (m_var (pv 6)) (a_cons (m_var (pv 7)) (a_nil)))) (g_tup rfl (gs_cons (g_fld (cs := [18]) (f := 18) (List.forall_mem_cons.mpr ⟨n_PlainTask_worth, (List.forall_mem_nil _)⟩) (nm_at hnm rfl) (m_var (pv 1))) (gs_cons (g_fld (cs := [18, 19]) (f := 6) (List.forall_mem_cons.mpr ⟨n_PlainTask_pieces, (List.forall_mem_cons.mpr ⟨n_PlainRun_pieces, (List.forall_mem_nil _)⟩)⟩) (nm_at hnm rfl) (m_var (pv 1))) (gs_nil)))))))
  (ss_nil))
  (ss_cons (s_if ((w_and (t_cmp (o_eqE (hu_65 hr)) c_eqE (nomark _) (m_var (pv 3)) (m_str)) (w_one (t_cmp (o_eqE (hu_65 hr)) c_eqE (nomark _) (m_callB o_len c_len (by rfl) z_len (by decide +kernel) (a_cons (m_fld (cs := [19]) (f := 24) (List.forall_mem_cons.mpr ⟨n_PlainRun_pile, (List.forall_mem_nil _)⟩) (nm_at hnm rfl) (m_var (pv 0))) (a_nil))) (m_int)))).pt)
  (ss_one (s_expr (m_mth PySem.F.plainAttrs_list PySem.F.slot_list_append PySem.F.type_list_append mt_append c_append (m_fld (cs := [19]) (f := 23) (List.forall_mem_cons.mpr ⟨n_PlainRun_given, (List.forall_mem_nil _)⟩) (nm_at hnm rfl) (m_var (pv 0))) (a_cons (m_fld (cs := [18]) (f := 18) (List.forall_mem_cons.mpr ⟨n_PlainTask_worth, (List.forall_mem_nil _)⟩) (nm_at hnm rfl) (m_var (pv 1))) (a_nil)))))
  (ss_nil))
  (ss_cons (s_fldAug (cs := [18]) (f := 19) (List.forall_mem_cons.mpr ⟨n_PlainTask_place, (List.forall_mem_nil _)⟩) (nm_at hnm rfl) (ip_addA c.K) c_iaddA (m_var (pv 1)) (m_int))
  (ss_cons (s_if ((w_and (t_cmp (o_eqE (hu_65 hr)) c_eqE (nomark _) (m_var (pv 3)) (m_str)) (w_one (t_cmp (o_neE (hu_65 hr)) c_neE (nomark _) (m_fld (cs := [18, 19]) (f := 6) (List.forall_mem_cons.mpr ⟨n_PlainTask_pieces, (List.forall_mem_cons.mpr ⟨n_PlainRun_pieces, (List.forall_mem_nil _)⟩)⟩) (nm_at hnm rfl) (m_var (pv 1))) (m_lst c_lst (a_nil))))).pt)
  (ss_one (s_fld (cs := [18]) (f := 19) (List.forall_mem_cons.mpr ⟨n_PlainTask_place, (List.forall_mem_nil _)⟩) (nm_at hnm rfl) (m_var (pv 1)) (m_ix (o_ix (hu_65 hr)) c_ix (m_var (pv 4)) (m_int) (fun _ _ => rfl))))
  (ss_nil))
  (ss_one (s_if (t_cmp (o_eqE (hu_65 hr)) c_eqE (nomark _) (m_var (pv 3)) (m_str))
  (ss_one (s_fld (cs := [18]) (f := 19) (List.forall_mem_cons.mpr ⟨n_PlainTask_place, (List.forall_mem_nil _)⟩) (nm_at hnm rfl) (m_var (pv 1)) (m_callB o_len c_len (by rfl) z_len (by decide +kernel) (a_cons (m_fld (cs := [18]) (f := 17) (List.forall_mem_cons.mpr ⟨n_PlainTask_steps, (List.forall_mem_nil _)⟩) (nm_at hnm rfl) (m_var (pv 1))) (a_nil)))))
  (ss_nil))))))))))))
end M
namespace M
open PySem PySem.Spec PyProof.Rows L2 G
abbrev s_PlainRun_go_on : Stmt := (inClass (topS 5) 5)
theorem sc_PlainRun_go_on : FnScope ["self", "task", "step"] ["self"] (defScope s_PlainRun_go_on) := ⟨rfl, rfl, rfl, by decide +kernel, rfl, by decide +kernel, by decide +kernel⟩
def b_PlainRun_go_on : MS := seqS (setS 1 (op2 ixD (op1 (fldD [19] 24) (var 0)) (op1 negI (cst (.int 1)))))
  (ifS (tru (op2 niN (op1 (fldD [19] 25) (var 0)) (cst .non)))
  (exprS (methB 19 (inF [20, 6, 21, 22, 23, 24, 25]) (gK []) m_PlainRun_come_back (var 0) (aCons (var 1) (aNil)) (aNil)))
  (ifS (tru (methB 18 (inF [16, 17, 18, 6, 19]) (gK []) m_PlainTask_is_through (var 1) (aNil) (aNil)))
  (exprS (methB 19 (inF [20, 6, 21, 22, 23, 24, 25]) (gK []) m_PlainRun_finish_top (var 0) (aCons (cst (.str "done")) (aCons (op1 (fldD [18] 18) (var 1)) (aNil))) (aNil)))
  (seqS (fldAug [19] 21 subI (var 0) (cst (.int 1)))
  (seqS (setS 2 (op2 ixD (op1 (fldD [18] 17) (var 1)) (op1 (fldD [18] 19) (var 1))))
  (ifS (tru (op2 eqE (op2 ixD (var 2) (cst (.int 0))) (cst (.str "call"))))
  (exprS (methB 19 (inF [20, 6, 21, 22, 23, 24, 25]) (gK []) m_PlainRun_begin (var 0) (aCons (op2 ixD (var 2) (cst (.int 1))) (aCons (op2 ixD (var 2) (cst (.int 2))) (aCons (op1 (fldD [18] 18) (var 1)) (aNil)))) (aNil)))
  (exprS (methB 19 (inF [20, 6, 21, 22, 23, 24, 25]) (gK []) m_PlainRun_do_step (var 0) (aCons (var 1) (aCons (var 2) (aNil))) (aNil))))))))
def m_PlainRun_go_on : List D → Mo D := runF 3 1 b_PlainRun_go_on
theorem ok_PlainRun_go_on {c : MC} {P : Program} {w : World} {mg : Str → Option Value} {base : Heap} {f : Addr} {fd : FuncData} (n_PlainRun_pile : FldOk c 19 24) (hnm : c.nm = nmOf FN) (n_PlainRun_last : FldOk c 19 25) (q_PlainRun_come_back_1 : MetB c P w c.K mg base 2 19 "come_back" 2 [] (gK []) m_PlainRun_come_back) (q_PlainTask_is_through_0 : MetB c P w c.K mg base 1 18 "is_through" 1 [] (gK []) m_PlainTask_is_through) (q_PlainRun_finish_top_2 : MetB c P w c.K mg base 1 19 "finish_top" 3 [] (gK []) m_PlainRun_finish_top) (n_PlainTask_worth : FldOk c 18 18) (n_PlainRun_left : FldOk c 19 21) (n_PlainTask_steps : FldOk c 18 17) (n_PlainTask_place : FldOk c 18 19) (q_PlainRun_begin_3 : MetB c P w c.K mg base 3 19 "begin" 4 [] (gK []) m_PlainRun_begin) (q_PlainRun_do_step_2 : MetB c P w c.K mg base 1 19 "do_step" 3 [] (gK []) m_PlainRun_do_step) (hw : c.w = w) (F : L2.Fun c.K "go_on" "PlainRun.go_on" s_PlainRun_go_on f fd) : FnOk P w c.K mg base (L2.CX P w) 4 f fd ["self"] (spM c 1 m_PlainRun_go_on) := by
 subst hw
 exact fn_m F sc_PlainRun_go_on fun cdv A outer s H E hr tk => ss_cons (s_set (i := 1) sc_PlainRun_go_on.nd rfl (.inl rfl) (m_ix (o_ix (hu_65 hr)) c_ix (m_fld (cs := [19]) (f := 24) (List.forall_mem_cons.mpr ⟨n_PlainRun_pile, (List.forall_mem_nil _)⟩) (nm_at hnm rfl) (m_var (pv 0))) (m_un un_negN c_neg (m_int)) (fun _ _ => rfl)))
  (ss_one (s_if (t_cmp o_isnot c_isnot (nomark _) (m_fld (cs := [19]) (f := 25) (List.forall_mem_cons.mpr ⟨n_PlainRun_last, (List.forall_mem_nil _)⟩) (nm_at hnm rfl) (m_var (pv 0))) (m_non))
  (ss_one (s_expr (m_m q_PlainRun_come_back_1 tk hr (by decide) (nm_ne hnm (by decide +kernel)) (m_var (pv 0)) (a_cons (m_var (pv 1)) (a_nil)) (la_cons (la_nil)))))
  (ss_one (s_if (t_val (m_m0 q_PlainTask_is_through_0 tk hr (by decide) (nm_ne hnm (by decide +kernel)) (m_var (pv 1))))
  (ss_one (s_expr (m_m q_PlainRun_finish_top_2 tk hr (by decide) (nm_ne hnm (by decide +kernel)) (m_var (pv 0)) (a_cons (m_str) (a_cons (m_fld (cs := [18]) (f := 18) (List.forall_mem_cons.mpr ⟨n_PlainTask_worth, (List.forall_mem_nil _)⟩) (nm_at hnm rfl) (m_var (pv 1))) (a_nil))) (la_cons (la_cons (la_nil))))))
  (ss_cons (s_fldAug (cs := [19]) (f := 21) (List.forall_mem_cons.mpr ⟨n_PlainRun_left, (List.forall_mem_nil _)⟩) (nm_at hnm rfl) in_sub c_insubI (m_var (pv 0)) (m_int))
  (ss_cons (s_set (i := 2) sc_PlainRun_go_on.nd rfl (.inl rfl) (m_ix (o_ix (hu_65 hr)) c_ix (m_fld (cs := [18]) (f := 17) (List.forall_mem_cons.mpr ⟨n_PlainTask_steps, (List.forall_mem_nil _)⟩) (nm_at hnm rfl) (m_var (pv 1))) (m_fld (cs := [18]) (f := 19) (List.forall_mem_cons.mpr ⟨n_PlainTask_place, (List.forall_mem_nil _)⟩) (nm_at hnm rfl) (m_var (pv 1))) (fun _ _ => rfl)))
  (ss_one (s_if (t_cmp (o_eqE (hu_65 hr)) c_eqE (nomark _) (m_ix (o_ix (hu_65 hr)) c_ix (m_var (pv 2)) (m_int) (fun _ _ => rfl)) (m_str))
  (ss_one (s_expr (m_m q_PlainRun_begin_3 tk hr (by decide) (nm_ne hnm (by decide +kernel)) (m_var (pv 0)) (a_cons (m_ix (o_ix (hu_65 hr)) c_ix (m_var (pv 2)) (m_int) (fun _ _ => rfl)) (a_cons (m_ix (o_ix (hu_65 hr)) c_ix (m_var (pv 2)) (m_int) (fun _ _ => rfl)) (a_cons (m_fld (cs := [18]) (f := 18) (List.forall_mem_cons.mpr ⟨n_PlainTask_worth, (List.forall_mem_nil _)⟩) (nm_at hnm rfl) (m_var (pv 1))) (a_nil)))) (la_cons (la_cons (la_cons (la_nil)))))))
  (ss_one (s_expr (m_m q_PlainRun_do_step_2 tk hr (by decide) (nm_ne hnm (by decide +kernel)) (m_var (pv 0)) (a_cons (m_var (pv 1)) (a_cons (m_var (pv 2)) (a_nil))) (la_cons (la_cons (la_nil))))))))))))))
abbrev s_PlainRun_is_spent : Stmt := (inClass (topS 5) 6)
theorem sc_PlainRun_is_spent : FnScope ["self"] ["self"] (defScope s_PlainRun_is_spent) := ⟨rfl, rfl, rfl, by decide +kernel, rfl, by decide +kernel, by decide +kernel⟩
def b_PlainRun_is_spent : MS := retS (andV (op2 eqE (op1 (fldD [19] 21) (var 0)) (cst (.int 0))) (andV (op2 isN (op1 (fldD [19] 25) (var 0)) (cst .non)) (notV (methB 18 (inF [16, 17, 18, 6, 19]) (gK []) m_PlainTask_is_through (op2 ixD (op1 (fldD [19] 24) (var 0)) (op1 negI (cst (.int 1)))) (aNil) (aNil)))))
def m_PlainRun_is_spent : List D → Mo D := runF 1 1 b_PlainRun_is_spent
theorem ok_PlainRun_is_spent {c : MC} {P : Program} {w : World} {mg : Str → Option Value} {base : Heap} {f : Addr} {fd : FuncData} (n_PlainRun_left : FldOk c 19 21) (hnm : c.nm = nmOf FN) (n_PlainRun_last : FldOk c 19 25) (n_PlainRun_pile : FldOk c 19 24) (q_PlainTask_is_through_0 : MetB c P w c.K mg base 1 18 "is_through" 1 [] (gK []) m_PlainTask_is_through) (hw : c.w = w) (F : L2.Fun c.K "is_spent" "PlainRun.is_spent" s_PlainRun_is_spent f fd) : FnOk P w c.K mg base (L2.CX P w) 2 f fd ["self"] (spM c 1 m_PlainRun_is_spent) := by
 subst hw
 exact fn_m F sc_PlainRun_is_spent fun cdv A outer s H E hr tk => ss_one (s_ret (m_and (m_cmp (o_eqE (hu_65 hr)) c_eqE (nomark _) (m_fld (cs := [19]) (f := 21) (List.forall_mem_cons.mpr ⟨n_PlainRun_left, (List.forall_mem_nil _)⟩) (nm_at hnm rfl) (m_var (pv 0))) (m_int)) (m_and (m_cmp o_is c_is (nomark _) (m_fld (cs := [19]) (f := 25) (List.forall_mem_cons.mpr ⟨n_PlainRun_last, (List.forall_mem_nil _)⟩) (nm_at hnm rfl) (m_var (pv 0))) (m_non)) (m_one (m_not (m_m0 q_PlainTask_is_through_0 tk hr (by decide) (nm_ne hnm (by decide +kernel)) (m_ix (o_ix (hu_65 hr)) c_ix (m_fld (cs := [19]) (f := 24) (List.forall_mem_cons.mpr ⟨n_PlainRun_pile, (List.forall_mem_nil _)⟩) (nm_at hnm rfl) (m_var (pv 0))) (m_un un_negN c_neg (m_int)) (fun _ _ => rfl))))))))
abbrev s_plain : Stmt := (topS 6)
theorem sc_plain : FnScope ["plan", "house", "service", "value", "pieces", "most", "run", "word", "worth"] ["plan", "house", "service", "value", "pieces", "most"] (defScope s_plain) := ⟨rfl, rfl, rfl, by decide +kernel, rfl, by decide +kernel, by decide +kernel⟩
def b_plain : MS := seqS (ifS (tru (op2 niD (var 1) (var 0)))
  (raiS 8)
  (passS))
  (seqS (setS 6 (mkB 19 (gK []) m_PlainRun__init (aCons (var 0) (aCons (var 4) (aCons (var 5) (aNil)))) (aNil)))
  (seqS (exprS (methB 19 (inF [20, 6, 21, 22, 23, 24, 25]) (gK []) m_PlainRun_begin (var 6) (aCons (var 1) (aCons (var 2) (aCons (var 3) (aNil)))) (aNil)))
  (seqS (whileS (tru (op2 neE (op1 (fldD [19] 24) (var 6)) (opN lstD (aNil))))
  (seqS (ifS (tru (methB 19 (inF [20, 6, 21, 22, 23, 24, 25]) (gK []) m_PlainRun_is_spent (var 6) (aNil) (aNil)))
  (retS (opN tupD (aCons (cst (.str "late")) (aCons (cst (.int 0)) (aCons (opN tupleD (aCons (op1 (fldD [19] 23) (var 6)) (aNil))) (aCons (op1 (fldD [19] 22) (var 6)) (aNil)))))))
  (passS))
  (exprS (methB 19 (inF [20, 6, 21, 22, 23, 24, 25]) (gK []) m_PlainRun_go_on (var 6) (aNil) (aNil)))))
  (seqS (asgS (op1 (fldD [19] 25) (var 6)) (gTupM 2 (gsCons (gVar 7) (gsCons (gVar 8) (gsNil)))))
  (retS (opN tupD (aCons (var 7) (aCons (var 8) (aCons (opN tupleD (aCons (op1 (fldD [19] 23) (var 6)) (aNil))) (aCons (op1 (fldD [19] 22) (var 6)) (aNil)))))))))))
def m_plain : List D → Mo D := runF 9 6 b_plain
theorem ok_plain {c : MC} {P : Program} {w : World} {mg : Str → Option Value} {base : Heap} {f : Addr} {fd : FuncData} {dvs : List V} {kws : List (Str × V)} (e_NoHouse : ExcC c.K mg "NoHouse" (c.ca 8)) (q_PlainRun__init_3 : MakB c P w c.K mg base 1 "PlainRun" 19 4 [] (gK []) m_PlainRun__init) (q_PlainRun_begin_3 : MetB c P w c.K mg base 3 19 "begin" 4 [] (gK []) m_PlainRun_begin) (hnm : c.nm = nmOf FN) (n_PlainRun_pile : FldOk c 19 24) (q_PlainRun_is_spent_0 : MetB c P w c.K mg base 2 19 "is_spent" 1 [] (gK []) m_PlainRun_is_spent) (n_PlainRun_given : FldOk c 19 23) (z_tuple : mg "tuple" = none) (n_PlainRun_stores : FldOk c 19 22) (q_PlainRun_go_on_0 : MetB c P w c.K mg base 4 19 "go_on" 1 [] (gK []) m_PlainRun_go_on) (n_PlainRun_last : FldOk c 19 25) (hw : c.w = w) (F : L2.FunD c.K "plain" "plain" (defArgs s_plain) (defBody s_plain) (defScope s_plain) dvs kws f fd) : FnOk P w c.K mg base (L2.CX P w) 5 f fd ["plan", "house", "service", "value", "pieces", "most"] (spM c 6 m_plain) := by
 subst hw
 exact fn_mD (st := s_plain) F sc_plain fun cdv A outer s H E hr tk => ss_cons (s_if (t_cmp (o_ni (hu_65 hr)) c_ni rfl (m_var (pv 1)) (m_var (pv 0)))
  (ss_one (s_rai e_NoHouse rfl tk (by rfl)))
  (ss_nil))
  (ss_cons (s_set (i := 6) sc_plain.nd rfl (.inl rfl) (m_n q_PlainRun__init_3 tk hr (by decide) (by rfl) (a_cons (m_var (pv 0)) (a_cons (m_var (pv 4)) (a_cons (m_var (pv 5)) (a_nil)))) (la_cons (la_cons (la_cons (la_nil))))))
  (ss_cons (s_expr (m_m q_PlainRun_begin_3 tk hr (by decide) (nm_ne hnm (by decide +kernel)) (m_var (pv 6)) (a_cons (m_var (pv 1)) (a_cons (m_var (pv 2)) (a_cons (m_var (pv 3)) (a_nil)))) (la_cons (la_cons (la_cons (la_nil))))))
  (ss_cons (s_while (passes_of rfl) (t_cmp (o_neE (hu_65 hr)) c_neE (nomark _) (m_fld (cs := [19]) (f := 24) (List.forall_mem_cons.mpr ⟨n_PlainRun_pile, (List.forall_mem_nil _)⟩) (nm_at hnm rfl) (m_var (pv 6))) (m_lst c_lst (a_nil)))
  (ss_cons (s_if (t_val (m_m0 q_PlainRun_is_spent_0 tk hr (by decide) (nm_ne hnm (by decide +kernel)) (m_var (pv 6))))
  (ss_one (s_ret (m_tup c_tup (a_cons (m_str) (a_cons (m_int) (a_cons (m_callTy (cl_tupleK c.K) c_tuple (by rfl) z_tuple (by decide +kernel) (a_cons (m_fld (cs := [19]) (f := 23) (List.forall_mem_cons.mpr ⟨n_PlainRun_given, (List.forall_mem_nil _)⟩) (nm_at hnm rfl) (m_var (pv 6))) (a_nil))) (a_cons (m_fld (cs := [19]) (f := 22) (List.forall_mem_cons.mpr ⟨n_PlainRun_stores, (List.forall_mem_nil _)⟩) (nm_at hnm rfl) (m_var (pv 6))) (a_nil))))))))
  (ss_nil))
  (ss_one (s_expr (m_m0 q_PlainRun_go_on_0 tk hr (by decide) (nm_ne hnm (by decide +kernel)) (m_var (pv 6)))))))
  (ss_cons (s_asg (m_fld (cs := [19]) (f := 25) (List.forall_mem_cons.mpr ⟨n_PlainRun_last, (List.forall_mem_nil _)⟩) (nm_at hnm rfl) (m_var (pv 6))) (g_tup rfl (gs_cons (g_var (i := 7) sc_plain.nd rfl (.inl rfl)) (gs_cons (g_var (i := 8) sc_plain.nd rfl (.inl rfl)) (gs_nil)))))
  (ss_one (s_ret (m_tup c_tup (a_cons (m_var (pv 7)) (a_cons (m_var (pv 8)) (a_cons (m_callTy (cl_tupleK c.K) c_tuple (by rfl) z_tuple (by decide +kernel) (a_cons (m_fld (cs := [19]) (f := 23) (List.forall_mem_cons.mpr ⟨n_PlainRun_given, (List.forall_mem_nil _)⟩) (nm_at hnm rfl) (m_var (pv 6))) (a_nil))) (a_cons (m_fld (cs := [19]) (f := 22) (List.forall_mem_cons.mpr ⟨n_PlainRun_stores, (List.forall_mem_nil _)⟩) (nm_at hnm rfl) (m_var (pv 6))) (a_nil))))))))))))
abbrev s_law_begun : Stmt := (topS 8)
theorem sc_law_begun : FnScope ["_law_script", "_law_cells", "_law_cell"] ["_law_script"] (defScope s_law_begun) := ⟨rfl, rfl, rfl, by decide +kernel, rfl, by decide +kernel, by decide +kernel⟩
def b_law_begun : MS := seqS (setS 1 (lcE (iterM (var 0)) (gVar 2) (yesT) (opN absD (aCons (var 2) (aNil))) [2]))
  (retS (dspE ((cst (.str "great"), lcE (iterM (var 1)) (gVar 2) (tru (op2 geI (var 2) (op2 powI (cst (.int 10)) (cst (.int 18))))) (var 2) [2]) :: (cst (.str "cells"), var 1) :: (cst (.str "rest"), cst (.int 0)) :: (cst (.str "turn"), cst (.int 0)) :: [(cst (.str "more"), cst (.int 7))])))
def m_law_begun : List D → Mo D := runF 3 1 b_law_begun
theorem ok_law_begun {c : MC} {P : Program} {w : World} {mg : Str → Option Value} {base : Heap} {f : Addr} {fd : FuncData} (z_abs : mg "abs" = none) (hw : c.w = w) (F : L2.Fun c.K "_law_begun" "_law_begun" s_law_begun f fd) : FnOk P w c.K mg base (L2.CX P w) 1 f fd ["_law_script"] (spM c 1 m_law_begun) := by
 subst hw
 exact fn_m F sc_law_begun fun cdv A outer s H E hr tk => ss_cons (s_setLc (i := 1) (own := [("_law_cell", 2)]) (g := gVar 2) (ws := [2]) rfl sc_law_begun.nd rfl rfl (sw_true rfl rfl rfl (by decide +kernel)) (i_seq (m_var (pv 0))) (blkOk_by (N := ["_law_script", "_law_cells", "_law_cell"]) (sc := defScope s_law_begun) (by decide +kernel)) (by decide) (fun _ _ _ _ _ => g_var (i := 2) sc_law_begun.nd rfl (.inl rfl)) (fun _ _ _ _ _ => q_nil) (fun _ _ _ _ _ => m_callB cl_abs c_abs (by rfl) z_abs (by decide +kernel) (a_cons (m_var (pv 2)) (a_nil))))
  (ss_one (s_ret (m_dsp (pm_cons (m_str) (m_lc (own := [("_law_cell", 2)]) (g := gVar 2) (ws := [2]) rfl sc_law_begun.nd (i_seq (m_var (pv 1))) (blkOk_by (N := ["_law_script", "_law_cells", "_law_cell"]) (sc := defScope s_law_begun) (by decide +kernel)) (by decide) (fun _ _ _ _ _ => g_var (i := 2) sc_law_begun.nd rfl (.inl rfl)) (fun _ _ _ _ _ => q_one (t_cmp op_ge c_ge (nomark _) (m_var (pv 2)) (m_op op_pow c_pow (m_int) (m_int)))) (fun _ _ _ _ _ => m_var (pv 2))) (pm_cons (m_str) (m_var (pv 1)) (pm_cons (m_str) (m_int) (pm_cons (m_str) (m_int) (pm_cons (m_str) (m_int) (pm_nil)))))))))
abbrev s_law_take : Stmt := (topS 9)
theorem sc_law_take : FnScope ["_law_draw", "_law_many", "_law_found", "_law_cell", "_law_mixed"] ["_law_draw", "_law_many"] (defScope s_law_take) := ⟨rfl, rfl, rfl, by decide +kernel, rfl, by decide +kernel, by decide +kernel⟩
def b_law_take : MS := seqS (whileS (andT (tru (op2 eqE (op2 ixD (var 0) (cst (.str "rest"))) (cst (.int 0)))) (tru (op2 neE (op2 ixD (var 0) (cst (.str "great"))) (opN lstD (aNil)))))
  (asgS (mth "list" (lstMt popAtF) (op2 ixD (var 0) (cst (.str "great"))) (aCons (cst (.int 0)) (aNil))) (gSubM (var 0) (cst (.str "rest")))))
  (seqS (ifS (tru (op2 gtI (op2 ixD (var 0) (cst (.str "rest"))) (cst (.int 0))))
  (seqS (setS 2 (op2 modI (op2 ixD (var 0) (cst (.str "rest"))) (var 1)))
  (seqS (asgS (op2 divI (op2 ixD (var 0) (cst (.str "rest"))) (var 1)) (gSubM (var 0) (cst (.str "rest"))))
  (retS (var 2))))
  (passS))
  (seqS (setS 3 (cst (.int 0)))
  (seqS (ifS (tru (op2 neE (op2 ixD (var 0) (cst (.str "cells"))) (opN lstD (aNil))))
  (setS 3 (op2 ixD (op2 ixD (var 0) (cst (.str "cells"))) (op2 modI (op2 ixD (var 0) (cst (.str "turn"))) (opN lenD (aCons (op2 ixD (var 0) (cst (.str "cells"))) (aNil))))))
  (passS))
  (seqS (asgS (op2 addD (op2 ixD (var 0) (cst (.str "turn"))) (cst (.int 1))) (gSubM (var 0) (cst (.str "turn"))))
  (seqS (asgS (op2 modI (op2 addD (op2 addD (op2 mulD (op2 ixD (var 0) (cst (.str "more"))) (cst (.int 48271))) (var 3)) (op2 mulD (cst (.int 7919)) (op2 ixD (var 0) (cst (.str "turn"))))) (cst (.int 2147483647))) (gSubM (var 0) (cst (.str "more"))))
  (seqS (setS 4 (op2 modI (op2 addD (op2 addD (op2 mulD (op2 ixD (var 0) (cst (.str "more"))) (op2 ixD (var 0) (cst (.str "more")))) (op2 mulD (cst (.int 16807)) (op2 ixD (var 0) (cst (.str "more"))))) (cst (.int 11))) (cst (.int 2147483629))))
  (retS (op2 modI (op2 divI (op2 modI (op2 mulD (var 4) (var 4)) (cst (.int 2147483587))) (cst (.int 7))) (var 1)))))))))
def m_law_take : List D → Mo D := runF 5 2 b_law_take
theorem ok_law_take {c : MC} {P : Program} {w : World} {mg : Str → Option Value} {base : Heap} {f : Addr} {fd : FuncData} (z_len : mg "len" = none) (hw : c.w = w) (F : L2.Fun c.K "_law_take" "_law_take" s_law_take f fd) : FnOk P w c.K mg base (L2.CX P w) 1 f fd ["_law_draw", "_law_many"] (spM c 2 m_law_take) := by
 subst hw
 exact fn_m F sc_law_take fun cdv A outer s H E hr tk => ss_cons (s_while (passes_of rfl) ((w_and (t_cmp (o_eqE (hu_65 hr)) c_eqE (nomark _) (m_ix (o_ix (hu_65 hr)) c_ix (m_var (pv 0)) (m_str) (fun _ _ => rfl)) (m_int)) (w_one (t_cmp (o_neE (hu_65 hr)) c_neE (nomark _) (m_ix (o_ix (hu_65 hr)) c_ix (m_var (pv 0)) (m_str) (fun _ _ => rfl)) (m_lst c_lst (a_nil))))).pt)
  (ss_one (s_asg (m_mth PySem.F.plainAttrs_list PySem.F.slot_list_pop PySem.F.type_list_pop mt_popAt c_popAt (m_ix (o_ix (hu_65 hr)) c_ix (m_var (pv 0)) (m_str) (fun _ _ => rfl)) (a_cons (m_int) (a_nil))) (g_sub (W1 := W0) (W2 := W0) (hu_1 hr) (m_var (pv 0)) (m_str)))))
  (ss_cons (s_if (t_cmp op_gt c_gt (nomark _) (m_ix (o_ix (hu_65 hr)) c_ix (m_var (pv 0)) (m_str) (fun _ _ => rfl)) (m_int))
  (ss_cons (s_set (i := 2) sc_law_take.nd rfl (.inl rfl) (m_op op_mod c_mod (m_ix (o_ix (hu_65 hr)) c_ix (m_var (pv 0)) (m_str) (fun _ _ => rfl)) (m_var (pv 1))))
  (ss_cons (s_asg (m_op op_fdivW c_div (m_ix (o_ix (hu_65 hr)) c_ix (m_var (pv 0)) (m_str) (fun _ _ => rfl)) (m_var (pv 1))) (g_sub (W1 := W0) (W2 := W0) (hu_1 hr) (m_var (pv 0)) (m_str)))
  (ss_one (s_ret (m_var (pv 2))))))
  (ss_nil))
  (ss_cons (s_set (i := 3) sc_law_take.nd rfl (.inl rfl) (m_int))
  (ss_cons (s_if (t_cmp (o_neE (hu_65 hr)) c_neE (nomark _) (m_ix (o_ix (hu_65 hr)) c_ix (m_var (pv 0)) (m_str) (fun _ _ => rfl)) (m_lst c_lst (a_nil)))
  (ss_one (s_set (i := 3) sc_law_take.nd rfl (.inl rfl) (m_ix (o_ix (hu_65 hr)) c_ix (m_ix (o_ix (hu_65 hr)) c_ix (m_var (pv 0)) (m_str) (fun _ _ => rfl)) (m_op op_mod c_mod (m_ix (o_ix (hu_65 hr)) c_ix (m_var (pv 0)) (m_str) (fun _ _ => rfl)) (m_callB o_len c_len (by rfl) z_len (by decide +kernel) (a_cons (m_ix (o_ix (hu_65 hr)) c_ix (m_var (pv 0)) (m_str) (fun _ _ => rfl)) (a_nil)))) (fun _ _ => rfl))))
  (ss_nil))
  (ss_cons (s_asg (m_op o_add c_add (m_ix (o_ix (hu_65 hr)) c_ix (m_var (pv 0)) (m_str) (fun _ _ => rfl)) (m_int)) (g_sub (W1 := W0) (W2 := W0) (hu_1 hr) (m_var (pv 0)) (m_str)))
  (ss_cons (s_asg (m_op op_mod c_mod (m_op o_add c_add (m_op o_add c_add (m_op o_mulD c_mulD (m_ix (o_ix (hu_65 hr)) c_ix (m_var (pv 0)) (m_str) (fun _ _ => rfl)) (m_int)) (m_var (pv 3))) (m_op o_mulD c_mulD (m_int) (m_ix (o_ix (hu_65 hr)) c_ix (m_var (pv 0)) (m_str) (fun _ _ => rfl)))) (m_int)) (g_sub (W1 := W0) (W2 := W0) (hu_1 hr) (m_var (pv 0)) (m_str)))
  (ss_cons (s_set (i := 4) sc_law_take.nd rfl (.inl rfl) (m_op op_mod c_mod (m_op o_add c_add (m_op o_add c_add (m_op o_mulD c_mulD (m_ix (o_ix (hu_65 hr)) c_ix (m_var (pv 0)) (m_str) (fun _ _ => rfl)) (m_ix (o_ix (hu_65 hr)) c_ix (m_var (pv 0)) (m_str) (fun _ _ => rfl))) (m_op o_mulD c_mulD (m_int) (m_ix (o_ix (hu_65 hr)) c_ix (m_var (pv 0)) (m_str) (fun _ _ => rfl)))) (m_int)) (m_int)))
  (ss_one (s_ret (m_op op_mod c_mod (m_op op_fdivW c_div (m_op op_mod c_mod (m_op o_mulD c_mulD (m_var (pv 4)) (m_var (pv 4))) (m_int)) (m_int)) (m_var (pv 1)))))))))))
abbrev s_law_pick : Stmt := (topS 10)
theorem sc_law_pick : FnScope ["_law_draw", "_law_some"] ["_law_draw", "_law_some"] (defScope s_law_pick) := ⟨rfl, rfl, rfl, by decide +kernel, rfl, by decide +kernel, by decide +kernel⟩
def b_law_pick : MS := retS (op2 ixD (var 1) (callB (gK []) m_law_take (aCons (var 0) (aCons (opN lenD (aCons (var 1) (aNil))) (aNil))) (aNil)))
def m_law_pick : List D → Mo D := runF 2 2 b_law_pick
theorem ok_law_pick {c : MC} {P : Program} {w : World} {mg : Str → Option Value} {base : Heap} {f : Addr} {fd : FuncData} (q_law_take_2 : CalB c P w c.K mg base 1 "_law_take" 2 [] (gK []) m_law_take) (z_len : mg "len" = none) (hw : c.w = w) (F : L2.Fun c.K "_law_pick" "_law_pick" s_law_pick f fd) : FnOk P w c.K mg base (L2.CX P w) 2 f fd ["_law_draw", "_law_some"] (spM c 2 m_law_pick) := by
 subst hw
 exact fn_m F sc_law_pick fun cdv A outer s H E hr tk => ss_one (s_ret (m_ix (o_ix (hu_65 hr)) c_ix (m_var (pv 1)) (m_c q_law_take_2 tk hr (by decide) (by rfl) (a_cons (m_var (pv 0)) (a_cons (m_callB o_len c_len (by rfl) z_len (by decide +kernel) (a_cons (m_var (pv 1)) (a_nil))) (a_nil))) (la_cons (la_cons (la_nil)))) (fun _ _ => rfl)))
abbrev s_law_words : Stmt := (topS 11)
theorem sc_law_words : FnScope ["_law_draw", "_law_many", "_law_own", "_law_at", "_law_letters", "_law_tails", "_law_turn", "_law_k"] ["_law_draw", "_law_many"] (defScope s_law_words) := ⟨rfl, rfl, rfl, by decide +kernel, rfl, by decide +kernel, by decide +kernel⟩
def b_law_words : MS := seqS (setS 2 (opN lstD (aCons (cst (.str "clock")) (aCons (cst (.str "past")) (aCons (cst (.str "ask")) (aCons (cst (.str "stop")) (aCons (cst (.str "told")) (aCons (cst (.str "piece")) (aCons (cst (.str "shut")) (aCons (cst (.str "room")) (aCons (cst (.str "in")) (aCons (cst (.str "out")) (aCons (cst (.str "done")) (aCons (cst (.str "never")) (aCons (cst (.str "late")) (aNil))))))))))))))))
  (seqS (setS 2 (op2 addD (var 2) (opN lstD (aCons (cst (.str "stopped")) (aCons (cst (.str "step")) (aCons (cst (.str "send")) (aCons (cst (.str "tick")) (aCons (cst (.str "call")) (aCons (cst (.str "runs")) (aCons (cst (.str "held")) (aCons (cst (.str "over")) (aCons (cst (.str "begun")) (aCons (cst (.str "cut")) (aCons (cst (.str "restart")) (aCons (cst (.str "add")) (aNil))))))))))))))))
  (seqS (setS 3 (callB (gK []) m_law_take (aCons (var 0) (aCons (opN lenD (aCons (var 2) (aNil))) (aNil))) (aNil)))
  (seqS (ifS (tru (op2 eqE (callB (gK []) m_law_take (aCons (var 0) (aCons (cst (.int 4)) (aNil))) (aNil)) (cst (.int 0))))
  (retS (slc slD (op2 addD (slc slD (var 2) (pAt (var 3)) (pNo)) (slc slD (var 2) (pNo) (pAt (var 3)))) (pNo) (pAt (var 1))))
  (passS))
  (seqS (setS 4 (cst (.str "abcdefghijklmnopqrstuvwxyz")))
  (seqS (setS 5 (opN lstD (aCons (cst (.str "")) (aCons (cst (.str "x")) (aCons (cst (.str "yx")) (aCons (cst (.str "zzzzzzz")) (aCons (cst (.str "q")) (aCons (cst (.str "xyxy")) (aCons (cst (.str "yy")) (aNil))))))))))
  (seqS (setS 6 (callB (gK []) m_law_take (aCons (var 0) (aCons (cst (.int 7)) (aNil))) (aNil)))
  (retS (lcE (rng1M (var 1)) (gVar 7) (yesT) (op2 addD (op2 ixD (var 4) (op2 modI (op2 addD (var 3) (op2 mulD (cst (.int 7)) (var 7))) (cst (.int 26)))) (op2 ixD (var 5) (op2 modI (op2 addD (var 6) (op2 mulD (var 7) (var 7))) (cst (.int 7))))) [7]))))))))
def m_law_words : List D → Mo D := runF 8 2 b_law_words
theorem ok_law_words {c : MC} {P : Program} {w : World} {mg : Str → Option Value} {base : Heap} {f : Addr} {fd : FuncData} (q_law_take_2 : CalB c P w c.K mg base 1 "_law_take" 2 [] (gK []) m_law_take) (z_len : mg "len" = none) (z_range : mg "range" = none) (hw : c.w = w) (F : L2.Fun c.K "_law_words" "_law_words" s_law_words f fd) : FnOk P w c.K mg base (L2.CX P w) 2 f fd ["_law_draw", "_law_many"] (spM c 2 m_law_words) := by
 subst hw
 exact fn_m F sc_law_words fun cdv A outer s H E hr tk => ss_cons (s_set (i := 2) sc_law_words.nd rfl (.inl rfl) (m_lst c_lst (a_cons (m_str) (a_cons (m_str) (a_cons (m_str) (a_cons (m_str) (a_cons (m_str) (a_cons (m_str) (a_cons (m_str) (a_cons (m_str) (a_cons (m_str) (a_cons (m_str) (a_cons (m_str) (a_cons (m_str) (a_cons (m_str) (a_nil))))))))))))))))
  (ss_cons (s_set (i := 2) sc_law_words.nd rfl (.inl rfl) (m_op o_add c_add (m_var (pv 2)) (m_lst c_lst (a_cons (m_str) (a_cons (m_str) (a_cons (m_str) (a_cons (m_str) (a_cons (m_str) (a_cons (m_str) (a_cons (m_str) (a_cons (m_str) (a_cons (m_str) (a_cons (m_str) (a_cons (m_str) (a_cons (m_str) (a_nil))))))))))))))))
  (ss_cons (s_set (i := 3) sc_law_words.nd rfl (.inr rfl) (m_c q_law_take_2 tk hr (by decide) (by rfl) (a_cons (m_var (pv 0)) (a_cons (m_callB o_len c_len (by rfl) z_len (by decide +kernel) (a_cons (m_var (pv 2)) (a_nil))) (a_nil))) (la_cons (la_cons (la_nil)))))
  (ss_cons (s_if (t_cmp (o_eqE (hu_65 hr)) c_eqE (nomark _) (m_c q_law_take_2 tk hr (by decide) (by rfl) (a_cons (m_var (pv 0)) (a_cons (m_int) (a_nil))) (la_cons (la_cons (la_nil)))) (m_int))
  (ss_one (s_ret (m_slc o_sl c_sl (m_op o_add c_add (m_slc o_sl c_sl (m_var (pv 2)) (o_at (m_var (pv 3))) (o_no)) (m_slc o_sl c_sl (m_var (pv 2)) (o_no) (o_at (m_var (pv 3))))) (o_no) (o_at (m_var (pv 1))))))
  (ss_nil))
  (ss_cons (s_set (i := 4) sc_law_words.nd rfl (.inr rfl) (m_str))
  (ss_cons (s_set (i := 5) sc_law_words.nd rfl (.inr rfl) (m_lst c_lst (a_cons (m_str) (a_cons (m_str) (a_cons (m_str) (a_cons (m_str) (a_cons (m_str) (a_cons (m_str) (a_cons (m_str) (a_nil))))))))))
  (ss_cons (s_set (i := 6) sc_law_words.nd rfl (.inr rfl) (m_c q_law_take_2 tk hr (by decide) (by rfl) (a_cons (m_var (pv 0)) (a_cons (m_int) (a_nil))) (la_cons (la_cons (la_nil)))))
  (ss_one (s_ret (m_lc (own := [("_law_k", 7)]) (g := gVar 7) (ws := [7]) rfl sc_law_words.nd (i_rng1 (by rfl) z_range (m_var (pv 1))) (blkOk_by (N := ["_law_draw", "_law_many", "_law_own", "_law_at", "_law_letters", "_law_tails", "_law_turn", "_law_k"]) (sc := defScope s_law_words) (by decide +kernel)) (by decide) (fun _ _ _ _ _ => g_var (i := 7) sc_law_words.nd rfl (.inl rfl)) (fun _ _ _ _ _ => q_nil) (fun _ _ _ _ _ => m_op o_add c_add (m_ix (o_ix (hu_65 hr)) c_ix (m_var (pv 4)) (m_op op_mod c_mod (m_op o_add c_add (m_var (pv 3)) (m_op o_mulD c_mulD (m_int) (m_var (pv 7)))) (m_int)) (fun _ _ => rfl)) (m_ix (o_ix (hu_65 hr)) c_ix (m_var (pv 5)) (m_op op_mod c_mod (m_op o_add c_add (m_var (pv 6)) (m_op o_mulD c_mulD (m_var (pv 7)) (m_var (pv 7)))) (m_int)) (fun _ _ => rfl))))))))))))
end M
namespace M
open PySem PySem.Spec PyProof.Rows L2 G
abbrev s_law_number : Stmt := (topS 12)
theorem sc_law_number : FnScope ["_law_draw", "_law_way"] ["_law_draw"] (defScope s_law_number) := ⟨rfl, rfl, rfl, by decide +kernel, rfl, by decide +kernel, by decide +kernel⟩
def b_law_number : MS := seqS (setS 1 (callB (gK []) m_law_take (aCons (var 0) (aCons (cst (.int 6)) (aNil))) (aNil)))
  (seqS (ifS (tru (op2 eqE (var 1) (cst (.int 0))))
  (retS (op2 subI (cst (.int 0)) (callB (gK []) m_law_take (aCons (var 0) (aCons (cst (.int 9)) (aNil))) (aNil))))
  (passS))
  (seqS (ifS (tru (op2 eqE (var 1) (cst (.int 1))))
  (retS (callB (gK []) m_law_take (aCons (var 0) (aCons (op2 powI (cst (.int 10)) (cst (.int 39))) (aNil))) (aNil)))
  (passS))
  (seqS (ifS (tru (op2 eqE (var 1) (cst (.int 2))))
  (retS (op2 subI (cst (.int 0)) (callB (gK []) m_law_take (aCons (var 0) (aCons (op2 powI (cst (.int 10)) (cst (.int 39))) (aNil))) (aNil))))
  (passS))
  (retS (callB (gK []) m_law_take (aCons (var 0) (aCons (cst (.int 7)) (aNil))) (aNil))))))
def m_law_number : List D → Mo D := runF 2 1 b_law_number
theorem ok_law_number {c : MC} {P : Program} {w : World} {mg : Str → Option Value} {base : Heap} {f : Addr} {fd : FuncData} (q_law_take_2 : CalB c P w c.K mg base 1 "_law_take" 2 [] (gK []) m_law_take) (hw : c.w = w) (F : L2.Fun c.K "_law_number" "_law_number" s_law_number f fd) : FnOk P w c.K mg base (L2.CX P w) 2 f fd ["_law_draw"] (spM c 1 m_law_number) := by
 subst hw
 exact fn_m F sc_law_number fun cdv A outer s H E hr tk => ss_cons (s_set (i := 1) sc_law_number.nd rfl (.inl rfl) (m_c q_law_take_2 tk hr (by decide) (by rfl) (a_cons (m_var (pv 0)) (a_cons (m_int) (a_nil))) (la_cons (la_cons (la_nil)))))
  (ss_cons (s_if (t_cmp (o_eqE (hu_65 hr)) c_eqE (nomark _) (m_var (pv 1)) (m_int))
  (ss_one (s_ret (m_op op_sub c_sub (m_int) (m_c q_law_take_2 tk hr (by decide) (by rfl) (a_cons (m_var (pv 0)) (a_cons (m_int) (a_nil))) (la_cons (la_cons (la_nil)))))))
  (ss_nil))
  (ss_cons (s_if (t_cmp (o_eqE (hu_65 hr)) c_eqE (nomark _) (m_var (pv 1)) (m_int))
  (ss_one (s_ret (m_c q_law_take_2 tk hr (by decide) (by rfl) (a_cons (m_var (pv 0)) (a_cons (m_op op_pow c_pow (m_int) (m_int)) (a_nil))) (la_cons (la_cons (la_nil))))))
  (ss_nil))
  (ss_cons (s_if (t_cmp (o_eqE (hu_65 hr)) c_eqE (nomark _) (m_var (pv 1)) (m_int))
  (ss_one (s_ret (m_op op_sub c_sub (m_int) (m_c q_law_take_2 tk hr (by decide) (by rfl) (a_cons (m_var (pv 0)) (a_cons (m_op op_pow c_pow (m_int) (m_int)) (a_nil))) (la_cons (la_cons (la_nil)))))))
  (ss_nil))
  (ss_one (s_ret (m_c q_law_take_2 tk hr (by decide) (by rfl) (a_cons (m_var (pv 0)) (a_cons (m_int) (a_nil))) (la_cons (la_cons (la_nil)))))))))
abbrev s_law_step : Stmt := (topS 13)
theorem sc_law_step : FnScope ["_law_draw", "_law_many", "_law_keys", "_law_calls", "_law_way", "_law_home", "_law_work"] ["_law_draw", "_law_many", "_law_keys", "_law_calls"] (defScope s_law_step) := ⟨rfl, rfl, rfl, by decide +kernel, rfl, by decide +kernel, by decide +kernel⟩
def b_law_step : MS := seqS (setS 4 (callB (gK []) m_law_take (aCons (var 0) (aCons (cst (.int 12)) (aNil))) (aNil)))
  (seqS (ifS (tru (op2 ltI (var 4) (cst (.int 2))))
  (retS (opN tupD (aCons (cst (.str "add")) (aCons (callB (gK []) m_law_pick (aCons (var 0) (aCons (var 2) (aNil))) (aNil)) (aCons (callB (gK []) m_law_number (aCons (var 0) (aNil)) (aNil)) (aNil))))))
  (passS))
  (seqS (ifS (tru (op2 eqE (var 4) (cst (.int 2))))
  (retS (opN tupD (aCons (cst (.str "put")) (aCons (callB (gK []) m_law_pick (aCons (var 0) (aCons (var 2) (aNil))) (aNil)) (aNil)))))
  (passS))
  (seqS (ifS (tru (op2 eqE (var 4) (cst (.int 3))))
  (retS (opN tupD (aCons (cst (.str "load")) (aCons (callB (gK []) m_law_pick (aCons (var 0) (aCons (var 2) (aNil))) (aNil)) (aNil)))))
  (passS))
  (seqS (ifS (tru (op2 eqE (var 4) (cst (.int 4))))
  (retS (opN tupD (aCons (cst (.str "plus")) (aCons (callB (gK []) m_law_number (aCons (var 0) (aNil)) (aNil)) (aNil)))))
  (passS))
  (seqS (ifS (tru (op2 eqE (var 4) (cst (.int 5))))
  (retS (opN tupD (aCons (cst (.str "take")) (aNil))))
  (passS))
  (seqS (ifS (tru (op2 eqE (var 4) (cst (.int 6))))
  (retS (opN tupD (aCons (cst (.str "give")) (aNil))))
  (passS))
  (seqS (ifS (tru (op2 eqE (var 4) (cst (.int 7))))
  (retS (opN tupD (aCons (cst (.str "more")) (aCons (callB (gK []) m_law_take (aCons (var 0) (aCons (var 1) (aNil))) (aNil)) (aNil)))))
  (passS))
  (seqS (ifS (tru (op2 eqE (var 4) (cst (.int 8))))
  (retS (opN tupD (aCons (cst (.str "done")) (aNil))))
  (passS))
  (seqS (ifS (tru (op2 eqE (var 3) (opN lstD (aNil))))
  (retS (opN tupD (aCons (cst (.str "plus")) (aCons (cst (.int 1)) (aNil)))))
  (passS))
  (seqS (asgS (callB (gK []) m_law_pick (aCons (var 0) (aCons (var 3) (aNil))) (aNil)) (gTupM 2 (gsCons (gVar 5) (gsCons (gVar 6) (gsNil)))))
  (retS (opN tupD (aCons (cst (.str "call")) (aCons (var 5) (aCons (var 6) (aCons (op2 addD (cst (.int 1)) (callB (gK []) m_law_take (aCons (var 0) (aCons (callB (gK []) m_law_pick (aCons (var 0) (aCons (opN lstD (aCons (cst (.int 5)) (aCons (cst (.int 30)) (aCons (cst (.int 200)) (aNil))))) (aNil))) (aNil)) (aNil))) (aNil))) (aNil)))))))))))))))))
def m_law_step : List D → Mo D := runF 7 4 b_law_step
theorem ok_law_step {c : MC} {P : Program} {w : World} {mg : Str → Option Value} {base : Heap} {f : Addr} {fd : FuncData} (q_law_take_2 : CalB c P w c.K mg base 1 "_law_take" 2 [] (gK []) m_law_take) (q_law_pick_2 : CalB c P w c.K mg base 2 "_law_pick" 2 [] (gK []) m_law_pick) (q_law_number_1 : CalB c P w c.K mg base 2 "_law_number" 1 [] (gK []) m_law_number) (hw : c.w = w) (F : L2.Fun c.K "_law_step" "_law_step" s_law_step f fd) : FnOk P w c.K mg base (L2.CX P w) 3 f fd ["_law_draw", "_law_many", "_law_keys", "_law_calls"] (spM c 4 m_law_step) := by
 subst hw
 exact fn_m F sc_law_step fun cdv A outer s H E hr tk => ss_cons (s_set (i := 4) sc_law_step.nd rfl (.inl rfl) (m_c q_law_take_2 tk hr (by decide) (by rfl) (a_cons (m_var (pv 0)) (a_cons (m_int) (a_nil))) (la_cons (la_cons (la_nil)))))
  (ss_cons (s_if (t_cmp op_lt c_lt (nomark _) (m_var (pv 4)) (m_int))
  (ss_one (s_ret (m_tup c_tup (a_cons (m_str) (a_cons (m_c q_law_pick_2 tk hr (by decide) (by rfl) (a_cons (m_var (pv 0)) (a_cons (m_var (pv 2)) (a_nil))) (la_cons (la_cons (la_nil)))) (a_cons (m_c q_law_number_1 tk hr (by decide) (by rfl) (a_cons (m_var (pv 0)) (a_nil)) (la_cons (la_nil))) (a_nil)))))))
  (ss_nil))
  (ss_cons (s_if (t_cmp (o_eqE (hu_65 hr)) c_eqE (nomark _) (m_var (pv 4)) (m_int))
  (ss_one (s_ret (m_tup c_tup (a_cons (m_str) (a_cons (m_c q_law_pick_2 tk hr (by decide) (by rfl) (a_cons (m_var (pv 0)) (a_cons (m_var (pv 2)) (a_nil))) (la_cons (la_cons (la_nil)))) (a_nil))))))
  (ss_nil))
  (ss_cons (s_if (t_cmp (o_eqE (hu_65 hr)) c_eqE (nomark _) (m_var (pv 4)) (m_int))
  (ss_one (s_ret (m_tup c_tup (a_cons (m_str) (a_cons (m_c q_law_pick_2 tk hr (by decide) (by rfl) (a_cons (m_var (pv 0)) (a_cons (m_var (pv 2)) (a_nil))) (la_cons (la_cons (la_nil)))) (a_nil))))))
  (ss_nil))
  (ss_cons (s_if (t_cmp (o_eqE (hu_65 hr)) c_eqE (nomark _) (m_var (pv 4)) (m_int))
  (ss_one (s_ret (m_tup c_tup (a_cons (m_str) (a_cons (m_c q_law_number_1 tk hr (by decide) (by rfl) (a_cons (m_var (pv 0)) (a_nil)) (la_cons (la_nil))) (a_nil))))))
  (ss_nil))
  (ss_cons (s_if (t_cmp (o_eqE (hu_65 hr)) c_eqE (nomark _) (m_var (pv 4)) (m_int))
  (ss_one (s_ret (m_tup c_tup (a_cons (m_str) (a_nil)))))
  (ss_nil))
  (ss_cons (s_if (t_cmp (o_eqE (hu_65 hr)) c_eqE (nomark _) (m_var (pv 4)) (m_int))
  (ss_one (s_ret (m_tup c_tup (a_cons (m_str) (a_nil)))))
  (ss_nil))
  (ss_cons (s_if (t_cmp (o_eqE (hu_65 hr)) c_eqE (nomark _) (m_var (pv 4)) (m_int))
  (ss_one (s_ret (m_tup c_tup (a_cons (m_str) (a_cons (m_c q_law_take_2 tk hr (by decide) (by rfl) (a_cons (m_var (pv 0)) (a_cons (m_var (pv 1)) (a_nil))) (la_cons (la_cons (la_nil)))) (a_nil))))))
  (ss_nil))
  (ss_cons (s_if (t_cmp (o_eqE (hu_65 hr)) c_eqE (nomark _) (m_var (pv 4)) (m_int))
  (ss_one (s_ret (m_tup c_tup (a_cons (m_str) (a_nil)))))
  (ss_nil))
  (ss_cons (s_if (t_cmp (o_eqE (hu_65 hr)) c_eqE (nomark _) (m_var (pv 3)) (m_lst c_lst (a_nil)))
  (ss_one (s_ret (m_tup c_tup (a_cons (m_str) (a_cons (m_int) (a_nil))))))
  (ss_nil))
  (ss_cons (s_asg (m_c q_law_pick_2 tk hr (by decide) (by rfl) (a_cons (m_var (pv 0)) (a_cons (m_var (pv 3)) (a_nil))) (la_cons (la_cons (la_nil)))) (g_tup rfl (gs_cons (g_var (i := 5) sc_law_step.nd rfl (.inl rfl)) (gs_cons (g_var (i := 6) sc_law_step.nd rfl (.inl rfl)) (gs_nil)))))
  (ss_one (s_ret (m_tup c_tup (a_cons (m_str) (a_cons (m_var (pv 5)) (a_cons (m_var (pv 6)) (a_cons (m_op o_add c_add (m_int) (m_c q_law_take_2 tk hr (by decide) (by rfl) (a_cons (m_var (pv 0)) (a_cons (m_c q_law_pick_2 tk hr (by decide) (by rfl) (a_cons (m_var (pv 0)) (a_cons (m_lst c_lst (a_cons (m_int) (a_cons (m_int) (a_cons (m_int) (a_nil))))) (a_nil))) (la_cons (la_cons (la_nil)))) (a_nil))) (la_cons (la_cons (la_nil))))) (a_nil))))))))))))))))))
abbrev s_law_service : Stmt := (topS 14)
theorem sc_law_service : FnScope ["_law_draw", "_law_keys", "_law_calls", "_law_many", "_law_k"] ["_law_draw", "_law_keys", "_law_calls"] (defScope s_law_service) := ⟨rfl, rfl, rfl, by decide +kernel, rfl, by decide +kernel, by decide +kernel⟩
def b_law_service : MS := seqS (setS 3 (op2 addD (cst (.int 1)) (callB (gK []) m_law_take (aCons (var 0) (aCons (callB (gK []) m_law_pick (aCons (var 0) (aCons (opN lstD (aCons (cst (.int 2)) (aCons (cst (.int 4)) (aCons (cst (.int 7)) (aCons (cst (.int 12)) (aNil)))))) (aNil))) (aNil)) (aNil))) (aNil))))
  (retS (opN tupleD (aCons (lcE (rng1M (var 3)) (gVar 4) (yesT) (callB (gK []) m_law_step (aCons (var 0) (aCons (var 3) (aCons (var 1) (aCons (var 2) (aNil))))) (aNil)) [4]) (aNil))))
def m_law_service : List D → Mo D := runF 5 3 b_law_service
theorem ok_law_service {c : MC} {P : Program} {w : World} {mg : Str → Option Value} {base : Heap} {f : Addr} {fd : FuncData} (q_law_take_2 : CalB c P w c.K mg base 1 "_law_take" 2 [] (gK []) m_law_take) (q_law_pick_2 : CalB c P w c.K mg base 2 "_law_pick" 2 [] (gK []) m_law_pick) (z_range : mg "range" = none) (q_law_step_4 : CalB c P w c.K mg base 3 "_law_step" 4 [] (gK []) m_law_step) (z_tuple : mg "tuple" = none) (hw : c.w = w) (F : L2.Fun c.K "_law_service" "_law_service" s_law_service f fd) : FnOk P w c.K mg base (L2.CX P w) 4 f fd ["_law_draw", "_law_keys", "_law_calls"] (spM c 3 m_law_service) := by
 subst hw
 exact fn_m F sc_law_service fun cdv A outer s H E hr tk => ss_cons (s_set (i := 3) sc_law_service.nd rfl (.inr rfl) (m_op o_add c_add (m_int) (m_c q_law_take_2 tk hr (by decide) (by rfl) (a_cons (m_var (pv 0)) (a_cons (m_c q_law_pick_2 tk hr (by decide) (by rfl) (a_cons (m_var (pv 0)) (a_cons (m_lst c_lst (a_cons (m_int) (a_cons (m_int) (a_cons (m_int) (a_cons (m_int) (a_nil)))))) (a_nil))) (la_cons (la_cons (la_nil)))) (a_nil))) (la_cons (la_cons (la_nil))))))
  (ss_one (s_ret (m_callTy (cl_tupleK c.K) c_tuple (by rfl) z_tuple (by decide +kernel) (a_cons (m_lc (own := [("_law_k", 4)]) (g := gVar 4) (ws := [4]) rfl sc_law_service.nd (i_rng1 (by rfl) z_range (m_var (pv 3))) (blkOk_by (N := ["_law_draw", "_law_keys", "_law_calls", "_law_many", "_law_k"]) (sc := defScope s_law_service) (by decide +kernel)) (by decide) (fun _ _ _ _ _ => g_var (i := 4) sc_law_service.nd rfl (.inl rfl)) (fun _ _ _ _ _ => q_nil) (fun _ _ _ _ _ => m_c q_law_step_4 takes0 hr (by decide) (by rfl) (a_cons (m_var (pv 0)) (a_cons (m_var (pv 3)) (a_cons (m_var (pv 1)) (a_cons (m_var (pv 2)) (a_nil))))) (la_cons (la_cons (la_cons (la_cons (la_nil))))))) (a_nil)))))
abbrev s_law_plan : Stmt := (topS 15)
theorem sc_law_plan : FnScope ["_law_draw", "_law_top", "_law_words_here", "_law_names", "_law_world", "_law_name", "_law_calls", "_law_other"] ["_law_draw", "_law_top"] (defScope s_law_plan) := ⟨rfl, rfl, rfl, by decide +kernel, rfl, by decide +kernel, by decide +kernel⟩
def b_law_plan : MS := seqS (setS 2 (callB (gK []) m_law_words (aCons (var 0) (aCons (cst (.int 14)) (aNil))) (aNil)))
  (seqS (setS 3 (slc slD (var 2) (pAt (cst (.int 2))) (pAt (op2 addD (cst (.int 3)) (callB (gK []) m_law_take (aCons (var 0) (aCons (var 1) (aNil))) (aNil))))))
  (seqS (setS 4 (newK))
  (seqS (forS (iterM (var 3)) (gVar 5)
  (seqS (setS 6 (opN lstD (aNil)))
  (seqS (forS (iterM (var 3)) (gVar 7)
  (ifS (tru (op2 neE (var 7) (var 5)))
  (setS 6 (op2 addD (var 6) (opN lstD (aCons (opN tupD (aCons (var 7) (aCons (op2 ixD (var 2) (cst (.int 8))) (aNil)))) (aCons (opN tupD (aCons (var 7) (aCons (op2 ixD (var 2) (cst (.int 9))) (aNil)))) (aCons (opN tupD (aCons (var 7) (aCons (op2 ixD (var 2) (cst (.int 13))) (aNil)))) (aNil)))))))
  (passS)))
  (seqS (asgS (dspE ([(op2 ixD (var 2) (cst (.int 8)), callB (gK []) m_law_service (aCons (var 0) (aCons (slc slD (var 2) (pNo) (pAt (cst (.int 2)))) (aCons (var 6) (aNil)))) (aNil))])) (gSubM (var 4) (var 5)))
  (ifS (tru (op2 gtI (callB (gK []) m_law_take (aCons (var 0) (aCons (cst (.int 3)) (aNil))) (aNil)) (cst (.int 0))))
  (asgS (callB (gK []) m_law_service (aCons (var 0) (aCons (slc slD (var 2) (pNo) (pAt (cst (.int 2)))) (aCons (var 6) (aNil)))) (aNil)) (gSubM (op2 ixD (var 4) (var 5)) (op2 ixD (var 2) (cst (.int 9)))))
  (passS))))))
  (retS (var 4)))))
def m_law_plan : List D → Mo D := runF 8 2 b_law_plan
theorem ok_law_plan {c : MC} {P : Program} {w : World} {mg : Str → Option Value} {base : Heap} {f : Addr} {fd : FuncData} (q_law_words_2 : CalB c P w c.K mg base 2 "_law_words" 2 [] (gK []) m_law_words) (q_law_take_2 : CalB c P w c.K mg base 1 "_law_take" 2 [] (gK []) m_law_take) (q_law_service_3 : CalB c P w c.K mg base 4 "_law_service" 3 [] (gK []) m_law_service) (hw : c.w = w) (F : L2.Fun c.K "_law_plan" "_law_plan" s_law_plan f fd) : FnOk P w c.K mg base (L2.CX P w) 5 f fd ["_law_draw", "_law_top"] (spM c 2 m_law_plan) := by
 subst hw
 exact fn_m F sc_law_plan fun cdv A outer s H E hr tk => ss_cons (s_set (i := 2) sc_law_plan.nd rfl (.inl rfl) (m_c q_law_words_2 tk hr (by decide) (by rfl) (a_cons (m_var (pv 0)) (a_cons (m_int) (a_nil))) (la_cons (la_cons (la_nil)))))
  (ss_cons (s_set (i := 3) sc_law_plan.nd rfl (.inl rfl) (m_slc o_sl c_sl (m_var (pv 2)) (o_at (m_int)) (o_at (m_op o_add c_add (m_int) (m_c q_law_take_2 tk hr (by decide) (by rfl) (a_cons (m_var (pv 0)) (a_cons (m_var (pv 1)) (a_nil))) (la_cons (la_cons (la_nil))))))))
  (ss_cons (s_set (i := 4) sc_law_plan.nd rfl (.inl rfl) (m_newK))
  (ss_cons (s_for (passes_of rfl) rfl (i_seq (m_var (pv 3))) (g_var (i := 5) sc_law_plan.nd rfl (.inl rfl))
  (ss_cons (s_set (i := 6) sc_law_plan.nd rfl (.inl rfl) (m_lst c_lst (a_nil)))
  (ss_cons (s_for (passes_of rfl) rfl (i_seq (m_var (pv 3))) (g_var (i := 7) sc_law_plan.nd rfl (.inl rfl))
  (ss_one (s_if (t_cmp (o_neE (hu_65 hr)) c_neE (nomark _) (m_var (pv 7)) (m_var (pv 5)))
  (ss_one (s_set (i := 6) sc_law_plan.nd rfl (.inl rfl) (m_op o_add c_add (m_var (pv 6)) (m_lst c_lst (a_cons (m_tup c_tup (a_cons (m_var (pv 7)) (a_cons (m_ix (o_ix (hu_65 hr)) c_ix (m_var (pv 2)) (m_int) (fun _ _ => rfl)) (a_nil)))) (a_cons (m_tup c_tup (a_cons (m_var (pv 7)) (a_cons (m_ix (o_ix (hu_65 hr)) c_ix (m_var (pv 2)) (m_int) (fun _ _ => rfl)) (a_nil)))) (a_cons (m_tup c_tup (a_cons (m_var (pv 7)) (a_cons (m_ix (o_ix (hu_65 hr)) c_ix (m_var (pv 2)) (m_int) (fun _ _ => rfl)) (a_nil)))) (a_nil))))))))
  (ss_nil))))
  (ss_cons (s_asg (m_dsp (pm_cons (m_ix (o_ix (hu_65 hr)) c_ix (m_var (pv 2)) (m_int) (fun _ _ => rfl)) (m_c q_law_service_3 tk hr (by decide) (by rfl) (a_cons (m_var (pv 0)) (a_cons (m_slc o_sl c_sl (m_var (pv 2)) (o_no) (o_at (m_int))) (a_cons (m_var (pv 6)) (a_nil)))) (la_cons (la_cons (la_cons (la_nil))))) (pm_nil))) (g_sub (W1 := W0) (W2 := W0) (hu_1 hr) (m_var (pv 4)) (m_var (pv 5))))
  (ss_one (s_if (t_cmp op_gt c_gt (nomark _) (m_c q_law_take_2 tk hr (by decide) (by rfl) (a_cons (m_var (pv 0)) (a_cons (m_int) (a_nil))) (la_cons (la_cons (la_nil)))) (m_int))
  (ss_one (s_asg (m_c q_law_service_3 tk hr (by decide) (by rfl) (a_cons (m_var (pv 0)) (a_cons (m_slc o_sl c_sl (m_var (pv 2)) (o_no) (o_at (m_int))) (a_cons (m_var (pv 6)) (a_nil)))) (la_cons (la_cons (la_cons (la_nil))))) (g_sub (W1 := W0) (W2 := W0) (hu_1 hr) (m_ix (o_ix (hu_65 hr)) c_ix (m_var (pv 4)) (m_var (pv 5)) (fun _ _ => rfl)) (m_ix (o_ix (hu_65 hr)) c_ix (m_var (pv 2)) (m_int) (fun _ _ => rfl)))))
  (ss_nil)))))))
  (ss_one (s_ret (m_var (pv 4)))))))
abbrev s_law_came_back : Stmt := (topS 16)
theorem sc_law_came_back : FnScope ["_law_pile", "_law_last", "_law_word", "_law_worth"] ["_law_pile", "_law_last"] (defScope s_law_came_back) := ⟨rfl, rfl, rfl, by decide +kernel, rfl, by decide +kernel, by decide +kernel⟩
def b_law_came_back : MS := seqS (asgS (var 1) (gTupM 2 (gsCons (gVar 2) (gsCons (gVar 3) (gsNil)))))
  (seqS (ifS (tru (op2 neE (var 2) (cst (.str "done"))))
  (seqS (exprS (mth "list" (lstMt popF) (var 0) (aNil)))
  (retS (opN tupD (aCons (cst (.str "stopped")) (aCons (cst (.int 0)) (aNil))))))
  (passS))
  (seqS (asgS (var 3) (gSubM (op2 ixD (var 0) (op1 negI (cst (.int 1)))) (cst (.str "value"))))
  (seqS (asgS (op2 addD (op2 ixD (op2 ixD (var 0) (op1 negI (cst (.int 1)))) (cst (.str "at"))) (cst (.int 1))) (gSubM (op2 ixD (var 0) (op1 negI (cst (.int 1)))) (cst (.str "at"))))
  (retS (cst .non)))))
def m_law_came_back : List D → Mo D := runF 4 2 b_law_came_back
theorem ok_law_came_back {c : MC} {P : Program} {w : World} {mg : Str → Option Value} {base : Heap} {f : Addr} {fd : FuncData} (hw : c.w = w) (F : L2.Fun c.K "_law_came_back" "_law_came_back" s_law_came_back f fd) : FnOk P w c.K mg base (L2.CX P w) 1 f fd ["_law_pile", "_law_last"] (spM c 2 m_law_came_back) := by
 subst hw
 exact fn_m F sc_law_came_back fun cdv A outer s H E hr tk => ss_cons (s_asg (m_var (pv 1)) (g_tup rfl (gs_cons (g_var (i := 2) sc_law_came_back.nd rfl (.inl rfl)) (gs_cons (g_var (i := 3) sc_law_came_back.nd rfl (.inl rfl)) (gs_nil)))))
  (ss_cons (s_if (t_cmp (o_neE (hu_65 hr)) c_neE (nomark _) (m_var (pv 2)) (m_str))
  (ss_cons (s_expr (m_mth0 PySem.F.plainAttrs_list PySem.F.slot_list_pop PySem.F.type_list_pop mt_pop c_pop (m_var (pv 0))))
  (ss_one (s_ret (m_tup c_tup (a_cons (m_str) (a_cons (m_int) (a_nil)))))))
  (ss_nil))
  (ss_cons (s_asg (m_var (pv 3)) (g_sub (W1 := W0) (W2 := W0) (hu_1 hr) (m_ix (o_ix (hu_65 hr)) c_ix (m_var (pv 0)) (m_un un_negN c_neg (m_int)) (fun _ _ => rfl)) (m_str)))
  (ss_cons (s_asg (m_op o_add c_add (m_ix (o_ix (hu_65 hr)) c_ix (m_ix (o_ix (hu_65 hr)) c_ix (m_var (pv 0)) (m_un un_negN c_neg (m_int)) (fun _ _ => rfl)) (m_str) (fun _ _ => rfl)) (m_int)) (g_sub (W1 := W0) (W2 := W0) (hu_1 hr) (m_ix (o_ix (hu_65 hr)) c_ix (m_var (pv 0)) (m_un un_negN c_neg (m_int)) (fun _ _ => rfl)) (m_str)))
  (ss_one (s_ret (m_non))))))
abbrev s_law_goes : Stmt := (topS 17)
theorem sc_law_goes : FnScope ["_law_task", "_law_store", "_law_given", "_law_step_here"] ["_law_task", "_law_store", "_law_given", "_law_step_here"] (defScope s_law_goes) := ⟨rfl, rfl, rfl, by decide +kernel, rfl, by decide +kernel, by decide +kernel⟩
def b_law_goes : MS := seqS (asgS (op2 addD (op2 ixD (var 0) (cst (.str "at"))) (cst (.int 1))) (gSubM (var 0) (cst (.str "at"))))
  (seqS (ifS (tru (op2 eqE (op2 ixD (var 3) (cst (.int 0))) (cst (.str "add"))))
  (asgS (op2 addD (getE2 (var 1) (op2 ixD (var 3) (cst (.int 1))) (cst (.int 0))) (op2 ixD (var 3) (cst (.int 2)))) (gSubM (var 1) (op2 ixD (var 3) (cst (.int 1)))))
  (passS))
  (seqS (ifS (tru (op2 eqE (op2 ixD (var 3) (cst (.int 0))) (cst (.str "put"))))
  (asgS (op2 ixD (var 0) (cst (.str "value"))) (gSubM (var 1) (op2 ixD (var 3) (cst (.int 1)))))
  (passS))
  (seqS (ifS (tru (op2 eqE (op2 ixD (var 3) (cst (.int 0))) (cst (.str "load"))))
  (asgS (getE2 (var 1) (op2 ixD (var 3) (cst (.int 1))) (cst (.int 0))) (gSubM (var 0) (cst (.str "value"))))
  (passS))
  (seqS (ifS (tru (op2 eqE (op2 ixD (var 3) (cst (.int 0))) (cst (.str "plus"))))
  (asgS (op2 addD (op2 ixD (var 0) (cst (.str "value"))) (op2 ixD (var 3) (cst (.int 1)))) (gSubM (var 0) (cst (.str "value"))))
  (passS))
  (seqS (ifS (tru (op2 eqE (op2 ixD (var 3) (cst (.int 0))) (cst (.str "take"))))
  (seqS (asgS (cst (.int 0)) (gSubM (var 0) (cst (.str "value"))))
  (ifS (tru (op2 neE (op2 ixD (var 0) (cst (.str "pieces"))) (opN lstD (aNil))))
  (asgS (mth "list" (lstMt popAtF) (op2 ixD (var 0) (cst (.str "pieces"))) (aCons (cst (.int 0)) (aNil))) (gSubM (var 0) (cst (.str "value"))))
  (passS)))
  (passS))
  (seqS (ifS (tru (op2 eqE (op2 ixD (var 3) (cst (.int 0))) (cst (.str "give"))))
  (exprS (mth "list" (lstMt appF) (var 2) (aCons (op2 ixD (var 0) (cst (.str "value"))) (aNil))))
  (passS))
  (seqS (ifS (andT (tru (op2 eqE (op2 ixD (var 3) (cst (.int 0))) (cst (.str "more")))) (tru (op2 neE (op2 ixD (var 0) (cst (.str "pieces"))) (opN lstD (aNil)))))
  (asgS (op2 ixD (var 3) (cst (.int 1))) (gSubM (var 0) (cst (.str "at"))))
  (passS))
  (ifS (tru (op2 eqE (op2 ixD (var 3) (cst (.int 0))) (cst (.str "done"))))
  (asgS (cst (.int 99)) (gSubM (var 0) (cst (.str "at"))))
  (passS)))))))))
def m_law_goes : List D → Mo D := runF 4 4 b_law_goes
theorem ok_law_goes {c : MC} {P : Program} {w : World} {mg : Str → Option Value} {base : Heap} {f : Addr} {fd : FuncData} (hw : c.w = w) (F : L2.Fun c.K "_law_goes" "_law_goes" s_law_goes f fd) : FnOk P w c.K mg base (L2.CX P w) 1 f fd ["_law_task", "_law_store", "_law_given", "_law_step_here"] (spM c 4 m_law_goes) := by
 subst hw
 exact fn_m F sc_law_goes fun cdv A outer s H E hr tk => ss_cons (s_asg (m_op o_add c_add (m_ix (o_ix (hu_65 hr)) c_ix (m_var (pv 0)) (m_str) (fun _ _ => rfl)) (m_int)) (g_sub (W1 := W0) (W2 := W0) (hu_1 hr) (m_var (pv 0)) (m_str)))
  (ss_cons (s_if (t_cmp (o_eqE (hu_65 hr)) c_eqE (nomark _) (m_ix (o_ix (hu_65 hr)) c_ix (m_var (pv 3)) (m_int) (fun _ _ => rfl)) (m_str))
  (ss_one (s_asg (m_op o_add c_add (m_get2 (hu_1 hr) (m_var (pv 1)) (m_ix (o_ix (hu_65 hr)) c_ix (m_var (pv 3)) (m_int) (fun _ _ => rfl)) (m_int) ⟨rfl, rfl, rfl, rfl⟩) (m_ix (o_ix (hu_65 hr)) c_ix (m_var (pv 3)) (m_int) (fun _ _ => rfl))) (g_sub (W1 := W0) (W2 := W0) (hu_1 hr) (m_var (pv 1)) (m_ix (o_ix (hu_65 hr)) c_ix (m_var (pv 3)) (m_int) (fun _ _ => rfl)))))
  (ss_nil))
  (ss_cons (s_if (t_cmp (o_eqE (hu_65 hr)) c_eqE (nomark _) (m_ix (o_ix (hu_65 hr)) c_ix (m_var (pv 3)) (m_int) (fun _ _ => rfl)) (m_str))
  (ss_one (s_asg (m_ix (o_ix (hu_65 hr)) c_ix (m_var (pv 0)) (m_str) (fun _ _ => rfl)) (g_sub (W1 := W0) (W2 := W0) (hu_1 hr) (m_var (pv 1)) (m_ix (o_ix (hu_65 hr)) c_ix (m_var (pv 3)) (m_int) (fun _ _ => rfl)))))
  (ss_nil))
  (ss_cons (s_if (t_cmp (o_eqE (hu_65 hr)) c_eqE (nomark _) (m_ix (o_ix (hu_65 hr)) c_ix (m_var (pv 3)) (m_int) (fun _ _ => rfl)) (m_str))
  (ss_one (s_asg (m_get2 (hu_1 hr) (m_var (pv 1)) (m_ix (o_ix (hu_65 hr)) c_ix (m_var (pv 3)) (m_int) (fun _ _ => rfl)) (m_int) ⟨rfl, rfl, rfl, rfl⟩) (g_sub (W1 := W0) (W2 := W0) (hu_1 hr) (m_var (pv 0)) (m_str))))
  (ss_nil))
  (ss_cons (s_if (t_cmp (o_eqE (hu_65 hr)) c_eqE (nomark _) (m_ix (o_ix (hu_65 hr)) c_ix (m_var (pv 3)) (m_int) (fun _ _ => rfl)) (m_str))
  (ss_one (s_asg (m_op o_add c_add (m_ix (o_ix (hu_65 hr)) c_ix (m_var (pv 0)) (m_str) (fun _ _ => rfl)) (m_ix (o_ix (hu_65 hr)) c_ix (m_var (pv 3)) (m_int) (fun _ _ => rfl))) (g_sub (W1 := W0) (W2 := W0) (hu_1 hr) (m_var (pv 0)) (m_str))))
  (ss_nil))
  (ss_cons (s_if (t_cmp (o_eqE (hu_65 hr)) c_eqE (nomark _) (m_ix (o_ix (hu_65 hr)) c_ix (m_var (pv 3)) (m_int) (fun _ _ => rfl)) (m_str))
  (ss_cons (s_asg (m_int) (g_sub (W1 := W0) (W2 := W0) (hu_1 hr) (m_var (pv 0)) (m_str)))
  (ss_one (s_if (t_cmp (o_neE (hu_65 hr)) c_neE (nomark _) (m_ix (o_ix (hu_65 hr)) c_ix (m_var (pv 0)) (m_str) (fun _ _ => rfl)) (m_lst c_lst (a_nil)))
  (ss_one (s_asg (m_mth PySem.F.plainAttrs_list PySem.F.slot_list_pop PySem.F.type_list_pop mt_popAt c_popAt (m_ix (o_ix (hu_65 hr)) c_ix (m_var (pv 0)) (m_str) (fun _ _ => rfl)) (a_cons (m_int) (a_nil))) (g_sub (W1 := W0) (W2 := W0) (hu_1 hr) (m_var (pv 0)) (m_str))))
  (ss_nil))))
  (ss_nil))
  (ss_cons (s_if (t_cmp (o_eqE (hu_65 hr)) c_eqE (nomark _) (m_ix (o_ix (hu_65 hr)) c_ix (m_var (pv 3)) (m_int) (fun _ _ => rfl)) (m_str))
  (ss_one (s_expr (m_mth PySem.F.plainAttrs_list PySem.F.slot_list_append PySem.F.type_list_append mt_append c_append (m_var (pv 2)) (a_cons (m_ix (o_ix (hu_65 hr)) c_ix (m_var (pv 0)) (m_str) (fun _ _ => rfl)) (a_nil)))))
  (ss_nil))
  (ss_cons (s_if ((w_and (t_cmp (o_eqE (hu_65 hr)) c_eqE (nomark _) (m_ix (o_ix (hu_65 hr)) c_ix (m_var (pv 3)) (m_int) (fun _ _ => rfl)) (m_str)) (w_one (t_cmp (o_neE (hu_65 hr)) c_neE (nomark _) (m_ix (o_ix (hu_65 hr)) c_ix (m_var (pv 0)) (m_str) (fun _ _ => rfl)) (m_lst c_lst (a_nil))))).pt)
  (ss_one (s_asg (m_ix (o_ix (hu_65 hr)) c_ix (m_var (pv 3)) (m_int) (fun _ _ => rfl)) (g_sub (W1 := W0) (W2 := W0) (hu_1 hr) (m_var (pv 0)) (m_str))))
  (ss_nil))
  (ss_one (s_if (t_cmp (o_eqE (hu_65 hr)) c_eqE (nomark _) (m_ix (o_ix (hu_65 hr)) c_ix (m_var (pv 3)) (m_int) (fun _ _ => rfl)) (m_str))
  (ss_one (s_asg (m_int) (g_sub (W1 := W0) (W2 := W0) (hu_1 hr) (m_var (pv 0)) (m_str))))
  (ss_nil))))))))))
abbrev s_law_plain : Stmt := (topS 18)
theorem sc_law_plain : FnScope ["_law_world", "_law_root", "_law_long", "_law_stores", "_law_name", "_law_pile", "_law_given", "_law_last", "_law_left", "_law_fresh", "_law_pieces", "_law_steps", "_law_task", "_law_step_here"] ["_law_world", "_law_root", "_law_long"] (defScope s_law_plain) := ⟨rfl, rfl, rfl, by decide +kernel, rfl, by decide +kernel, by decide +kernel⟩
def b_law_plain : MS := seqS (setS 3 (newK))
  (seqS (lkS (var 0) (forS (keysM (var 0)) (gVar 4)
  (asgS (newK) (gSubM (var 3) (var 4)))))
  (seqS (asgS (opN tupD (aCons (opN lstD (aNil)) (aCons (opN lstD (aNil)) (aCons (cst .non) (aCons (var 2) (aCons (slc slD (var 1) (pNo) (pAt (cst (.int 3)))) (aNil))))))) (gTupM 5 (gsCons (gVar 5) (gsCons (gVar 6) (gsCons (gVar 7) (gsCons (gVar 8) (gsCons (gVar 9) (gsNil))))))))
  (seqS (whileS (orT (tru (op2 niN (var 9) (cst .non))) (tru (op2 neE (var 5) (opN lstD (aNil)))))
  (seqS (ifS (tru (op2 niN (var 9) (cst .non)))
  (seqS (ifS (tru (op2 inD (op2 ixD (var 9) (cst (.int 1))) (op2 ixD (var 0) (op2 ixD (var 9) (cst (.int 0))))))
  (seqS (setS 10 (ifE (tru (op2 eqE (var 5) (opN lstD (aNil)))) (opN listE (aCons (op2 ixD (var 1) (cst (.int 3))) (aNil))) (opN lstD (aNil))))
  (seqS (setS 11 (op2 ixD (op2 ixD (var 0) (op2 ixD (var 9) (cst (.int 0)))) (op2 ixD (var 9) (cst (.int 1)))))
  (exprS (mth "list" (lstMt appF) (var 5) (aCons (dspE ((cst (.str "home"), op2 ixD (var 9) (cst (.int 0))) :: (cst (.str "steps"), var 11) :: (cst (.str "value"), op2 ixD (var 9) (cst (.int 2))) :: (cst (.str "at"), cst (.int 0)) :: [(cst (.str "pieces"), var 10)])) (aNil))))))
  (setS 7 (opN tupD (aCons (cst (.str "never")) (aCons (cst (.int 0)) (aNil))))))
  (seqS (setS 9 (cst .non))
  (ctnS)))
  (passS))
  (seqS (setS 12 (op2 ixD (var 5) (op1 negI (cst (.int 1)))))
  (ifS (tru (op2 niN (var 7) (cst .non)))
  (setS 7 (callB (gK []) m_law_came_back (aCons (var 5) (aCons (var 7) (aNil))) (aNil)))
  (ifS (tru (op2 geI (op2 ixD (var 12) (cst (.str "at"))) (opN lenD (aCons (op2 ixD (var 12) (cst (.str "steps"))) (aNil)))))
  (seqS (exprS (mth "list" (lstMt popF) (var 5) (aNil)))
  (setS 7 (opN tupD (aCons (cst (.str "done")) (aCons (op2 ixD (var 12) (cst (.str "value"))) (aNil))))))
  (ifS (tru (op2 eqE (var 8) (cst (.int 0))))
  (retS (opN tupD (aCons (cst (.str "late")) (aCons (cst (.int 0)) (aCons (opN tupleD (aCons (var 6) (aNil))) (aCons (var 3) (aNil)))))))
  (seqS (setS 8 (op2 subI (var 8) (cst (.int 1))))
  (seqS (setS 13 (op2 ixD (op2 ixD (var 12) (cst (.str "steps"))) (op2 ixD (var 12) (cst (.str "at")))))
  (ifS (tru (op2 eqE (op2 ixD (var 13) (cst (.int 0))) (cst (.str "call"))))
  (setS 9 (opN tupD (aCons (op2 ixD (var 13) (cst (.int 1))) (aCons (op2 ixD (var 13) (cst (.int 2))) (aCons (op2 ixD (var 12) (cst (.str "value"))) (aNil))))))
  (exprS (callB (gK []) m_law_goes (aCons (var 12) (aCons (op2 ixD (var 3) (op2 ixD (var 12) (cst (.str "home")))) (aCons (ifE (tru (op2 eqE (opN lenD (aCons (var 5) (aNil))) (cst (.int 1)))) (var 6) (opN lstD (aNil))) (aCons (var 13) (aNil))))) (aNil))))))))))))
  (retS (opN tupD (aCons (op2 ixD (var 7) (cst (.int 0))) (aCons (op2 ixD (var 7) (cst (.int 1))) (aCons (opN tupleD (aCons (var 6) (aNil))) (aCons (var 3) (aNil))))))))))
def m_law_plain : List D → Mo D := runF 14 3 b_law_plain
theorem ok_law_plain {c : MC} {P : Program} {w : World} {mg : Str → Option Value} {base : Heap} {f : Addr} {fd : FuncData} (z_list : mg "list" = none) (q_law_came_back_2 : CalB c P w c.K mg base 1 "_law_came_back" 2 [] (gK []) m_law_came_back) (z_len : mg "len" = none) (z_tuple : mg "tuple" = none) (q_law_goes_4 : CalB c P w c.K mg base 1 "_law_goes" 4 [] (gK []) m_law_goes) (hw : c.w = w) (F : L2.Fun c.K "_law_plain" "_law_plain" s_law_plain f fd) : FnOk P w c.K mg base (L2.CX P w) 2 f fd ["_law_world", "_law_root", "_law_long"] (spM c 3 m_law_plain) := by
 subst hw
 exact fn_m F sc_law_plain fun cdv A outer s H E hr tk => ss_cons (s_set (i := 3) sc_law_plain.nd rfl (.inl rfl) (m_newK))
  (ss_cons (s_lk (m := var 0) (s_for (passes_of rfl) rfl (i_keys (m_var (pv 0))) (g_var (i := 4) sc_law_plain.nd rfl (.inl rfl))
  (ss_one (s_asg (m_newK) (g_sub (W1 := W0) (W2 := W0) (hu_1 hr) (m_var (pv 3)) (m_var (pv 4)))))))
  (ss_cons (s_asg (m_tup c_tup (a_cons (m_lst c_lst (a_nil)) (a_cons (m_lst c_lst (a_nil)) (a_cons (m_non) (a_cons (m_var (pv 2)) (a_cons (m_slc o_sl c_sl (m_var (pv 1)) (o_no) (o_at (m_int))) (a_nil))))))) (g_tup rfl (gs_cons (g_var (i := 5) sc_law_plain.nd rfl (.inl rfl)) (gs_cons (g_var (i := 6) sc_law_plain.nd rfl (.inl rfl)) (gs_cons (g_var (i := 7) sc_law_plain.nd rfl (.inl rfl)) (gs_cons (g_var (i := 8) sc_law_plain.nd rfl (.inl rfl)) (gs_cons (g_var (i := 9) sc_law_plain.nd rfl (.inl rfl)) (gs_nil))))))))
  (ss_cons (s_while (passes_of rfl) ((w_or (t_cmp o_isnot c_isnot (nomark _) (m_var (pv 9)) (m_non)) (w_one (t_cmp (o_neE (hu_65 hr)) c_neE (nomark _) (m_var (pv 5)) (m_lst c_lst (a_nil))))).pt)
  (ss_cons (s_if (t_cmp o_isnot c_isnot (nomark _) (m_var (pv 9)) (m_non))
  (ss_cons (s_if (t_cmp (o_in (hu_65 hr)) c_in rfl (m_ix (o_ix (hu_65 hr)) c_ix (m_var (pv 9)) (m_int) (fun _ _ => rfl)) (m_ix (o_ix (hu_65 hr)) c_ix (m_var (pv 0)) (m_ix (o_ix (hu_65 hr)) c_ix (m_var (pv 9)) (m_int) (fun _ _ => rfl)) (fun _ _ => rfl)))
  (ss_cons (s_set (i := 10) sc_law_plain.nd rfl (.inl rfl) (m_if (t_cmp (o_eqE (hu_65 hr)) c_eqE (nomark _) (m_var (pv 5)) (m_lst c_lst (a_nil))) (m_callTy (o_listE rfl) c_listE (by rfl) z_list (by decide +kernel) (a_cons (m_ix (o_ix (hu_65 hr)) c_ix (m_var (pv 1)) (m_int) (fun _ _ => rfl)) (a_nil))) (m_lst c_lst (a_nil))))
  (ss_cons (s_set (i := 11) sc_law_plain.nd rfl (.inl rfl) (m_ix (o_ix (hu_65 hr)) c_ix (m_ix (o_ix (hu_65 hr)) c_ix (m_var (pv 0)) (m_ix (o_ix (hu_65 hr)) c_ix (m_var (pv 9)) (m_int) (fun _ _ => rfl)) (fun _ _ => rfl)) (m_ix (o_ix (hu_65 hr)) c_ix (m_var (pv 9)) (m_int) (fun _ _ => rfl)) (fun _ _ => rfl)))
  (ss_one (s_expr (m_mth PySem.F.plainAttrs_list PySem.F.slot_list_append PySem.F.type_list_append mt_append c_append (m_var (pv 5)) (a_cons (m_dsp (pm_cons (m_str) (m_ix (o_ix (hu_65 hr)) c_ix (m_var (pv 9)) (m_int) (fun _ _ => rfl)) (pm_cons (m_str) (m_var (pv 11)) (pm_cons (m_str) (m_ix (o_ix (hu_65 hr)) c_ix (m_var (pv 9)) (m_int) (fun _ _ => rfl)) (pm_cons (m_str) (m_int) (pm_cons (m_str) (m_var (pv 10)) (pm_nil))))))) (a_nil)))))))
  (ss_one (s_set (i := 7) sc_law_plain.nd rfl (.inl rfl) (m_tup c_tup (a_cons (m_str) (a_cons (m_int) (a_nil)))))))
  (ss_cons (s_set (i := 9) sc_law_plain.nd rfl (.inl rfl) (m_non))
  (ss_one (s_ctn))))
  (ss_nil))
  (ss_cons (s_set (i := 12) sc_law_plain.nd rfl (.inl rfl) (m_ix (o_ix (hu_65 hr)) c_ix (m_var (pv 5)) (m_un un_negN c_neg (m_int)) (fun _ _ => rfl)))
  (ss_one (s_if (t_cmp o_isnot c_isnot (nomark _) (m_var (pv 7)) (m_non))
  (ss_one (s_set (i := 7) sc_law_plain.nd rfl (.inl rfl) (m_c q_law_came_back_2 tk hr (by decide) (by rfl) (a_cons (m_var (pv 5)) (a_cons (m_var (pv 7)) (a_nil))) (la_cons (la_cons (la_nil))))))
  (ss_one (s_if (t_cmp op_ge c_ge (nomark _) (m_ix (o_ix (hu_65 hr)) c_ix (m_var (pv 12)) (m_str) (fun _ _ => rfl)) (m_callB o_len c_len (by rfl) z_len (by decide +kernel) (a_cons (m_ix (o_ix (hu_65 hr)) c_ix (m_var (pv 12)) (m_str) (fun _ _ => rfl)) (a_nil))))
  (ss_cons (s_expr (m_mth0 PySem.F.plainAttrs_list PySem.F.slot_list_pop PySem.F.type_list_pop mt_pop c_pop (m_var (pv 5))))
  (ss_one (s_set (i := 7) sc_law_plain.nd rfl (.inl rfl) (m_tup c_tup (a_cons (m_str) (a_cons (m_ix (o_ix (hu_65 hr)) c_ix (m_var (pv 12)) (m_str) (fun _ _ => rfl)) (a_nil)))))))
  (ss_one (s_if (t_cmp (o_eqE (hu_65 hr)) c_eqE (nomark _) (m_var (pv 8)) (m_int))
  (ss_one (s_ret (m_tup c_tup (a_cons (m_str) (a_cons (m_int) (a_cons (m_callTy (cl_tupleK c.K) c_tuple (by rfl) z_tuple (by decide +kernel) (a_cons (m_var (pv 6)) (a_nil))) (a_cons (m_var (pv 3)) (a_nil))))))))
  (ss_cons (s_set (i := 8) sc_law_plain.nd rfl (.inl rfl) (m_op op_sub c_sub (m_var (pv 8)) (m_int)))
  (ss_cons (s_set (i := 13) sc_law_plain.nd rfl (.inl rfl) (m_ix (o_ix (hu_65 hr)) c_ix (m_ix (o_ix (hu_65 hr)) c_ix (m_var (pv 12)) (m_str) (fun _ _ => rfl)) (m_ix (o_ix (hu_65 hr)) c_ix (m_var (pv 12)) (m_str) (fun _ _ => rfl)) (fun _ _ => rfl)))
  (ss_one (s_if (t_cmp (o_eqE (hu_65 hr)) c_eqE (nomark _) (m_ix (o_ix (hu_65 hr)) c_ix (m_var (pv 13)) (m_int) (fun _ _ => rfl)) (m_str))
  (ss_one (s_set (i := 9) sc_law_plain.nd rfl (.inl rfl) (m_tup c_tup (a_cons (m_ix (o_ix (hu_65 hr)) c_ix (m_var (pv 13)) (m_int) (fun _ _ => rfl)) (a_cons (m_ix (o_ix (hu_65 hr)) c_ix (m_var (pv 13)) (m_int) (fun _ _ => rfl)) (a_cons (m_ix (o_ix (hu_65 hr)) c_ix (m_var (pv 12)) (m_str) (fun _ _ => rfl)) (a_nil)))))))
  (ss_one (s_expr (m_c q_law_goes_4 tk hr (by decide) (by rfl) (a_cons (m_var (pv 12)) (a_cons (m_ix (o_ix (hu_65 hr)) c_ix (m_var (pv 3)) (m_ix (o_ix (hu_65 hr)) c_ix (m_var (pv 12)) (m_str) (fun _ _ => rfl)) (fun _ _ => rfl)) (a_cons (m_if (t_cmp (o_eqE (hu_65 hr)) c_eqE (nomark _) (m_callB o_len c_len (by rfl) z_len (by decide +kernel) (a_cons (m_var (pv 5)) (a_nil))) (m_int)) (m_var (pv 6)) (m_lst c_lst (a_nil))) (a_cons (m_var (pv 13)) (a_nil))))) (la_cons (la_cons (la_cons (la_cons (la_nil)))))))))))))))))))))
  (ss_one (s_ret (m_tup c_tup (a_cons (m_ix (o_ix (hu_65 hr)) c_ix (m_var (pv 7)) (m_int) (fun _ _ => rfl)) (a_cons (m_ix (o_ix (hu_65 hr)) c_ix (m_var (pv 7)) (m_int) (fun _ _ => rfl)) (a_cons (m_callTy (cl_tupleK c.K) c_tuple (by rfl) z_tuple (by decide +kernel) (a_cons (m_var (pv 6)) (a_nil))) (a_cons (m_var (pv 3)) (a_nil)))))))))))
end M
namespace M
open PySem PySem.Spec PyProof.Rows L2 G
abbrev s_law : Stmt := (topS 19)
theorem sc_law : FnScope ["_law_script", "_law_draw", "_law_world", "_law_turn", "_law_root", "_law_some", "_law_pieces", "_law_long", "_law_copy", "_law_due", "_law_found", "_law_again", "_law_k"] ["_law_script"] (defScope s_law) := ⟨rfl, rfl, rfl, by decide +kernel, rfl, by decide +kernel, by decide +kernel⟩
def b_law : MS := seqS (setS 1 (callB (gK []) m_law_begun (aCons (var 0) (aNil)) (aNil)))
  (seqS (setS 2 (callB (gK []) m_law_plan (aCons (var 1) (aCons (cst (.int 4)) (aNil))) (aNil)))
  (seqS (forS (rng1M (cst (.int 4))) (gVar 3)
  (seqS (setS 4 (opN tupD (aCons (callB (gK []) m_law_pick (aCons (var 1) (aCons (opN sortA (aCons (var 2) (aNil))) (aNil))) (aNil)) (aCons (cst (.str "nobody")) (aCons (callB (gK []) m_law_number (aCons (var 1) (aNil)) (aNil)) (aNil))))))
  (seqS (setS 5 (opN sortA (aCons (op2 ixD (var 2) (op2 ixD (var 4) (cst (.int 0)))) (aNil))))
  (seqS (ifS (tru (op2 gtI (callB (gK []) m_law_take (aCons (var 1) (aCons (cst (.int 8)) (aNil))) (aNil)) (cst (.int 0))))
  (setS 4 (opN tupD (aCons (op2 ixD (var 4) (cst (.int 0))) (aCons (callB (gK []) m_law_pick (aCons (var 1) (aCons (var 5) (aNil))) (aNil)) (aCons (op2 ixD (var 4) (cst (.int 2))) (aNil))))))
  (passS))
  (seqS (setS 6 (lcE (rng1M (callB (gK []) m_law_take (aCons (var 1) (aCons (cst (.int 7)) (aNil))) (aNil))) (gVar 12) (yesT) (callB (gK []) m_law_number (aCons (var 1) (aNil)) (aNil)) [12]))
  (seqS (setS 7 (callB (gK []) m_law_take (aCons (var 1) (aCons (callB (gK []) m_law_pick (aCons (var 1) (aCons (opN lstD (aCons (cst (.int 4)) (aCons (cst (.int 40)) (aCons (cst (.int 120)) (aNil))))) (aNil))) (aNil)) (aNil))) (aNil)))
  (seqS (setS 8 (opN reprD (aCons (var 2) (aNil))))
  (seqS (setS 9 (callB (gK []) m_law_plain (aCons (var 2) (aCons (op2 addD (var 4) (opN tupD (aCons (var 6) (aNil)))) (aCons (var 7) (aNil)))) (aNil)))
  (seqS (setS 10 (callB (gKD [.kt []] [0]) m_plain (aCons (var 2) (aCons (op2 ixD (var 4) (cst (.int 0))) (aCons (op2 ixD (var 4) (cst (.int 1))) (aCons (op2 ixD (var 4) (cst (.int 2))) (aCons (opN tupleD (aCons (var 6) (aNil))) (aNil)))))) (aCons (var 7) (aNil))))
  (seqS (ifS (orT (notT (tru (op1 (isiD ["tuple"] ["int", "NoneType", "bool", "str", "list", "dict"]) (var 10)))) (orT (tru (op2 neX (var 10) (var 9))) (tru (op2 neE (opN reprD (aCons (var 2) (aNil))) (var 8)))))
  (retS (cst (.bl false)))
  (passS))
  (seqS (ifS (andT (tru (op2 neE (op2 ixD (var 10) (cst (.int 0))) (cst (.str "late")))) (tru (op2 neX (callB (gKD [.kt [], .int 300] [1]) m_plain (aCons (var 2) (aCons (op2 ixD (var 4) (cst (.int 0))) (aCons (op2 ixD (var 4) (cst (.int 1))) (aCons (op2 ixD (var 4) (cst (.int 2))) (aCons (opN listE (aCons (var 6) (aNil))) (aNil)))))) (aNil)) (var 9))))
  (retS (cst (.bl false)))
  (passS))
  (seqS (setS 11 (callB (gKD [.kt []] [2, 4, 3, 1, 5, 0]) m_plain (aNil) (aCons (var 7) (aCons (op2 ixD (var 4) (cst (.int 2))) (aCons (var 2) (aCons (op2 ixD (var 4) (cst (.int 1))) (aCons (op2 ixD (var 4) (cst (.int 0))) (aNil))))))))
  (ifS (andT (tru (op2 eqE (var 6) (opN lstD (aNil)))) (tru (op2 neX (var 11) (var 9))))
  (retS (cst (.bl false)))
  (passS))))))))))))))
  (retS (cst (.bl true)))))
def m_law : List D → Mo D := runF 13 1 b_law
theorem ok_law {c : MC} {P : Program} {w : World} {mg : Str → Option Value} {base : Heap} {f : Addr} {fd : FuncData} (q_law_begun_1 : CalB c P w c.K mg base 1 "_law_begun" 1 [] (gK []) m_law_begun) (q_law_plan_2 : CalB c P w c.K mg base 5 "_law_plan" 2 [] (gK []) m_law_plan) (z_range : mg "range" = none) (q_law_pick_2 : CalB c P w c.K mg base 2 "_law_pick" 2 [] (gK []) m_law_pick) (z_sorted : mg "sorted" = none) (q_law_number_1 : CalB c P w c.K mg base 2 "_law_number" 1 [] (gK []) m_law_number) (q_law_take_2 : CalB c P w c.K mg base 1 "_law_take" 2 [] (gK []) m_law_take) (z_repr : mg "repr" = none) (q_law_plain_3 : CalB c P w c.K mg base 2 "_law_plain" 3 [] (gK []) m_law_plain) (q_plain_5_most : CalB c P w c.K mg base 5 "plain" 5 ["most"] (gKD [.kt []] [0]) m_plain) (z_tuple : mg "tuple" = none) (z_isinstance : mg "isinstance" = none) (q_plain_5 : CalB c P w c.K mg base 5 "plain" 5 [] (gKD [.kt [], .int 300] [1]) m_plain) (z_list : mg "list" = none) (q_plain_0_most_value_plan_service_house : CalB c P w c.K mg base 5 "plain" 0 ["most", "value", "plan", "service", "house"] (gKD [.kt []] [2, 4, 3, 1, 5, 0]) m_plain) (hw : c.w = w) (F : L2.Fun c.K "law" "law" s_law f fd) : FnG P w c.K mg base (L2.CX P w) 6 f fd ["_law_script"] (spM c 1 m_law) := by
 subst hw
 exact fn_mG F sc_law fun cdv A outer s H E hr hg tk => ss_cons (s_set (i := 1) sc_law.nd rfl (.inr rfl) (m_c q_law_begun_1 tk hr (by decide) (by rfl) (a_cons (m_var (pv 0)) (a_nil)) (la_cons (la_nil))))
  (ss_cons (s_set (i := 2) sc_law.nd rfl (.inl rfl) (m_c q_law_plan_2 tk hr (by decide) (by rfl) (a_cons (m_var (pv 1)) (a_cons (m_int) (a_nil))) (la_cons (la_cons (la_nil)))))
  (ss_cons (s_for (passes_of rfl) rfl (i_rng1 (by rfl) z_range (m_int)) (g_var (i := 3) sc_law.nd rfl (.inl rfl))
  (ss_cons (s_set (i := 4) sc_law.nd rfl (.inl rfl) (m_tup c_tup (a_cons (m_c q_law_pick_2 tk hr (by decide) (by rfl) (a_cons (m_var (pv 1)) (a_cons (m_callB (o_sortA rfl) c_sortA (by rfl) z_sorted (by decide +kernel) (a_cons (m_var (pv 2)) (a_nil))) (a_nil))) (la_cons (la_cons (la_nil)))) (a_cons (m_str) (a_cons (m_c q_law_number_1 tk hr (by decide) (by rfl) (a_cons (m_var (pv 1)) (a_nil)) (la_cons (la_nil))) (a_nil))))))
  (ss_cons (s_set (i := 5) sc_law.nd rfl (.inl rfl) (m_callB (o_sortA rfl) c_sortA (by rfl) z_sorted (by decide +kernel) (a_cons (m_ix (o_ix (hu_65 hr)) c_ix (m_var (pv 2)) (m_ix (o_ix (hu_65 hr)) c_ix (m_var (pv 4)) (m_int) (fun _ _ => rfl)) (fun _ _ => rfl)) (a_nil))))
  (ss_cons (s_if (t_cmp op_gt c_gt (nomark _) (m_c q_law_take_2 tk hr (by decide) (by rfl) (a_cons (m_var (pv 1)) (a_cons (m_int) (a_nil))) (la_cons (la_cons (la_nil)))) (m_int))
  (ss_one (s_set (i := 4) sc_law.nd rfl (.inl rfl) (m_tup c_tup (a_cons (m_ix (o_ix (hu_65 hr)) c_ix (m_var (pv 4)) (m_int) (fun _ _ => rfl)) (a_cons (m_c q_law_pick_2 tk hr (by decide) (by rfl) (a_cons (m_var (pv 1)) (a_cons (m_var (pv 5)) (a_nil))) (la_cons (la_cons (la_nil)))) (a_cons (m_ix (o_ix (hu_65 hr)) c_ix (m_var (pv 4)) (m_int) (fun _ _ => rfl)) (a_nil)))))))
  (ss_nil))
  (ss_cons (s_setLc (i := 6) (own := [("_law_k", 12)]) (g := gVar 12) (ws := [12]) rfl sc_law.nd rfl rfl (sw_true rfl rfl rfl (by decide +kernel)) (i_rng1 (by rfl) z_range (m_c q_law_take_2 tk hr (by decide) (by rfl) (a_cons (m_var (pv 1)) (a_cons (m_int) (a_nil))) (la_cons (la_cons (la_nil))))) (blkOk_by (N := ["_law_script", "_law_draw", "_law_world", "_law_turn", "_law_root", "_law_some", "_law_pieces", "_law_long", "_law_copy", "_law_due", "_law_found", "_law_again", "_law_k"]) (sc := defScope s_law) (by decide +kernel)) (by decide) (fun _ _ _ _ _ => g_var (i := 12) sc_law.nd rfl (.inl rfl)) (fun _ _ _ _ _ => q_nil) (fun _ _ _ _ _ => m_c q_law_number_1 takes0 hr (by decide) (by rfl) (a_cons (m_var (pv 1)) (a_nil)) (la_cons (la_nil))))
  (ss_cons (s_set (i := 7) sc_law.nd rfl (.inl rfl) (m_c q_law_take_2 tk hr (by decide) (by rfl) (a_cons (m_var (pv 1)) (a_cons (m_c q_law_pick_2 tk hr (by decide) (by rfl) (a_cons (m_var (pv 1)) (a_cons (m_lst c_lst (a_cons (m_int) (a_cons (m_int) (a_cons (m_int) (a_nil))))) (a_nil))) (la_cons (la_cons (la_nil)))) (a_nil))) (la_cons (la_cons (la_nil)))))
  (ss_cons (s_set (i := 8) sc_law.nd rfl (.inl rfl) (m_callB (cl_reprX c.K hg (hu_64 hr)) c_reprX (by rfl) z_repr (by decide +kernel) (a_cons (m_var (pv 2)) (a_nil))))
  (ss_cons (s_set (i := 9) sc_law.nd rfl (.inl rfl) (m_c q_law_plain_3 tk hr (by decide) (by rfl) (a_cons (m_var (pv 2)) (a_cons (m_op o_add c_add (m_var (pv 4)) (m_tup c_tup (a_cons (m_var (pv 6)) (a_nil)))) (a_cons (m_var (pv 7)) (a_nil)))) (la_cons (la_cons (la_cons (la_nil))))))
  (ss_cons (s_set (i := 10) sc_law.nd rfl (.inl rfl) (m_ck q_plain_5_most tk hr (by decide) (by rfl) (a_cons (m_var (pv 2)) (a_cons (m_ix (o_ix (hu_65 hr)) c_ix (m_var (pv 4)) (m_int) (fun _ _ => rfl)) (a_cons (m_ix (o_ix (hu_65 hr)) c_ix (m_var (pv 4)) (m_int) (fun _ _ => rfl)) (a_cons (m_ix (o_ix (hu_65 hr)) c_ix (m_var (pv 4)) (m_int) (fun _ _ => rfl)) (a_cons (m_callTy (cl_tupleK c.K) c_tuple (by rfl) z_tuple (by decide +kernel) (a_cons (m_var (pv 6)) (a_nil))) (a_nil)))))) (la_cons (la_cons (la_cons (la_cons (la_cons (la_nil)))))) (k_cons (m_var (pv 7)) (k_nil)) (la_cons (la_nil))))
  (ss_cons (s_if ((w_or (t_not (t_val (m_isi (x := "x") kit_tuple (m_var (pv 10)) (by rfl) z_isinstance (by rfl) z_tuple (by decide +kernel) (by decide) (by decide)))) (w_or (t_cmp (o_neX (hu_65 hr)) c_neX (nomark _) (m_var (pv 10)) (m_var (pv 9))) (w_one (t_cmp (o_neE (hu_65 hr)) c_neE (nomark _) (m_callB (cl_reprX c.K hg (hu_64 hr)) c_reprX (by rfl) z_repr (by decide +kernel) (a_cons (m_var (pv 2)) (a_nil))) (m_var (pv 8)))))).pt)
  (ss_one (s_ret (m_bl)))
  (ss_nil))
  (ss_cons (s_if ((w_and (t_cmp (o_neE (hu_65 hr)) c_neE (nomark _) (m_ix (o_ix (hu_65 hr)) c_ix (m_var (pv 10)) (m_int) (fun _ _ => rfl)) (m_str)) (w_one (t_cmp (o_neX (hu_65 hr)) c_neX (nomark _) (m_c q_plain_5 tk hr (by decide) (by rfl) (a_cons (m_var (pv 2)) (a_cons (m_ix (o_ix (hu_65 hr)) c_ix (m_var (pv 4)) (m_int) (fun _ _ => rfl)) (a_cons (m_ix (o_ix (hu_65 hr)) c_ix (m_var (pv 4)) (m_int) (fun _ _ => rfl)) (a_cons (m_ix (o_ix (hu_65 hr)) c_ix (m_var (pv 4)) (m_int) (fun _ _ => rfl)) (a_cons (m_callTy (o_listE rfl) c_listE (by rfl) z_list (by decide +kernel) (a_cons (m_var (pv 6)) (a_nil))) (a_nil)))))) (la_cons (la_cons (la_cons (la_cons (la_cons (la_nil))))))) (m_var (pv 9))))).pt)
  (ss_one (s_ret (m_bl)))
  (ss_nil))
  (ss_cons (s_set (i := 11) sc_law.nd rfl (.inl rfl) (m_ck0 q_plain_0_most_value_plan_service_house tk hr (by decide) (by rfl) (k_cons (m_var (pv 7)) (k_cons (m_ix (o_ix (hu_65 hr)) c_ix (m_var (pv 4)) (m_int) (fun _ _ => rfl)) (k_cons (m_var (pv 2)) (k_cons (m_ix (o_ix (hu_65 hr)) c_ix (m_var (pv 4)) (m_int) (fun _ _ => rfl)) (k_cons (m_ix (o_ix (hu_65 hr)) c_ix (m_var (pv 4)) (m_int) (fun _ _ => rfl)) (k_nil)))))) (by exact la_cons (la_cons (la_cons (la_cons (la_cons (la_nil))))))))
  (ss_one (s_if ((w_and (t_cmp (o_eqE (hu_65 hr)) c_eqE (nomark _) (m_var (pv 6)) (m_lst c_lst (a_nil))) (w_one (t_cmp (o_neX (hu_65 hr)) c_neX (nomark _) (m_var (pv 11)) (m_var (pv 9))))).pt)
  (ss_one (s_ret (m_bl)))
  (ss_nil)))))))))))))))
  (ss_one (s_ret (m_bl)))))
end M
namespace M
open PySem PySem.Spec PyProof.Rows L2 G
theorem log7 : Nat.log2 7 < 9000 := by decide +kernel
theorem mod_pos {a b : Int} (h : 0 < b) : 0 ≤ a % b ∧ a % b < b := ⟨Int.emod_nonneg _ (by omega), Int.emod_lt_of_pos _ h⟩
structure DrwF (st : Sto) (d g l : Nat) (gs cs : List Int) (r t m : Int) : Prop where
 hd : st[d]? = some (.dK (R_drw g l r t m))
 hg : st[g]? = some (.lst (gs.map .int))
 hl : st[l]? = some (.lst (cs.map .int))
 dg : d ≠ g
 dl : d ≠ l
 gl : g ≠ l
 r0 : 0 ≤ r
 t0 : 0 ≤ t
 m0 : 0 ≤ m
 m1 : m < 2147483647
 gp : ∀ i ∈ gs, 1000000000000000000 ≤ i
 cp : ∀ i ∈ cs, 0 ≤ i
 cl : cs.length ≤ 63
theorem DrwF.app {st x : Sto} {d g l : Nat} {gs cs : List Int} {r t m : Int} (D : DrwF st d g l gs cs r t m) : DrwF (st ++ x) d g l gs cs r t m := { D with hd := getA D.hd, hg := getA D.hg, hl := getA D.hl }
theorem DrwF.upd {st : Sto} {d g l : Nat} {gs cs : List Int} {r t m r' t' m' : Int} (D : DrwF st d g l gs cs r t m) (h1 : 0 ≤ r') (h2 : 0 ≤ t') (h3 : 0 ≤ m') (h4 : m' < 2147483647) : DrwF (st.set d (.dK (R_drw g l r' t' m'))) d g l gs cs r' t' m' := { D with hd := getSS D.hd, hg := getS D.hg D.dg, hl := getS D.hl D.dl, r0 := h1, t0 := h2, m0 := h3, m1 := h4 }
theorem take_loop {st : Sto} {d g l : Nat} {gs cs : List Int} {r t m many : Int} (D : DrwF st d g l gs cs r t m) {Q : Out → Env → Sto → Prop}
  (k : ∀ s gs r, DrwF s d g l gs cs r t m → Same [d, g] st s → Q .nx [some (.ref d), some (.int many), none, none, none] s) :
  Runs (whileS (andT (tru (op2 eqE (op2 ixD (var 0) (cst (.str "rest"))) (cst (.int 0)))) (tru (op2 neE (op2 ixD (var 0) (cst (.str "great"))) (opN lstD (aNil)))))
  (asgS (mth "list" (lstMt popAtF) (op2 ixD (var 0) (cst (.str "great"))) (aCons (cst (.int 0)) (aNil))) (gSubM (var 0) (cst (.str "rest"))))) [some (.ref d), some (.int many), none, none, none] st Q := by
 refine r_whileS (fun e s => e = [some (.ref d), some (.int many), none, none, none] ∧ ∃ gs r, DrwF s d g l gs cs r t m ∧ Same [d, g] st s) (fun _ s => match s[d]? with
  | some (.dK kvs) => match valD kvs (.inr "rest") with
   | some (.int 0) => 1
   | _ => 0
  | _ => 0) ⟨rfl, gs, r, D, .refl⟩ (by rw [D.hd]; (try dsimp only); rw [vd_rest]; (try dsimp only); split <;> decide) ?_
 rintro _ s ⟨rfl, gs1, r1, D1, S1⟩
 have h1 := D1.hd
 have h2 := D1.hg
 have a1 := getA (g := [Ob.lst []]) h1
 have a2 := getA (g := [Ob.lst []]) h2
 by_cases hr : r1 = 0
 ·subst hr
  cases gs1 with
  | nil => exact ⟨false, s ++ [Ob.lst []], by ((try simp [op1, op2, var, cst, bnd, ret, aCons, aNil, opN, callB, gK, kwp, ixD, dget, keyOf, keysOf, eqE, neE, nilD, eqD, neD, sEq, toB, tru, andT, orT, notT, andV, orV, notV, ifE, chn, isN, niN, intOp, addD, alt, addI, subI, mulD, mulS, mulI, modI, divI, ltI, leI, gtI, geI, powI, negI, iaddA, lstD, tupD, lenD, absD, maxD, minD, mth, chk, isTy, lstMt, popF, popAtF, appF, noEx, gSubM, gVar, gTupM, gsCons, gsNil, setD, line, newK, newT, isiD, tyD, getE, isDct, lstOf, tupOf, seqOf, h1, vd_rest, vd_great, h2, a1, a2]) <;> first | done | rfl | exact ⟨rfl, rfl⟩ | skip), fun h => Bool.noConfusion h, fun _ => k _ _ _ D1.app (S1.trans .app)⟩
  | cons i is =>
   refine ⟨true, s ++ [Ob.lst []], by ((try simp [op1, op2, var, cst, bnd, ret, aCons, aNil, opN, callB, gK, kwp, ixD, dget, keyOf, keysOf, eqE, neE, nilD, eqD, neD, sEq, toB, tru, andT, orT, notT, andV, orV, notV, ifE, chn, isN, niN, intOp, addD, alt, addI, subI, mulD, mulS, mulI, modI, divI, ltI, leI, gtI, geI, powI, negI, iaddA, lstD, tupD, lenD, absD, maxD, minD, mth, chk, isTy, lstMt, popF, popAtF, appF, noEx, gSubM, gVar, gTupM, gsCons, gsNil, setD, line, newK, newT, isiD, tyD, getE, isDct, lstOf, tupOf, seqOf, h1, vd_rest, vd_great, h2, a1, a2]) <;> first | done | rfl | exact ⟨rfl, rfl⟩ | skip), fun _ => ?_, fun h => Bool.noConfusion h⟩
   have D2 : DrwF (s ++ [Ob.lst []]) d g l (i :: is) cs 0 t m := D1.app
   have h3 := D2.hd
   have h4 := D2.hg
   have hi := D2.gp i List.mem_cons_self
   have h5 : ((s ++ [Ob.lst []]).set g (Ob.lst (is.map .int)))[d]? = some (.dK (R_drw g l 0 t m)) := getS h3 (Ne.symm D2.dg)
   refine r_subS (d := .int i) (s := (s ++ [Ob.lst []]).set g (Ob.lst (is.map .int))) (by ((try simp [op1, op2, var, cst, bnd, ret, aCons, aNil, opN, callB, gK, kwp, ixD, dget, keyOf, keysOf, eqE, neE, nilD, eqD, neD, sEq, toB, tru, andT, orT, notT, andV, orV, notV, ifE, chn, isN, niN, intOp, addD, alt, addI, subI, mulD, mulS, mulI, modI, divI, ltI, leI, gtI, geI, powI, negI, iaddA, lstD, tupD, lenD, absD, maxD, minD, mth, chk, isTy, lstMt, popF, popAtF, appF, noEx, gSubM, gVar, gTupM, gsCons, gsNil, setD, line, newK, newT, isiD, tyD, getE, isDct, lstOf, tupOf, seqOf, h3, vd_great, h4, seqIndex?]) <;> first | done | rfl | exact ⟨rfl, rfl⟩ | skip)) (by ((try simp [op1, op2, var, cst, bnd, ret, aCons, aNil, opN, callB, gK, kwp, ixD, dget, keyOf, keysOf, eqE, neE, nilD, eqD, neD, sEq, toB, tru, andT, orT, notT, andV, orV, notV, ifE, chn, isN, niN, intOp, addD, alt, addI, subI, mulD, mulS, mulI, modI, divI, ltI, leI, gtI, geI, powI, negI, iaddA, lstD, tupD, lenD, absD, maxD, minD, mth, chk, isTy, lstMt, popF, popAtF, appF, noEx, gSubM, gVar, gTupM, gsCons, gsNil, setD, line, newK, newT, isiD, tyD, getE, isDct, lstOf, tupOf, seqOf]) <;> first | done | rfl | exact ⟨rfl, rfl⟩ | skip)) (by ((try simp [op1, op2, var, cst, bnd, ret, aCons, aNil, opN, callB, gK, kwp, ixD, dget, keyOf, keysOf, eqE, neE, nilD, eqD, neD, sEq, toB, tru, andT, orT, notT, andV, orV, notV, ifE, chn, isN, niN, intOp, addD, alt, addI, subI, mulD, mulS, mulI, modI, divI, ltI, leI, gtI, geI, powI, negI, iaddA, lstD, tupD, lenD, absD, maxD, minD, mth, chk, isTy, lstMt, popF, popAtF, appF, noEx, gSubM, gVar, gTupM, gsCons, gsNil, setD, line, newK, newT, isiD, tyD, getE, isDct, lstOf, tupOf, seqOf]) <;> first | done | rfl | exact ⟨rfl, rfl⟩ | skip)) (by ((try simp [op1, op2, var, cst, bnd, ret, aCons, aNil, opN, callB, gK, kwp, ixD, dget, keyOf, keysOf, eqE, neE, nilD, eqD, neD, sEq, toB, tru, andT, orT, notT, andV, orV, notV, ifE, chn, isN, niN, intOp, addD, alt, addI, subI, mulD, mulS, mulI, modI, divI, ltI, leI, gtI, geI, powI, negI, iaddA, lstD, tupD, lenD, absD, maxD, minD, mth, chk, isTy, lstMt, popF, popAtF, appF, noEx, gSubM, gVar, gTupM, gsCons, gsNil, setD, line, newK, newT, isiD, tyD, getE, isDct, lstOf, tupOf, seqOf, h5, pd_rest, ln_drw]) <;> first | done | rfl | exact ⟨rfl, rfl⟩ | skip)) ?_
   ·have D3 : DrwF ((s ++ [Ob.lst []]).set g (Ob.lst (is.map .int))) d g l is cs 0 t m := { D2 with hd := getS h3 (Ne.symm D2.dg), hg := getSS h4, hl := getS D2.hl D2.gl, gp := fun j hj => D2.gp j (List.mem_cons_of_mem _ hj) }
    have D4 := D3.upd (r' := i) (t' := t) (m' := m) (by omega) D3.t0 D3.m0 D3.m1
    refine ⟨⟨rfl, is, i, D4, ((S1.trans .app).trans (.set (by simp))).trans (.set (by simp))⟩, ?_⟩
    try dsimp only
    rw [D4.hd, h1]
    try dsimp only
    rw [vd_rest, vd_rest]
    try dsimp only
    split
    ·rename_i hz; cases hz; omega
    ·decide
 ·exact ⟨false, s, by ((try simp [op1, op2, var, cst, bnd, ret, aCons, aNil, opN, callB, gK, kwp, ixD, dget, keyOf, keysOf, eqE, neE, nilD, eqD, neD, sEq, toB, tru, andT, orT, notT, andV, orV, notV, ifE, chn, isN, niN, intOp, addD, alt, addI, subI, mulD, mulS, mulI, modI, divI, ltI, leI, gtI, geI, powI, negI, iaddA, lstD, tupD, lenD, absD, maxD, minD, mth, chk, isTy, lstMt, popF, popAtF, appF, noEx, gSubM, gVar, gTupM, gsCons, gsNil, setD, line, newK, newT, isiD, tyD, getE, isDct, lstOf, tupOf, seqOf, h1, vd_rest, hr]) <;> first | done | rfl | exact ⟨rfl, rfl⟩ | skip), fun h => Bool.noConfusion h, fun _ => k _ _ _ D1 S1⟩
theorem take_spec {st : Sto} {d g l : Nat} {gs cs : List Int} {r t m many : Int} (D : DrwF st d g l gs cs r t m) (hm : 0 < many) (hb : many.natAbs.log2 < 9000) :
  Ends' (m_law_take [.ref d, .int many]) st fun v s => ∃ i gs r t m, v = .int i ∧ 0 ≤ i ∧ i < many ∧ DrwF s d g l gs cs r t m ∧ Same [d, g] st s := by
 refine run_f rfl (r_seqS (take_loop D fun s gs r D S => ?_))
 have h1 := D.hd
 by_cases hr : 0 < r
 ·refine r_seqS (r_ifT (by ((try simp [op1, op2, var, cst, bnd, ret, aCons, aNil, opN, callB, gK, kwp, ixD, dget, keyOf, keysOf, eqE, neE, nilD, eqD, neD, sEq, toB, tru, andT, orT, notT, andV, orV, notV, ifE, chn, isN, niN, intOp, addD, alt, addI, subI, mulD, mulS, mulI, modI, divI, ltI, leI, gtI, geI, powI, negI, iaddA, lstD, tupD, lenD, absD, maxD, minD, mth, chk, isTy, lstMt, popF, popAtF, appF, noEx, gSubM, gVar, gTupM, gsCons, gsNil, setD, line, newK, newT, isiD, tyD, getE, isDct, lstOf, tupOf, seqOf, h1, vd_rest, hr]) <;> first | done | rfl | exact ⟨rfl, rfl⟩ | skip)) (r_seqS (r_setS (by ((try simp [op1, op2, var, cst, bnd, ret, aCons, aNil, opN, callB, gK, kwp, ixD, dget, keyOf, keysOf, eqE, neE, nilD, eqD, neD, sEq, toB, tru, andT, orT, notT, andV, orV, notV, ifE, chn, isN, niN, intOp, addD, alt, addI, subI, mulD, mulS, mulI, modI, divI, ltI, leI, gtI, geI, powI, negI, iaddA, lstD, tupD, lenD, absD, maxD, minD, mth, chk, isTy, lstMt, popF, popAtF, appF, noEx, gSubM, gVar, gTupM, gsCons, gsNil, setD, line, newK, newT, isiD, tyD, getE, isDct, lstOf, tupOf, seqOf, h1, vd_rest, hm]) <;> first | done | rfl | exact ⟨rfl, rfl⟩ | skip)) (r_seqS (r_subS (by ((try simp [op1, op2, var, cst, bnd, ret, aCons, aNil, opN, callB, gK, kwp, ixD, dget, keyOf, keysOf, eqE, neE, nilD, eqD, neD, sEq, toB, tru, andT, orT, notT, andV, orV, notV, ifE, chn, isN, niN, intOp, addD, alt, addI, subI, mulD, mulS, mulI, modI, divI, ltI, leI, gtI, geI, powI, negI, iaddA, lstD, tupD, lenD, absD, maxD, minD, mth, chk, isTy, lstMt, popF, popAtF, appF, noEx, gSubM, gVar, gTupM, gsCons, gsNil, setD, line, newK, newT, isiD, tyD, getE, isDct, lstOf, tupOf, seqOf, h1, vd_rest, hm, hb]) <;> first | done | rfl | exact ⟨rfl, rfl⟩ | skip)) (by ((try simp [op1, op2, var, cst, bnd, ret, aCons, aNil, opN, callB, gK, kwp, ixD, dget, keyOf, keysOf, eqE, neE, nilD, eqD, neD, sEq, toB, tru, andT, orT, notT, andV, orV, notV, ifE, chn, isN, niN, intOp, addD, alt, addI, subI, mulD, mulS, mulI, modI, divI, ltI, leI, gtI, geI, powI, negI, iaddA, lstD, tupD, lenD, absD, maxD, minD, mth, chk, isTy, lstMt, popF, popAtF, appF, noEx, gSubM, gVar, gTupM, gsCons, gsNil, setD, line, newK, newT, isiD, tyD, getE, isDct, lstOf, tupOf, seqOf]) <;> first | done | rfl | exact ⟨rfl, rfl⟩ | skip)) (by ((try simp [op1, op2, var, cst, bnd, ret, aCons, aNil, opN, callB, gK, kwp, ixD, dget, keyOf, keysOf, eqE, neE, nilD, eqD, neD, sEq, toB, tru, andT, orT, notT, andV, orV, notV, ifE, chn, isN, niN, intOp, addD, alt, addI, subI, mulD, mulS, mulI, modI, divI, ltI, leI, gtI, geI, powI, negI, iaddA, lstD, tupD, lenD, absD, maxD, minD, mth, chk, isTy, lstMt, popF, popAtF, appF, noEx, gSubM, gVar, gTupM, gsCons, gsNil, setD, line, newK, newT, isiD, tyD, getE, isDct, lstOf, tupOf, seqOf]) <;> first | done | rfl | exact ⟨rfl, rfl⟩ | skip)) (by ((try simp [op1, op2, var, cst, bnd, ret, aCons, aNil, opN, callB, gK, kwp, ixD, dget, keyOf, keysOf, eqE, neE, nilD, eqD, neD, sEq, toB, tru, andT, orT, notT, andV, orV, notV, ifE, chn, isN, niN, intOp, addD, alt, addI, subI, mulD, mulS, mulI, modI, divI, ltI, leI, gtI, geI, powI, negI, iaddA, lstD, tupD, lenD, absD, maxD, minD, mth, chk, isTy, lstMt, popF, popAtF, appF, noEx, gSubM, gVar, gTupM, gsCons, gsNil, setD, line, newK, newT, isiD, tyD, getE, isDct, lstOf, tupOf, seqOf, h1, pd_rest, ln_drw]) <;> first | done | rfl | exact ⟨rfl, rfl⟩ | skip)) (r_retS (by ((try simp [op1, op2, var, cst, bnd, ret, aCons, aNil, opN, callB, gK, kwp, ixD, dget, keyOf, keysOf, eqE, neE, nilD, eqD, neD, sEq, toB, tru, andT, orT, notT, andV, orV, notV, ifE, chn, isN, niN, intOp, addD, alt, addI, subI, mulD, mulS, mulI, modI, divI, ltI, leI, gtI, geI, powI, negI, iaddA, lstD, tupD, lenD, absD, maxD, minD, mth, chk, isTy, lstMt, popF, popAtF, appF, noEx, gSubM, gVar, gTupM, gsCons, gsNil, setD, line, newK, newT, isiD, tyD, getE, isDct, lstOf, tupOf, seqOf]) <;> first | done | rfl | exact ⟨rfl, rfl⟩ | skip)) ?_))))))
  exact ⟨_, _, _, _, _, rfl, (mod_pos hm).1, (mod_pos hm).2, D.upd (Int.ediv_nonneg D.r0 (by omega)) D.t0 D.m0 D.m1, S.trans (.set (by simp))⟩
 ·refine r_seqS (r_ifF (by ((try simp [op1, op2, var, cst, bnd, ret, aCons, aNil, opN, callB, gK, kwp, ixD, dget, keyOf, keysOf, eqE, neE, nilD, eqD, neD, sEq, toB, tru, andT, orT, notT, andV, orV, notV, ifE, chn, isN, niN, intOp, addD, alt, addI, subI, mulD, mulS, mulI, modI, divI, ltI, leI, gtI, geI, powI, negI, iaddA, lstD, tupD, lenD, absD, maxD, minD, mth, chk, isTy, lstMt, popF, popAtF, appF, noEx, gSubM, gVar, gTupM, gsCons, gsNil, setD, line, newK, newT, isiD, tyD, getE, isDct, lstOf, tupOf, seqOf, h1, vd_rest, hr]) <;> first | done | rfl | exact ⟨rfl, rfl⟩ | skip)) (r_passS (r_seqS (r_setS (by ((try simp [op1, op2, var, cst, bnd, ret, aCons, aNil, opN, callB, gK, kwp, ixD, dget, keyOf, keysOf, eqE, neE, nilD, eqD, neD, sEq, toB, tru, andT, orT, notT, andV, orV, notV, ifE, chn, isN, niN, intOp, addD, alt, addI, subI, mulD, mulS, mulI, modI, divI, ltI, leI, gtI, geI, powI, negI, iaddA, lstD, tupD, lenD, absD, maxD, minD, mth, chk, isTy, lstMt, popF, popAtF, appF, noEx, gSubM, gVar, gTupM, gsCons, gsNil, setD, line, newK, newT, isiD, tyD, getE, isDct, lstOf, tupOf, seqOf]) <;> first | done | rfl | exact ⟨rfl, rfl⟩ | skip)) ?_))))
  have h3 := D.hl
  have a1 := getA (g := [Ob.lst []]) h1
  have a3 := getA (g := [Ob.lst []]) h3
  have fin : ∀ (s : Sto) (c : Int), DrwF s d g l gs cs r t m → Same [d, g] st s → 0 ≤ c → Runs (seqS (asgS (op2 addD (op2 ixD (var 0) (cst (.str "turn"))) (cst (.int 1))) (gSubM (var 0) (cst (.str "turn"))))
  (seqS (asgS (op2 modI (op2 addD (op2 addD (op2 mulD (op2 ixD (var 0) (cst (.str "more"))) (cst (.int 48271))) (var 3)) (op2 mulD (cst (.int 7919)) (op2 ixD (var 0) (cst (.str "turn"))))) (cst (.int 2147483647))) (gSubM (var 0) (cst (.str "more"))))
  (seqS (setS 4 (op2 modI (op2 addD (op2 addD (op2 mulD (op2 ixD (var 0) (cst (.str "more"))) (op2 ixD (var 0) (cst (.str "more")))) (op2 mulD (cst (.int 16807)) (op2 ixD (var 0) (cst (.str "more"))))) (cst (.int 11))) (cst (.int 2147483629))))
  (retS (op2 modI (op2 divI (op2 modI (op2 mulD (var 4) (var 4)) (cst (.int 2147483587))) (cst (.int 7))) (var 1)))))) [some (.ref d), some (.int many), none, some (.int c), none] s (afterF fun v s => ∃ i gs r t m, v = .int i ∧ 0 ≤ i ∧ i < many ∧ DrwF s d g l gs cs r t m ∧ Same [d, g] st s) := by
   intro s c D S hc
   have h1 := D.hd
   have t0 := D.t0
   have m0 := D.m0
   have m1 := D.m1
   have D1 := D.upd (r' := r) (t' := t + 1) (m' := m) D.r0 (by omega) D.m0 D.m1
   have S1 : Same [d, g] st (s.set d (.dK (R_drw g l r (t + 1) m))) := S.trans (.set (by simp))
   refine r_seqS (r_subS (by ((try simp [op1, op2, var, cst, bnd, ret, aCons, aNil, opN, callB, gK, kwp, ixD, dget, keyOf, keysOf, eqE, neE, nilD, eqD, neD, sEq, toB, tru, andT, orT, notT, andV, orV, notV, ifE, chn, isN, niN, intOp, addD, alt, addI, subI, mulD, mulS, mulI, modI, divI, ltI, leI, gtI, geI, powI, negI, iaddA, lstD, tupD, lenD, absD, maxD, minD, mth, chk, isTy, lstMt, popF, popAtF, appF, noEx, gSubM, gVar, gTupM, gsCons, gsNil, setD, line, newK, newT, isiD, tyD, getE, isDct, lstOf, tupOf, seqOf, h1, vd_turn]) <;> first | done | rfl | exact ⟨rfl, rfl⟩ | skip)) (by ((try simp [op1, op2, var, cst, bnd, ret, aCons, aNil, opN, callB, gK, kwp, ixD, dget, keyOf, keysOf, eqE, neE, nilD, eqD, neD, sEq, toB, tru, andT, orT, notT, andV, orV, notV, ifE, chn, isN, niN, intOp, addD, alt, addI, subI, mulD, mulS, mulI, modI, divI, ltI, leI, gtI, geI, powI, negI, iaddA, lstD, tupD, lenD, absD, maxD, minD, mth, chk, isTy, lstMt, popF, popAtF, appF, noEx, gSubM, gVar, gTupM, gsCons, gsNil, setD, line, newK, newT, isiD, tyD, getE, isDct, lstOf, tupOf, seqOf]) <;> first | done | rfl | exact ⟨rfl, rfl⟩ | skip)) (by ((try simp [op1, op2, var, cst, bnd, ret, aCons, aNil, opN, callB, gK, kwp, ixD, dget, keyOf, keysOf, eqE, neE, nilD, eqD, neD, sEq, toB, tru, andT, orT, notT, andV, orV, notV, ifE, chn, isN, niN, intOp, addD, alt, addI, subI, mulD, mulS, mulI, modI, divI, ltI, leI, gtI, geI, powI, negI, iaddA, lstD, tupD, lenD, absD, maxD, minD, mth, chk, isTy, lstMt, popF, popAtF, appF, noEx, gSubM, gVar, gTupM, gsCons, gsNil, setD, line, newK, newT, isiD, tyD, getE, isDct, lstOf, tupOf, seqOf]) <;> first | done | rfl | exact ⟨rfl, rfl⟩ | skip)) (by ((try simp [op1, op2, var, cst, bnd, ret, aCons, aNil, opN, callB, gK, kwp, ixD, dget, keyOf, keysOf, eqE, neE, nilD, eqD, neD, sEq, toB, tru, andT, orT, notT, andV, orV, notV, ifE, chn, isN, niN, intOp, addD, alt, addI, subI, mulD, mulS, mulI, modI, divI, ltI, leI, gtI, geI, powI, negI, iaddA, lstD, tupD, lenD, absD, maxD, minD, mth, chk, isTy, lstMt, popF, popAtF, appF, noEx, gSubM, gVar, gTupM, gsCons, gsNil, setD, line, newK, newT, isiD, tyD, getE, isDct, lstOf, tupOf, seqOf, h1, pd_turn, ln_drw]) <;> first | done | rfl | exact ⟨rfl, rfl⟩ | skip)) ?_)
   generalize s.set d (.dK (R_drw g l r (t + 1) m)) = s1 at D1 S1 ⊢
   have h2 := D1.hd
   have hmm := mod_pos (a := m * 48271 + c + 7919 * (t + 1)) (b := 2147483647) (by decide)
   have hm64 : m < 18446744073709551616 := by omega
   have hm65 : -18446744073709551616 < m := by omega
   refine r_seqS (r_subS (d := .int ((m * 48271 + c + 7919 * (t + 1)) % 2147483647)) (by ((try simp [op1, op2, var, cst, bnd, ret, aCons, aNil, opN, callB, gK, kwp, ixD, dget, keyOf, keysOf, eqE, neE, nilD, eqD, neD, sEq, toB, tru, andT, orT, notT, andV, orV, notV, ifE, chn, isN, niN, intOp, addD, alt, addI, subI, mulD, mulS, mulI, modI, divI, ltI, leI, gtI, geI, powI, negI, iaddA, lstD, tupD, lenD, absD, maxD, minD, mth, chk, isTy, lstMt, popF, popAtF, appF, noEx, gSubM, gVar, gTupM, gsCons, gsNil, setD, line, newK, newT, isiD, tyD, getE, isDct, lstOf, tupOf, seqOf, h2, vd_more, vd_turn]) <;> first | done | rfl | exact ⟨rfl, rfl⟩ | skip)) (by ((try simp [op1, op2, var, cst, bnd, ret, aCons, aNil, opN, callB, gK, kwp, ixD, dget, keyOf, keysOf, eqE, neE, nilD, eqD, neD, sEq, toB, tru, andT, orT, notT, andV, orV, notV, ifE, chn, isN, niN, intOp, addD, alt, addI, subI, mulD, mulS, mulI, modI, divI, ltI, leI, gtI, geI, powI, negI, iaddA, lstD, tupD, lenD, absD, maxD, minD, mth, chk, isTy, lstMt, popF, popAtF, appF, noEx, gSubM, gVar, gTupM, gsCons, gsNil, setD, line, newK, newT, isiD, tyD, getE, isDct, lstOf, tupOf, seqOf]) <;> first | done | rfl | exact ⟨rfl, rfl⟩ | skip)) (by ((try simp [op1, op2, var, cst, bnd, ret, aCons, aNil, opN, callB, gK, kwp, ixD, dget, keyOf, keysOf, eqE, neE, nilD, eqD, neD, sEq, toB, tru, andT, orT, notT, andV, orV, notV, ifE, chn, isN, niN, intOp, addD, alt, addI, subI, mulD, mulS, mulI, modI, divI, ltI, leI, gtI, geI, powI, negI, iaddA, lstD, tupD, lenD, absD, maxD, minD, mth, chk, isTy, lstMt, popF, popAtF, appF, noEx, gSubM, gVar, gTupM, gsCons, gsNil, setD, line, newK, newT, isiD, tyD, getE, isDct, lstOf, tupOf, seqOf]) <;> first | done | rfl | exact ⟨rfl, rfl⟩ | skip)) (by ((try simp [op1, op2, var, cst, bnd, ret, aCons, aNil, opN, callB, gK, kwp, ixD, dget, keyOf, keysOf, eqE, neE, nilD, eqD, neD, sEq, toB, tru, andT, orT, notT, andV, orV, notV, ifE, chn, isN, niN, intOp, addD, alt, addI, subI, mulD, mulS, mulI, modI, divI, ltI, leI, gtI, geI, powI, negI, iaddA, lstD, tupD, lenD, absD, maxD, minD, mth, chk, isTy, lstMt, popF, popAtF, appF, noEx, gSubM, gVar, gTupM, gsCons, gsNil, setD, line, newK, newT, isiD, tyD, getE, isDct, lstOf, tupOf, seqOf, h2, pd_more, ln_drw]) <;> first | done | rfl | exact ⟨rfl, rfl⟩ | skip)) ?_)
   have D2 := D1.upd (r' := r) (t' := t + 1) (m' := (m * 48271 + c + 7919 * (t + 1)) % 2147483647) D.r0 (by omega) hmm.1 hmm.2
   have S2 : Same [d, g] st (s1.set d (.dK (R_drw g l r (t + 1) ((m * 48271 + c + 7919 * (t + 1)) % 2147483647)))) := S1.trans (.set (by simp))
   generalize s1.set d (.dK (R_drw g l r (t + 1) ((m * 48271 + c + 7919 * (t + 1)) % 2147483647))) = s2 at D2 S2 ⊢
   have h3 := D2.hd
   generalize (m * 48271 + c + 7919 * (t + 1)) % 2147483647 = m2 at *
   have hn64 : m2 < 18446744073709551616 := by omega
   have hn65 : -18446744073709551616 < m2 := by omega
   refine r_seqS (r_setS (d := .int ((m2 * m2 + 16807 * m2 + 11) % 2147483629)) (by ((try simp [op1, op2, var, cst, bnd, ret, aCons, aNil, opN, callB, gK, kwp, ixD, dget, keyOf, keysOf, eqE, neE, nilD, eqD, neD, sEq, toB, tru, andT, orT, notT, andV, orV, notV, ifE, chn, isN, niN, intOp, addD, alt, addI, subI, mulD, mulS, mulI, modI, divI, ltI, leI, gtI, geI, powI, negI, iaddA, lstD, tupD, lenD, absD, maxD, minD, mth, chk, isTy, lstMt, popF, popAtF, appF, noEx, gSubM, gVar, gTupM, gsCons, gsNil, setD, line, newK, newT, isiD, tyD, getE, isDct, lstOf, tupOf, seqOf, h3, vd_more, hn64, hn65]) <;> first | done | rfl | exact ⟨rfl, rfl⟩ | skip)) ?_)
   have hmi := mod_pos (a := m2 * m2 + 16807 * m2 + 11) (b := 2147483629) (by decide)
   generalize (m2 * m2 + 16807 * m2 + 11) % 2147483629 = m3 at *
   have hk64 : m3 < 18446744073709551616 := by omega
   have hk65 : -18446744073709551616 < m3 := by omega
   refine r_retS (d := .int (m3 * m3 % 2147483587 / 7 % many)) (by ((try simp [op1, op2, var, cst, bnd, ret, aCons, aNil, opN, callB, gK, kwp, ixD, dget, keyOf, keysOf, eqE, neE, nilD, eqD, neD, sEq, toB, tru, andT, orT, notT, andV, orV, notV, ifE, chn, isN, niN, intOp, addD, alt, addI, subI, mulD, mulS, mulI, modI, divI, ltI, leI, gtI, geI, powI, negI, iaddA, lstD, tupD, lenD, absD, maxD, minD, mth, chk, isTy, lstMt, popF, popAtF, appF, noEx, gSubM, gVar, gTupM, gsCons, gsNil, setD, line, newK, newT, isiD, tyD, getE, isDct, lstOf, tupOf, seqOf, hk64, hk65, hm, log7]) <;> first | done | rfl | exact ⟨rfl, rfl⟩ | skip)) ?_
   exact ⟨_, _, _, _, _, rfl, (mod_pos hm).1, (mod_pos hm).2, D2, S2⟩
  by_cases hcs : cs = []
  ·subst hcs
   refine r_seqS (r_ifF (by ((try simp [op1, op2, var, cst, bnd, ret, aCons, aNil, opN, callB, gK, kwp, ixD, dget, keyOf, keysOf, eqE, neE, nilD, eqD, neD, sEq, toB, tru, andT, orT, notT, andV, orV, notV, ifE, chn, isN, niN, intOp, addD, alt, addI, subI, mulD, mulS, mulI, modI, divI, ltI, leI, gtI, geI, powI, negI, iaddA, lstD, tupD, lenD, absD, maxD, minD, mth, chk, isTy, lstMt, popF, popAtF, appF, noEx, gSubM, gVar, gTupM, gsCons, gsNil, setD, line, newK, newT, isiD, tyD, getE, isDct, lstOf, tupOf, seqOf, h1, vd_cells, h3, a3]) <;> first | done | rfl | exact ⟨rfl, rfl⟩ | skip)) (r_passS (fin _ 0 D.app (S.trans .app) (by decide))))
  ·have hlen : 0 < cs.length := List.length_pos_iff.mpr hcs
   have hlt := mod_pos (a := t) (b := cs.length) (by omega)
   have hix : (t % (cs.length : Int)).toNat < cs.length := by omega
   obtain ⟨x, hx⟩ : ∃ x, cs[(t % (cs.length : Int)).toNat]? = some x := ⟨_, List.getElem?_eq_getElem hix⟩
   refine r_seqS (r_ifT (by ((try simp [op1, op2, var, cst, bnd, ret, aCons, aNil, opN, callB, gK, kwp, ixD, dget, keyOf, keysOf, eqE, neE, nilD, eqD, neD, sEq, toB, tru, andT, orT, notT, andV, orV, notV, ifE, chn, isN, niN, intOp, addD, alt, addI, subI, mulD, mulS, mulI, modI, divI, ltI, leI, gtI, geI, powI, negI, iaddA, lstD, tupD, lenD, absD, maxD, minD, mth, chk, isTy, lstMt, popF, popAtF, appF, noEx, gSubM, gVar, gTupM, gsCons, gsNil, setD, line, newK, newT, isiD, tyD, getE, isDct, lstOf, tupOf, seqOf, h1, vd_cells, h3, a3, hcs]) <;> first | done | rfl | exact ⟨rfl, rfl⟩ | skip)) (r_setS (d := .int x) (s := s ++ [Ob.lst []]) ?_ (fin _ x D.app (S.trans .app) (D.cp x (List.mem_of_getElem? hx)))))
   have hat : atI (cs.map M.D.int) (t % (cs.length : Int)) = some (M.D.int x) := atI_nn hlt.1 (by rw [List.getElem?_map, hx]; rfl)
   ((try simp [op1, op2, var, cst, bnd, ret, aCons, aNil, opN, callB, gK, kwp, ixD, dget, keyOf, keysOf, eqE, neE, nilD, eqD, neD, sEq, toB, tru, andT, orT, notT, andV, orV, notV, ifE, chn, isN, niN, intOp, addD, alt, addI, subI, mulD, mulS, mulI, modI, divI, ltI, leI, gtI, geI, powI, negI, iaddA, lstD, tupD, lenD, absD, maxD, minD, mth, chk, isTy, lstMt, popF, popAtF, appF, noEx, gSubM, gVar, gTupM, gsCons, gsNil, setD, line, newK, newT, isiD, tyD, getE, isDct, lstOf, tupOf, seqOf, a1, vd_cells, vd_turn, a3, hat, hlen]) <;> first | done | rfl | exact ⟨rfl, rfl⟩ | skip)
end M
namespace M
open PySem PySem.Spec PyProof.Rows L2 G
def Dr (d g l : Nat) (st : Sto) : Prop := ∃ gs cs r t m, DrwF st d g l gs cs r t m
theorem Dr.app {d g l : Nat} {st x : Sto} (h : Dr d g l st) : Dr d g l (st ++ x) := let ⟨gs, cs, r, t, m, h⟩ := h; ⟨gs, cs, r, t, m, h.app⟩
theorem Dr.ne {d g l n : Nat} {st : Sto} {xs : List D} (h : Dr d g l st) (hn : st[n]? = some (.lst xs)) : n ≠ d := fun e => by
 obtain ⟨gs, cs, r, t, m, h⟩ := h
 subst e
 rw [h.hd] at hn; cases hn
theorem Dr.lt {d g l : Nat} {st : Sto} (h : Dr d g l st) : d < st.length ∧ g < st.length ∧ l < st.length := by
 obtain ⟨gs, cs, r, t, m, h⟩ := h
 exact ⟨lt_of h.hd, lt_of h.hg, lt_of h.hl⟩
theorem Dr.set {d g l n : Nat} {st : Sto} {o : Ob} (h : Dr d g l st) (h1 : n ≠ d) (h2 : n ≠ g) (h3 : n ≠ l) : Dr d g l (st.set n o) := by
 obtain ⟨gs, cs, r, t, m, h⟩ := h
 exact ⟨gs, cs, r, t, m, { h with hd := getS h.hd h1, hg := getS h.hg h2, hl := getS h.hl h3 }⟩
theorem Dr.same {d g l : Nat} {is : List Nat} {st s : Sto} (h : Dr d g l st) (S : Same is st s) (h1 : d ∉ is) (h2 : g ∉ is) (h3 : l ∉ is) : Dr d g l s := by
 obtain ⟨gs, cs, r, t, m, h⟩ := h
 exact ⟨gs, cs, r, t, m, { h with hd := S.eq _ _ h.hd h1, hg := S.eq _ _ h.hg h2, hl := S.eq _ _ h.hl h3 }⟩
theorem lg {m : Int} (h : m.natAbs < 2 ^ 300) : m.natAbs.log2 < 9000 := by
 by_cases h0 : m.natAbs = 0
 ·rw [h0]; decide +kernel
 ·exact Nat.lt_trans ((Nat.log2_lt h0).mpr h) (by decide)
theorem take_d {d g l : Nat} {st : Sto} {many : Int} (D : Dr d g l st) (hm : 0 < many) (hb : many.natAbs < 2 ^ 300) : ∃ i s, m_law_take [.ref d, .int many] st = some (.ok (.int i), s) ∧ 0 ≤ i ∧ i < many ∧ Dr d g l s ∧ Same [d, g] st s := by
 obtain ⟨gs, cs, r, t, m, h⟩ := D
 obtain ⟨v, s, h1, i, gs', r', t', m', rfl, h2, h3, h4, h5⟩ := take_spec h hm (lg hb)
 exact ⟨i, s, h1, h2, h3, ⟨_, _, _, _, _, h4⟩, h5⟩
theorem pick_d {d g l n : Nat} {st : Sto} {xs : List M.D} (D : Dr d g l st) (hn : st[n]? = some (.lst xs)) (hg : n ≠ g) (h0 : xs ≠ []) (hl : xs.length ≤ 100000) : ∃ v s, m_law_pick [.ref d, .ref n] st = some (.ok v, s) ∧ v ∈ xs ∧ Dr d g l s ∧ Same [d, g] st s := by
 have hp : 0 < xs.length := List.length_pos_iff.mpr h0
 obtain ⟨i, s, h1, h2, h3, h4, h5⟩ := take_d (many := xs.length) D (by omega) (by
  have : (xs.length : Int).natAbs = xs.length := rfl
  rw [this]
  exact Nat.lt_of_le_of_lt hl (by decide +kernel))
 have hs : s[n]? = some (.lst xs) := h5.eq n _ hn (by simp [D.ne hn, hg])
 have hix : i.toNat < xs.length := by omega
 refine ⟨xs[i.toNat], s, ?_, List.getElem_mem hix, h4, h5⟩
 have e1 : lenD [.ref n] st = some (.ok (.int xs.length), st) := by unfold lenD seqOf tupOf lstOf; dsimp only; rw [hn]
 have e2 : ixD (.ref n) (.int i) s = some (.ok xs[i.toNat], s) := by
  unfold ixD
  dsimp only
  rw [hs]
  dsimp only
  rw [atI_nn h2 (List.getElem?_eq_getElem hix)]
  first | done | rfl
 obtain ⟨v', s', h6, h7⟩ := run_f (n := 2) (k := 2) (m := b_law_pick) (ds := [.ref d, .ref n]) (st := st) (Q := fun v s' => v = xs[i.toNat] ∧ s' = s) rfl (r_retS (d := xs[i.toNat]) (s := s) (by
  refine (bnd_ok (s := st) (a := .ref n) rfl).trans ?_
  refine (bnd_ok (s := s) (a := .int i) ?_).trans e2
  refine (bnd_ok (s := st) (a := [.ref d, .int xs.length]) ?_).trans ((bnd_ok (s := st) (a := []) rfl).trans (show m_law_take (gK [] [.ref d, .int xs.length] []) st = some (.ok (.int i), s) from h1))
  refine (bnd_ok (s := st) (a := .ref d) rfl).trans ?_
  refine (bnd_ok (s := st) (a := [.int xs.length]) ?_).trans rfl
  refine (bnd_ok (s := st) (a := .int xs.length) ?_).trans rfl
  exact (bnd_ok (s := st) (a := [.ref n]) rfl).trans e1) ⟨rfl, rfl⟩)
 rw [h7.1, h7.2] at h6
 exact h6
end M
namespace M
open PySem PySem.Spec PyProof.Rows L2 G
theorem pv0Q {J : SI} {d : D} {r : List (Option D)} : Pure J (var 0 (some d :: r)) d := p_var rfl
theorem begun_x {st : Sto} {a : D} {ns : List Int} {J : SI} (hJ : ∀ st, J.I st → seqOf a st = some (ns.map D.int)) (hI : J.I st) (ha : ∀ s, a ≠ .str s) (hl : ns.length ≤ 63) : ∃ d g l s, m_law_begun [a] st = some (.ok (.ref d), s) ∧ Dr d g l s := by
 have key : Ends' (m_law_begun [a]) st fun v s => ∃ d g l, v = .ref d ∧ Dr d g l s := by
  have hsq : ∀ (n : Nat) (xs : List D) (J : SI), (∀ st, J.I st → st[n]? = some (.lst xs)) → ∀ st, J.I st → seqOf (.ref n) st = some xs := fun n xs J hJ st hI => by unfold seqOf tupOf lstOf; dsimp only; rw [hJ st hI]
  obtain ⟨n1, g1, e1, h1⟩ := n_lc (lc_all (J := J) (m := iterM (var 0)) (tg := gVar 2) (el := opN absD (aCons (var 2) (aNil))) (vs := [2]) (env := [some a, none, none]) (zs := ns) (fun i => D.int i) (fun i => [some a, none, some (.int i)]) (fun i => D.int i.natAbs) (ip_seq pv0Q hJ ha) (by omega) (fun _ _ _ => rfl) (fun i _ => p_opN (p_cons (p_var rfl) p_nil) (p_of fun _ => abs_e))) st hI
  have hm : ns.map (fun i => D.int (i.natAbs : Int)) = (ns.map fun i => (i.natAbs : Int)).map D.int := by rw [List.map_map]; rfl
  rw [hm] at h1
  generalize hcs : ns.map (fun i => (i.natAbs : Int)) = cs at h1
  have hc0 : ∀ i ∈ cs, 0 ≤ i := fun i hi => by
   rw [← hcs] at hi
   obtain ⟨j, _, rfl⟩ := List.mem_map.mp hi
   exact Int.natCast_nonneg _
  have hcl : cs.length ≤ 63 := by rw [← hcs, List.length_map]; exact hl
  refine run_f rfl (r_seqS (r_setS e1 ?_))
  generalize st ++ g1 = s1 at h1 ⊢
  show Runs _ [some a, some (.ref n1), none] s1 _
  obtain ⟨g0, x0, e2⟩ := (lc_ip (J := SI.top.wth n1 (.lst (cs.map D.int))) (m := iterM (var 1)) (t := tru (op2 geI (var 2) (op2 powI (cst (.int 10)) (cst (.int 18))))) (tg := gVar 2) (el := var 2) (vs := [2]) (env := [some a, some (.ref n1), none]) (zs := cs) (fun i => D.int i) (fun i => [some a, some (.ref n1), some (.int i)]) (fun i => decide ((10 : Int) ^ 18 ≤ i)) (fun i => D.int i) (ip_seq (p_var rfl) (hsq _ _ _ fun st hI => hI.2) fun _ => D.noConfusion) (by omega) (fun _ _ _ => rfl) (fun i _ => p_tru (p_op2 (p_var rfl) (p_op2 p_cst p_cst (p_of fun _ => rfl)) (p_of fun _ => rfl))) (fun i _ _ => p_var rfl)) (s1 ++ [.dK []]) ⟨trivial, getA h1⟩
  obtain ⟨n2, hn2e⟩ : ∃ n2, n2 = (s1 ++ [Ob.dK []] ++ g0).length := ⟨_, rfl⟩
  rw [← hn2e, List.append_assoc (s1 ++ [Ob.dK []])] at e2
  have h2 : (s1 ++ [Ob.dK []] ++ (g0 ++ ([Ob.lst ((cs.filter fun i => decide ((10 : Int) ^ 18 ≤ i)).map fun i => D.int i)] ++ x0)))[n2]? = some (.lst ((cs.filter fun i => decide ((10 : Int) ^ 18 ≤ i)).map fun i => D.int i)) := by rw [hn2e, ← List.append_assoc]; simp
  generalize g0 ++ ([Ob.lst ((cs.filter fun i => decide ((10 : Int) ^ 18 ≤ i)).map fun i => D.int i)] ++ x0) = g2 at e2 h2
  have hn12 : n1 < n2 := by have := lt_of h1; rw [hn2e]; simp; omega
  have hd0 : (s1 ++ [Ob.dK []] ++ g2)[s1.length]? = some (.dK []) := getA getN
  have h1' : (s1 ++ [Ob.dK []] ++ g2)[n1]? = some (.lst (cs.map D.int)) := getA (getA h1)
  have hlt := lt_of h1
  have e3 : pairsM ((cst (.str "great"), lcE (iterM (var 1)) (gVar 2) (tru (op2 geI (var 2) (op2 powI (cst (.int 10)) (cst (.int 18))))) (var 2) [2]) :: (cst (.str "cells"), var 1) :: (cst (.str "rest"), cst (.int 0)) :: (cst (.str "turn"), cst (.int 0)) :: [(cst (.str "more"), cst (.int 7))]) [some a, some (.ref n1), none] (s1 ++ [.dK []]) = some (.ok [(.str "great", .ref n2), (.str "cells", .ref n1), (.str "rest", .int 0), (.str "turn", .int 0), (.str "more", .int 7)], s1 ++ [Ob.dK []] ++ g2) := by
   unfold pairsM
   refine (bnd_ok (s := s1 ++ [.dK []]) (a := .str "great") rfl).trans ((bnd_ok e2).trans ?_)
   rfl
  refine r_retS (dsp_run2 e3 hd0 rfl (Nat.le_of_ble_eq_true rfl)) ⟨s1.length, n2, n1, rfl, ?_⟩
  have hn2 : s1.length ≠ n2 := fun e => by rw [e] at hd0; rw [hd0] at h2; cases h2
  refine ⟨(cs.filter fun i => decide ((10 : Int) ^ 18 ≤ i)), cs, 0, 0, 7, ⟨getSS hd0, getS h2 hn2, getS h1' (by omega), hn2, by omega, by omega, Int.le_refl _, Int.le_refl _, by decide, by decide, fun i hi => ?_, hc0, hcl⟩⟩
  exact of_decide_eq_true (List.mem_filter.mp hi).2
 obtain ⟨v, s, e, d, g, l, rfl, h⟩ := key
 exact ⟨d, g, l, s, e, h⟩
theorem begun_scr {st : Sto} {ns : List Int} (hl : ns.length ≤ 63) : ∃ d g l s, m_law_begun [.scr ns] st = some (.ok (.ref d), s) ∧ Dr d g l s :=
 begun_x (J := SI.top) (fun st hI => rfl) trivial (fun _ => D.noConfusion) hl
end M
namespace M
open PySem PySem.Spec PyProof.Rows L2 G
inductive Wd where
 | done | stopped | never
 deriving DecidableEq
def Wd.s : Wd → Str
 | .done => "done"
 | .stopped => "stopped"
 | .never => "never"
inductive Stp where
 | add (k : Str) (n : Int) | put (k : Str) | load (k : Str) | plus (n : Int) | take | give | more (i : Nat) | fin | call (h s : Str) (l : Int)
def Stp.d : Stp → D
 | .add k n => .tup [.str "add", .str k, .int n]
 | .put k => .tup [.str "put", .str k]
 | .load k => .tup [.str "load", .str k]
 | .plus n => .tup [.str "plus", .int n]
 | .take => .tup [.str "take"]
 | .give => .tup [.str "give"]
 | .more i => .tup [.str "more", .int (i : Nat)]
 | .fin => .tup [.str "done"]
 | .call h s l => .tup [.str "call", .str h, .str s, .int l]
def lkp {α : Type} : List (Str × α) → Str → Option α
 | [], _ => none
 | (n, a) :: r, k => if n = k then some a else lkp r k
def kput {α : Type} : List (Str × α) → Str → α → List (Str × α)
 | [], k, v => [(k, v)]
 | (n, a) :: r, k, v => if n = k then (n, v) :: r else (n, a) :: kput r k v
def updL {α : Type} : List (Str × α) → Str → (α → α) → List (Str × α)
 | [], _, _ => []
 | (n, a) :: r, k, f => if n = k then (n, f a) :: r else (n, a) :: updL r k f
theorem lkp_cons {α : Type} {n k : Str} {a : α} {r : List (Str × α)} : lkp ((n, a) :: r) k = if n = k then some a else lkp r k := rfl
theorem kput_cons {α : Type} {n k : Str} {a v : α} {r : List (Str × α)} : kput ((n, a) :: r) k v = if n = k then (n, v) :: r else (n, a) :: kput r k v := rfl
theorem updL_cons {α : Type} {n k : Str} {a : α} {f : α → α} {r : List (Str × α)} : updL ((n, a) :: r) k f = if n = k then (n, f a) :: r else (n, a) :: updL r k f := rfl
abbrev Kv := List (Str × Int)
def kget (kv : Kv) (k : Str) : Int := (lkp kv k).getD 0
structure Tsk where
 home : Str
 steps : List Stp
 worth : Int
 pl : Nat
 pieces : List Int
structure Mch where
 pile : List Tsk
 stores : List (Str × Kv)
 given : List Int
 last : Option (Wd × Int)
 left : Nat
abbrev Pln := List (Str × List (Str × List Stp))
def Pln.svc (P : Pln) (h s : Str) : Option (List Stp) := (lkp P h).bind fun v => lkp v s
def begin (P : Pln) (root : List Int) (M : Mch) (h s : Str) (v : Int) : Mch := match P.svc h s with
 | none => { M with last := some (.never, 0) }
 | some steps => { M with pile := ⟨h, steps, v, 0, if M.pile = [] then root else []⟩ :: M.pile }
def doStep (M : Mch) (t : Tsk) (ts : List Tsk) : Stp → Mch
 | .add k n => { M with pile := { t with pl := t.pl + 1 } :: ts, stores := updL M.stores t.home fun kv => kput kv k (kget kv k + n) }
 | .put k => { M with pile := { t with pl := t.pl + 1 } :: ts, stores := updL M.stores t.home fun kv => kput kv k t.worth }
 | .load k => { M with pile := { t with pl := t.pl + 1, worth := kget ((lkp M.stores t.home).getD []) k } :: ts }
 | .plus n => { M with pile := { t with pl := t.pl + 1, worth := t.worth + n } :: ts }
 | .take => { M with pile := { t with pl := t.pl + 1, worth := t.pieces.headD 0, pieces := t.pieces.tail } :: ts }
 | .give => { M with pile := { t with pl := t.pl + 1 } :: ts, given := if ts = [] then M.given ++ [t.worth] else M.given }
 | .more i => { M with pile := { t with pl := if t.pieces = [] then t.pl + 1 else i } :: ts }
 | .fin => { M with pile := { t with pl := t.steps.length } :: ts }
 | .call _ _ _ => M
def goStep (P : Pln) (root : List Int) (M : Mch) (t : Tsk) (ts : List Tsk) : Stp → Mch
 | .call h s _ => begin P root { M with left := M.left - 1 } h s t.worth
 | s => doStep { M with left := M.left - 1 } t ts s
def go (P : Pln) (root : List Int) (M : Mch) : Mch := match M.pile with
 | [] => M
 | t :: ts => match M.last with
  | some (w, v) => if w = .done then { M with last := none, pile := { t with worth := v, pl := t.pl + 1 } :: ts } else { M with pile := ts, last := some (.stopped, 0) }
  | none => match t.steps[t.pl]? with
   | none => { M with pile := ts, last := some (.done, t.worth) }
   | some s => goStep P root M t ts s
def spent (M : Mch) : Prop := M.left = 0 ∧ M.last = none ∧ ∃ t ts, M.pile = t :: ts ∧ t.pl < t.steps.length
abbrev Res := Option (Wd × Int) × List Int × List (Str × Kv)
inductive Fin' (P : Pln) (root : List Int) : Mch → Res → Prop
 | stop {M : Mch} {l : Wd × Int} : M.pile = [] → M.last = some l → Fin' P root M (some l, M.given, M.stores)
 | late {M : Mch} : spent M → Fin' P root M (none, M.given, M.stores)
 | go {M : Mch} {R : Res} : M.pile ≠ [] → ¬ spent M → Fin' P root (go P root M) R → Fin' P root M R
inductive Rch (P : Pln) (root : List Int) : Mch → Mch → Prop
 | refl {M : Mch} : Rch P root M M
 | step {M M' : Mch} : Rch P root M M' → M'.pile ≠ [] → ¬ spent M' → Rch P root M (go P root M')
variable {P : Pln} {root : List Int} {M M' : Mch} {R R' : Res}
theorem Rch.fin (h : Rch P root M M') : Fin' P root M' R → Fin' P root M R := by
 induction h with
 | refl => exact id
 | step _ h1 h2 ih => exact fun f => ih (.go h1 h2 f)
theorem spent_pile (h : spent M) : M.pile ≠ [] := by
 obtain ⟨_, _, t, ts, e, _⟩ := h
 rw [e]; exact List.cons_ne_nil _ _
theorem Fin'.det (h : Fin' P root M R) : Fin' P root M R' → R = R' := by
 induction h with
 | stop h1 h2 =>
  intro h
  cases h with
  | stop h3 h4 => rw [h2] at h4; cases h4; rfl
  | late h3 => exact absurd h1 (spent_pile h3)
  | go h3 _ _ => exact absurd h1 h3
 | late h1 =>
  intro h
  cases h with
  | stop h3 h4 => exact absurd h3 (spent_pile h1)
  | late h3 => rfl
  | go _ h3 _ => exact absurd h1 h3
 | go h1 h2 _ ih =>
  intro h
  cases h with
  | stop h3 h4 => exact absurd h3 h1
  | late h3 => exact absurd h3 h2
  | go _ _ h3 => exact ih h3
theorem begin_given {h s : Str} {v : Int} : (begin P root M h s v).given = M.given := by unfold begin; split <;> rfl
theorem go_given : ∃ x, (go P root M).given = M.given ++ x := by
 unfold go
 split
 ·exact ⟨[], by simp⟩
 ·split
  ·split
   ·exact ⟨[], by simp⟩
   ·exact ⟨[], by simp⟩
  ·split
   ·exact ⟨[], by simp⟩
   ·rename_i s _
    cases s with
    | call h s l => exact ⟨[], by unfold goStep; rw [begin_given]; simp⟩
    | give =>
     unfold goStep doStep
     dsimp only
     split
     ·exact ⟨_, rfl⟩
     ·exact ⟨[], by simp⟩
    | _ => exact ⟨[], by unfold goStep doStep; simp⟩
theorem Fin'.given (h : Fin' P root M R) : ∃ x, R.2.1 = M.given ++ x := by
 induction h with
 | stop _ _ => exact ⟨[], by simp⟩
 | late _ => exact ⟨[], by simp⟩
 | go _ _ _ ih =>
  obtain ⟨x, e⟩ := ih
  obtain ⟨y, e2⟩ := go_given (P := P) (root := root)
  rw [e2] at e
  exact ⟨y ++ x, by rw [e, List.append_assoc]⟩
def Mch.plus (M : Mch) (k : Nat) : Mch := { M with left := M.left + k }
theorem begin_plus {h s : Str} {v : Int} {k : Nat} : begin P root (M.plus k) h s v = (begin P root M h s v).plus k := by unfold begin Mch.plus; split <;> rfl
theorem go_plus {k : Nat} (hn : ¬ spent M) : go P root (M.plus k) = (go P root M).plus k := by
 unfold go
 show (match M.pile with
  | [] => _
  | t :: ts => _) = _
 cases hp : M.pile with
 | nil => rfl
 | cons t ts =>
  dsimp only
  show (match M.last with
   | some (w, v) => _
   | none => _) = _
  cases hl : M.last with
  | some l =>
   obtain ⟨w, v⟩ := l
   dsimp only
   split <;> rfl
  | none =>
   dsimp only
   cases hs : t.steps[t.pl]? with
   | none => rfl
   | some s =>
    dsimp only
    have h0 : M.left ≠ 0 := fun e => hn ⟨e, hl, t, ts, hp, (List.getElem?_eq_some_iff.mp hs).1⟩
    have e : M.left + k - 1 = M.left - 1 + k := by omega
    cases s with
    | call h s l =>
     unfold goStep
     dsimp only
     rw [← begin_plus]
     unfold Mch.plus
     dsimp only
     rw [e]
    | _ =>
     unfold goStep doStep Mch.plus
     dsimp only
     rw [e]
theorem spent_plus {k : Nat} (h : spent (M.plus k)) : spent M := ⟨by have := h.1; unfold Mch.plus at this; dsimp only at this; omega, h.2⟩
theorem Fin'.plus {k : Nat} (h : Fin' P root M R) : (∀ l, R.1 = some l → Fin' P root (M.plus k) R) ∧ ∀ R', Fin' P root (M.plus k) R' → R.2.1.length ≤ R'.2.1.length := by
 induction h with
 | @stop M l h1 h2 =>
  have h3 : Fin' P root (M.plus k) (some l, M.given, M.stores) := .stop (M := M.plus k) h1 h2
  exact ⟨fun _ _ => h3, fun R' h => by rw [← h3.det h]; exact Nat.le_refl _⟩
 | @late M h1 => exact ⟨fun _ e => (nomatch e), fun R' h => by
   obtain ⟨x, e⟩ := h.given
   rw [e]
   show M.given.length ≤ (M.given ++ x).length
   rw [List.length_append]; omega⟩
 | @go M R h1 h2 h3 ih =>
  have h4 : ¬ spent (M.plus k) := fun h => h2 (spent_plus h)
  refine ⟨fun l e => .go (M := M.plus k) h1 h4 (by rw [go_plus h2]; exact ih.1 l e), fun R' h => ?_⟩
  cases h with
  | stop h5 _ => exact absurd h5 h1
  | late h5 => exact absurd h5 h4
  | go _ _ h5 => rw [go_plus h2] at h5; exact ih.2 _ h5
end M
namespace M
open PySem PySem.Spec PyProof.Rows L2 G
structure Own (st0 st : Sto) (A : List (Nat × Ob)) : Prop where
 nd : (A.map Prod.fst).Nodup
 at_ : ∀ p ∈ A, st[p.1]? = some p.2
 lo : ∀ p ∈ A, st0.length ≤ p.1
 sm : Same [] st0 st
section
variable {st0 st : Sto} {A B : List (Nat × Ob)} {n : Nat} {o o' : Ob}
theorem Own.nil : Own st st [] := ⟨List.nodup_nil, fun _ h => (nomatch h), fun _ h => (nomatch h), .refl⟩
theorem Own.new (h : Own st0 st A) : Own st0 (st ++ [o]) ((st.length, o) :: A) := by
 refine ⟨List.nodup_cons.mpr ⟨fun hm => ?_, h.nd⟩, fun p hp => ?_, fun p hp => ?_, h.sm.trans .app⟩
 ·obtain ⟨p, hp, e⟩ := List.mem_map.mp hm
  have := lt_of (h.at_ p hp)
  omega
 ·rcases List.mem_cons.mp hp with rfl | hp
  ·exact getN
  ·exact getA (h.at_ p hp)
 ·rcases List.mem_cons.mp hp with rfl | hp
  ·exact h.sm.len
  ·exact h.lo p hp
theorem Own.app {g : Sto} (h : Own st0 st A) : Own st0 (st ++ g) A := ⟨h.nd, fun p hp => getA (h.at_ p hp), h.lo, h.sm.trans .app⟩
theorem Own.at (h : Own st0 st (A ++ (n, o) :: B)) : st[n]? = some o := h.at_ (n, o) (List.mem_append_right _ List.mem_cons_self)
theorem Own.set (h : Own st0 st (A ++ (n, o) :: B)) : Own st0 (st.set n o') (A ++ (n, o') :: B) := by
 have hnd := h.nd
 rw [List.map_append, List.map_cons] at hnd
 have hne : ∀ p, p ∈ A ∨ p ∈ B → n ≠ p.1 := by
  intro p hp e
  obtain ⟨h1, h2, h3⟩ := List.nodup_append.mp hnd
  rcases hp with hp | hp
  ·exact h3 _ (List.mem_map.mpr ⟨p, hp, rfl⟩) _ List.mem_cons_self e.symm
  ·exact (List.nodup_cons.mp h2).1 (List.mem_map.mpr ⟨p, hp, e.symm⟩)
 refine ⟨by rw [List.map_append, List.map_cons]; exact hnd, fun p hp => ?_, fun p hp => ?_, h.sm.setN (h.lo (n, o) (List.mem_append_right _ List.mem_cons_self))⟩
 ·rcases List.mem_append.mp hp with hp | hp
  ·exact getS (h.at_ p (List.mem_append_left _ hp)) (hne p (.inl hp))
  ·rcases List.mem_cons.mp hp with rfl | hp
   ·exact getSS h.at
   ·exact getS (h.at_ p (List.mem_append_right _ (List.mem_cons_of_mem _ hp))) (hne p (.inr hp))
 ·rcases List.mem_append.mp hp with hp | hp
  ·exact h.lo p (List.mem_append_left _ hp)
  ·rcases List.mem_cons.mp hp with rfl | hp
   ·exact h.lo (n, o) (List.mem_append_right _ List.mem_cons_self)
   ·exact h.lo p (List.mem_append_right _ (List.mem_cons_of_mem _ hp))
theorem Own.sub (h : Own st0 st A) (hs : List.Sublist B A) : Own st0 st B := ⟨List.Nodup.sublist (hs.map _) h.nd, fun p hp => h.at_ p (hs.subset hp), fun p hp => h.lo p (hs.subset hp), h.sm⟩
theorem Own.perm (h : Own st0 st A) (hs : B.Perm A) : Own st0 st B := ⟨((hs.map _).nodup_iff).mpr h.nd, fun p hp => h.at_ p (hs.mem_iff.mp hp), fun p hp => h.lo p (hs.mem_iff.mp hp), h.sm⟩
end
def kvM {α : Type} (f : α → D) (l : List (Str × α)) : List (Key × D) := l.map fun p => (.inr p.1, f p.2)
section
variable {α : Type} {f : α → D} {l : List (Str × α)} {k : Str} {v : α}
theorem valD_cons {k : Key} {d : D} {r : List (Key × D)} {k' : Key} : valD ((k, d) :: r) k' = if k = k' then some d else valD r k' := by
 unfold valD
 by_cases h : k = k'
 ·rw [List.find?_cons_of_pos (by simpa using h), if_pos h]; rfl
 ·rw [List.find?_cons_of_neg (by simpa using h), if_neg h]
theorem valD_kvM : valD (kvM f l) (.inr k) = (lkp l k).map f := by
 induction l with
 | nil => rfl
 | cons p r ih =>
  obtain ⟨n, a⟩ := p
  show valD ((.inr n, f a) :: kvM f r) _ = _
  rw [valD_cons, ih]
  rw [lkp_cons]
  by_cases h : n = k
  ·rw [if_pos (by rw [h]), if_pos h]; rfl
  ·rw [if_neg (fun e => h (Sum.inr.inj e)), if_neg h]
def Ndk (l : List (Str × α)) : Prop := (l.map Prod.fst).Nodup
theorem lkp_none (h : lkp l k = none) : k ∉ l.map Prod.fst := by
 induction l with
 | nil => exact fun h => nomatch h
 | cons p r ih =>
  obtain ⟨n, a⟩ := p
  rw [lkp_cons] at h
  by_cases e : n = k
  ·rw [if_pos e] at h; cases h
  ·rw [if_neg e] at h
   intro hm
   rcases List.mem_cons.mp hm with e2 | hm
   ·exact e e2.symm
   ·exact ih h hm
theorem lkp_some (h : k ∈ l.map Prod.fst) : ∃ v, lkp l k = some v := by
 cases e : lkp l k with
 | none => exact absurd h (lkp_none e)
 | some v => exact ⟨v, rfl⟩
theorem lkp_mem (h : lkp l k = some v) : (k, v) ∈ l := by
 induction l with
 | nil => cases h
 | cons p r ih =>
  obtain ⟨n, a⟩ := p
  rw [lkp_cons] at h
  by_cases e : n = k
  ·rw [if_pos e] at h; cases h; rw [e]; exact List.mem_cons_self
  ·rw [if_neg e] at h; exact List.mem_cons_of_mem _ (ih h)
theorem putD_cons {k : Key} {d : D} {r : List (Key × D)} {k' : Key} {d' : D} (hn : k = k' → ∀ x ∈ r, x.1 ≠ k') : putD ((k, d) :: r) k' d' = if k = k' then (k, d') :: r else (k, d) :: putD r k' d' := by
 unfold putD
 by_cases h : k = k'
 ·have hr : (r.map fun kv => if kv.1 = k' then (kv.1, d') else kv) = r := by
   have := hn h
   clear hn
   induction r with
   | nil => rfl
   | cons x r ih => rw [List.map_cons, if_neg (this x List.mem_cons_self), ih fun y hy => this y (List.mem_cons_of_mem _ hy)]
  rw [List.any_cons, decide_eq_true h, Bool.true_or, if_pos rfl, if_pos h, List.map_cons, if_pos h, hr]
 ·rw [List.any_cons, decide_eq_false h, Bool.false_or, if_neg h, List.map_cons, if_neg h]
  split <;> rfl
theorem putD_kvM (hn : Ndk l) : putD (kvM f l) (.inr k) (f v) = kvM f (kput l k v) := by
 induction l with
 | nil => rfl
 | cons p r ih =>
  obtain ⟨n, a⟩ := p
  obtain ⟨h1, h2⟩ := List.nodup_cons.mp hn
  show putD ((.inr n, f a) :: kvM f r) _ _ = _
  rw [putD_cons, ih h2]
  ·rw [kput_cons]
   by_cases h : n = k
   ·rw [if_pos (by rw [h]), if_pos h]; rfl
   ·rw [if_neg (fun e => h (Sum.inr.inj e)), if_neg h]; rfl
  ·rintro e x hx rfl2
   obtain ⟨q, hq, rfl⟩ := List.mem_map.mp hx
   rw [← e] at rfl2
   exact h1 (List.mem_map.mpr ⟨q, hq, Sum.inr.inj rfl2⟩)
theorem kput_keys : (kput l k v).map Prod.fst = if k ∈ l.map Prod.fst then l.map Prod.fst else l.map Prod.fst ++ [k] := by
 induction l with
 | nil => rfl
 | cons p r ih =>
  obtain ⟨n, a⟩ := p
  rw [kput_cons]
  by_cases h : n = k
  ·rw [if_pos h, if_pos (by rw [List.map_cons, ← h]; exact List.mem_cons_self)]; rfl
  ·rw [if_neg h, List.map_cons, ih]
   have e : (k ∈ List.map Prod.fst ((n, a) :: r)) ↔ (k ∈ List.map Prod.fst r) := by
    rw [List.map_cons, List.mem_cons]
    exact ⟨fun h2 => h2.elim (fun e => absurd e.symm h) id, .inr⟩
   by_cases h2 : k ∈ List.map Prod.fst r
   ·rw [if_pos h2, if_pos (e.mpr h2)]; rfl
   ·rw [if_neg h2, if_neg fun z => h2 (e.mp z)]; rfl
theorem kput_nd (hn : Ndk l) : Ndk (kput l k v) := by
 unfold Ndk
 rw [kput_keys]
 split
 ·exact hn
 ·rename_i h
  exact List.nodup_append.mpr ⟨hn, List.nodup_cons.mpr ⟨fun h => (nomatch h), List.nodup_nil⟩, fun a ha b hb => by
   rw [List.mem_singleton.mp hb]
   exact fun e => h (e ▸ ha)⟩
theorem updL_keys {g : α → α} : (updL l k g).map Prod.fst = l.map Prod.fst := by
 induction l with
 | nil => rfl
 | cons p r ih =>
  obtain ⟨n, a⟩ := p
  rw [updL_cons]
  split
  ·rfl
  ·rw [List.map_cons, ih]; rfl
theorem updL_mem {g : α → α} {Q : α → Prop} (h : ∀ p ∈ l, Q p.2) (hg : ∀ a, Q a → Q (g a)) : ∀ p ∈ updL l k g, Q p.2 := by
 induction l with
 | nil => exact fun _ h => nomatch h
 | cons p r ih =>
  obtain ⟨n, a⟩ := p
  intro p hp
  rw [updL_cons] at hp
  split at hp
  ·rcases List.mem_cons.mp hp with rfl | hp
   ·exact hg _ (h (n, a) List.mem_cons_self)
   ·exact h p (List.mem_cons_of_mem _ hp)
  ·rcases List.mem_cons.mp hp with rfl | hp
   ·exact h (n, a) List.mem_cons_self
   ·exact ih (fun q hq => h q (List.mem_cons_of_mem _ hq)) p hp
end
def stepsD (s : List Stp) : D := .tup (s.map Stp.d)
def nmR : List Str → List Nat → List (Key × D)
 | n :: ns, i :: is => (.inr n, .ref i) :: nmR ns is
 | _, _ => []
def svCs : List Nat → Pln → List (Nat × Ob)
 | i :: is, p :: P => (i, .dK (kvM stepsD p.2)) :: svCs is P
 | _, _ => []
structure Wld (st : Sto) (w : Nat) (P : Pln) (ids : List Nat) : Prop where
 len : ids.length = P.length
 top : st[w]? = some (.dK (nmR (P.map Prod.fst) ids))
 sv : ∀ p ∈ svCs ids P, st[p.1]? = some p.2
 nd : Ndk P
theorem Wld.same {st s : Sto} {w : Nat} {P : Pln} {ids : List Nat} (h : Wld st w P ids) (S : Same [] st s) : Wld s w P ids := ⟨h.len, S.eq _ _ h.top (fun h => nomatch h), fun p hp => S.eq _ _ (h.sv p hp) (fun h => nomatch h), h.nd⟩
theorem nmR_val {P : Pln} : ∀ {ids : List Nat} {h : Str} {v : List (Str × List Stp)}, ids.length = P.length → lkp P h = some v → ∃ i, valD (nmR (P.map Prod.fst) ids) (.inr h) = some (.ref i) ∧ (i, Ob.dK (kvM stepsD v)) ∈ svCs ids P := by
 induction P with
 | nil => intro ids h v _ e; cases e
 | cons p r ih =>
  obtain ⟨n, a⟩ := p
  intro ids h v hl e
  cases ids with
  | nil => cases hl
  | cons i is =>
   rw [lkp_cons] at e
   show ∃ j, valD ((.inr n, .ref i) :: nmR (r.map Prod.fst) is) _ = _ ∧ _ ∈ (i, _) :: svCs is r
   rw [valD_cons]
   by_cases hn : n = h
   ·rw [if_pos hn] at e
    cases e
    exact ⟨i, by rw [if_pos (by rw [hn])], List.mem_cons_self⟩
   ·rw [if_neg hn] at e
    obtain ⟨j, h1, h2⟩ := ih (Nat.succ.inj hl) e
    exact ⟨j, by rw [if_neg fun z => hn (Sum.inr.inj z)]; exact h1, List.mem_cons_of_mem _ h2⟩
section
variable {st : Sto} {w : Nat} {P : Pln} {ids : List Nat} {h s : Str} {v : List (Str × List Stp)}
theorem Wld.home (W : Wld st w P ids) (e : lkp P h = some v) : ∃ i, ixD (.ref w) (.str h) st = some (.ok (.ref i), st) ∧ st[i]? = some (.dK (kvM stepsD v)) := by
 obtain ⟨i, h1, h2⟩ := nmR_val W.len e
 refine ⟨i, ?_, W.sv _ h2⟩
 unfold ixD dget
 dsimp only
 rw [W.top]
 dsimp only [keyOf, Option.map_some]
 rw [h1]
theorem sv_ix {i : Nat} {x : List Stp} (hi : st[i]? = some (.dK (kvM stepsD v))) (e : lkp v s = some x) : ixD (.ref i) (.str s) st = some (.ok (stepsD x), st) := by
 unfold ixD dget
 dsimp only
 rw [hi]
 dsimp only [keyOf, Option.map_some]
 rw [valD_kvM, e]
 first | done | rfl
theorem dct_in {n : Nat} {kvs : List (Key × D)} {k : Str} (h : st[n]? = some (.dK kvs)) : inD (.str k) (.ref n) st = some (.ok (.bl (valD kvs (.inr k)).isSome), st) := by
 unfold inD inFlat inStr alt
 unfold inDct dget
 simp [seqOf, tupOf, lstOf, h, keyOf, stuck]
theorem dct_ni {n : Nat} {kvs : List (Key × D)} {k : Str} (h : st[n]? = some (.dK kvs)) : niD (.str k) (.ref n) st = some (.ok (.bl (!(valD kvs (.inr k)).isSome)), st) := by
 unfold niD inFlat inStr alt
 unfold inDct dget
 simp [seqOf, tupOf, lstOf, h, keyOf, stuck]
end
end M
namespace M
open PySem PySem.Spec PyProof.Rows L2 G
section
variable {env env' : Env} {st s s2 s3 : Sto} {n C f : Nat} {cs : List Nat} {fs fs' : List (Nat × D)} {d x y z : D} {m mo m1 m2 : Env → Mo D} {Q : Out → Env → Sto → Prop} {xs : List D} {kvs : List (Key × D)} {k : Str}
theorem r_fldS (h : m env st = some (.ok d, s)) (h1 : mo env s = some (.ok (.ref n), s2)) (h2 : s2[n]? = some (.ins C fs)) (hc : C ∈ cs) (hl : fs.length < 900) (q : Q .nx env (s2.set n (.ins C (putFD f d fs)))) : Runs (fldS cs f mo m) env st Q :=
 ⟨_, _, _, (bndS_ok h).trans ((bndS_ok h1).trans (by unfold setFld; dsimp only; rw [h2]; dsimp only; rw [if_pos ⟨hc, hl⟩])), q⟩
theorem r_fldAug {op : D → D → Mo D} (h : mo env st = some (.ok (.ref n), s)) (h1 : s[n]? = some (.ins C fs)) (hc : C ∈ cs) (hf : fs.lookup f = some x) (h2 : m env s = some (.ok y, s2)) (h3 : op x y s2 = some (.ok z, s3)) (h4 : s3[n]? = some (.ins C fs')) (hl : fs'.length < 900) (q : Q .nx env (s3.set n (.ins C (putFD f z fs')))) : Runs (fldAug cs f op mo m) env st Q :=
 ⟨_, _, _, (bndS_ok h).trans (by unfold fldC; dsimp only; rw [h1]; dsimp only; rw [if_pos hc, hf]; dsimp only; refine (bndS_ok h2).trans ((bndS_ok h3).trans ?_); unfold putC; rw [h4]; dsimp only; rw [if_pos ⟨rfl, hl⟩]), q⟩
theorem eqNilE (h : m env st = some (.ok (.ref n), st)) (hn : st[n]? = some (.lst xs)) : op2 eqE m (opN lstD aNil) env st = some (.ok (.bl xs.isEmpty), st ++ [.lst []]) := by
 refine op2E h (opNE args0 (show lstD [] st = some (.ok (.ref st.length), st ++ [.lst []]) from rfl)) ?_
 unfold eqE alt nilD lstOf
 dsimp only
 rw [getA hn, getN]
 dsimp only
 rw [Bool.false_xor]
theorem neNilE (h : m env st = some (.ok (.ref n), st)) (hn : st[n]? = some (.lst xs)) : op2 neE m (opN lstD aNil) env st = some (.ok (.bl (!xs.isEmpty)), st ++ [.lst []]) := by
 refine op2E h (opNE args0 (show lstD [] st = some (.ok (.ref st.length), st ++ [.lst []]) from rfl)) ?_
 unfold neE alt nilD lstOf
 dsimp only
 rw [getA hn, getN]
 dsimp only
 rw [Bool.true_xor]
theorem popE (h : m env st = some (.ok (.ref n), st)) (hn : st[n]? = some (.lst (xs ++ [x]))) : mth "list" (lstMt popF) m aNil env st = some (.ok x, st.set n (.lst xs)) := by
 unfold mth
 rw [bnd_ok h]
 have hty : isTy "list" (.ref n) st = true := by unfold isTy; dsimp only; rw [hn]; rfl
 unfold chk
 rw [if_pos hty]
 refine (bnd_ok (s := st) (a := []) rfl).trans ?_
 unfold lstMt
 dsimp only
 rw [hn]
 dsimp only
 unfold popF
 simp
theorem popAt0E (h : m env st = some (.ok (.ref n), st)) (hn : st[n]? = some (.lst (x :: xs))) : mth "list" (lstMt popAtF) m (aCons (cst (.int 0)) aNil) env st = some (.ok x, st.set n (.lst xs)) := by
 unfold mth
 rw [bnd_ok h]
 have hty : isTy "list" (.ref n) st = true := by unfold isTy; dsimp only; rw [hn]; rfl
 unfold chk
 rw [if_pos hty]
 refine (bnd_ok (s := st) (a := [.int 0]) rfl).trans ?_
 unfold lstMt
 dsimp only
 rw [hn]
 dsimp only
 unfold popAtF
 have e : seqIndex? 0 (x :: xs).length = some 0 := seqIndex_of (Int.le_refl _) (by simp)
 dsimp only
 rw [if_pos (by decide), e]
 first | done | rfl
theorem ix_last (hn : st[n]? = some (.lst (xs ++ [x]))) : ixD (.ref n) (.int (-1)) st = some (.ok x, st) := by
 unfold ixD
 dsimp only
 rw [hn]
 dsimp only
 have e : atI (xs ++ [x]) (-1) = some x := by
  unfold atI ixN
  simp only [List.length_append, List.length_cons, List.length_nil]
  rw [if_neg (by omega), if_pos (by omega)]
  show (xs ++ [x])[(-1 + ((xs.length + (0 + 1) : Nat) : Int)).toNat]? = _
  rw [show (-1 + ((xs.length + (0 + 1) : Nat) : Int)).toNat = xs.length by omega]
  simp
 rw [e]
 first | done | rfl
theorem lastE (h : m env st = some (.ok (.ref n), st)) (hn : st[n]? = some (.lst (xs ++ [x]))) : op2 ixD m (op1 negI (cst (.int 1))) env st = some (.ok x, st) := op2E h (op1E rfl (show negI (.int 1) st = some (.ok (.int (-1)), st) from rfl)) (ix_last hn)
theorem dk_ix (hn : st[n]? = some (.dK kvs)) (hv : valD kvs (.inr k) = some d) : ixD (.ref n) (.str k) st = some (.ok d, st) := by
 unfold ixD dget
 dsimp only
 rw [hn]
 dsimp only [keyOf, Option.map_some]
 rw [hv]
theorem dk_set (hn : st[n]? = some (.dK kvs)) (hl : kvs.length < 1000000) : setD (.ref n) (.str k) d st = some (st.set n (.dK (putD kvs (.inr k) d))) := by
 unfold setD
 dsimp only
 rw [hn]
 dsimp only [keyOf]
 rw [if_pos hl]
theorem getE2E {mk mz : Env → Mo D} (h : m env st = some (.ok (.ref n), st)) (hn : st[n]? = some (.dK kvs)) (h1 : mk env st = some (.ok (.str k), st)) (h2 : mz env st = some (.ok d, st)) : getE2 m mk mz env st = some (.ok ((valD kvs (.inr k)).getD d), st) := by
 unfold getE2
 rw [bnd_ok h]
 unfold chk
 rw [if_pos (by unfold isDct; dsimp only; rw [hn])]
 rw [bnd_ok h1, bnd_ok h2]
 unfold dget
 dsimp only
 rw [hn]
 first | done | rfl
theorem tup_ix {i : Int} (h0 : 0 ≤ i) (hx : xs[i.toNat]? = some x) : ixD (.tup xs) (.int i) st = some (.ok x, st) := by
 unfold ixD
 dsimp only
 rw [atI_nn h0 hx]
 first | done | rfl
theorem sub_int {a b : Int} : subI (.int a) (.int b) st = some (.ok (.int (a - b)), st) := rfl
theorem mkE {C : Nat} {f : List D → Mo D} {ms : Env → Mo (List D)} {as : List D} (h : ms env st = some (.ok as, s)) (h2 : f (.ref s.length :: as) (s ++ [.ins C []]) = some (.ok .non, s2)) : mkB C (gK []) f ms aNil env st = some (.ok (.ref s.length), s2) := by
 have e : gK [] (.ref s.length :: as) [] = .ref s.length :: as := by simp [gK, kwp]
 unfold mkB
 rw [bnd_ok h]
 refine (bnd_ok (s := s) (a := []) rfl).trans ?_
 unfold mkD
 rw [e, h2]
theorem len_tupE : lenD [.tup xs] st = some (.ok (.int xs.length), st) := rfl
theorem listE_tup : listE [.tup xs] st = some (.ok (.ref st.length), st ++ [.lst xs]) := rfl
theorem tuple_lst (hn : st[n]? = some (.lst xs)) : tupleD [.ref n] st = some (.ok (.tup xs), st) := by
 unfold tupleD tupOf lstOf
 dsimp only
 rw [hn]
theorem Ends'.to {f : Mo D} {Q : D → Sto → Prop} (h : Ends' f st Q) : ∃ d s, f st = some (.ok d, s) ∧ Q d s := h
end
end M
namespace M
open PySem PySem.Spec PyProof.Rows L2 G
def lastD : Option (Wd × Int) → D
 | none => .non
 | some (w, v) => .tup [.str w.s, .int v]
def RtOk (st0 : Sto) (rt : D) (root : List Int) : Prop := ∀ s, Same [] st0 s → listE [rt] s = some (.ok (.ref s.length), s ++ [.lst (root.map .int)])
def runOb (w sd g p : Nat) (pd : D) (left : Int) (last : D) : Ob := .ins 19 [(20, .ref w), (6, pd), (21, .int left), (22, .ref sd), (23, .ref g), (24, .ref p), (25, last)]
def tskOb (t : Tsk) (b : Nat) : Ob := .ins 18 [(16, .str t.home), (17, stepsD t.steps), (18, .int t.worth), (6, .ref b), (19, .int (t.pl : Nat))]
def intsOb (xs : List Int) : Ob := .lst (xs.map .int)
def tCs : List (Nat × Nat) → List Tsk → List (Nat × Ob)
 | (a, b) :: is, t :: ts => (a, tskOb t b) :: (b, intsOb t.pieces) :: tCs is ts
 | _, _ => []
def pileD {β : Type} (is : List (Nat × β)) : List D := (is.map fun i => D.ref i.1).reverse
def sCs : List Nat → List (Str × Kv) → List (Nat × Ob)
 | c :: cs, s :: ss => (c, .dK (kvM .int s.2)) :: sCs cs ss
 | _, _ => []
def sdOb (ss : List (Str × Kv)) (cs : List Nat) : Ob := .dK (nmR (ss.map Prod.fst) cs)
structure PC (st0 st : Sto) (w r sd g p : Nat) (cs : List Nat) (is : List (Nat × Nat)) (pd : D) (M : Mch) : Prop where
 own : Own st0 st ((r, runOb w sd g p pd M.left (lastD M.last)) :: (sd, sdOb M.stores cs) :: (g, intsOb M.given) :: (p, .lst (pileD is)) :: (sCs cs M.stores ++ tCs is M.pile))
 lc : cs.length = M.stores.length
 li : is.length = M.pile.length
theorem tinit {st0 st : Sto} {t : Nat} {A : List (Nat × Ob)} {h : Str} {x : List Stp} {v : Int} {ps : List Int} {pd : D} (hpd : RtOk st0 pd ps) (O : Own st0 st ((t, .ins 18 []) :: A)) :
  Ends' (m_PlainTask__init [.ref t, .str h, stepsD x, .int v, pd]) st fun d s => d = .non ∧ ∃ p, Own st0 s ((t, tskOb ⟨h, x, v, 0, ps⟩ p) :: (p, intsOb ps) :: A) := by
 refine run_f rfl ?_
 show Runs b_PlainTask__init [some (.ref t), some (.str h), some (stepsD x), some (.int v), some pd] st _
 refine r_seqS (r_fldS rfl rfl (Own.at (A := []) O) (by simp) (by simp) ?_)
 have O := Own.set (A := []) (o' := .ins 18 (putFD 16 (.str h) [])) O
 generalize st.set t (.ins 18 (putFD 16 (.str h) [])) = st at O ⊢
 refine r_seqS (r_fldS rfl rfl (Own.at (A := []) O) (by simp) (by simp [putFD]) ?_)
 have O := Own.set (A := []) (o' := .ins 18 (putFD 17 (stepsD x) (putFD 16 (.str h) []))) O
 generalize st.set t (.ins 18 (putFD 17 (stepsD x) (putFD 16 (.str h) []))) = st at O ⊢
 refine r_seqS (r_fldS rfl rfl (Own.at (A := []) O) (by simp) (by simp [putFD]) ?_)
 have O := Own.set (A := []) (o' := .ins 18 (putFD 18 (.int v) (putFD 17 (stepsD x) (putFD 16 (.str h) [])))) O
 generalize st.set t (.ins 18 (putFD 18 (.int v) (putFD 17 (stepsD x) (putFD 16 (.str h) [])))) = st at O ⊢
 have Sm := O.sm
 have O := Own.new (o := intsOb ps) O
 refine r_seqS (r_fldS (s := st ++ [intsOb ps]) (d := .ref st.length) (opNE (args1 rfl) (hpd _ Sm)) rfl (Own.at (A := [_]) O) (by simp) (by simp [putFD]) ?_)
 generalize st.length = p at O ⊢
 generalize st ++ [intsOb ps] = st at O ⊢
 have O := Own.set (A := [_]) (o' := .ins 18 (putFD 6 (.ref p) (putFD 18 (.int v) (putFD 17 (stepsD x) (putFD 16 (.str h) []))))) O
 generalize st.set t _ = st at O ⊢
 refine r_fldS (d := .int 0) rfl rfl (Own.at (A := [_]) O) (by simp) (by simp [putFD]) ⟨rfl, p, ?_⟩
 have O := Own.set (A := [_]) (o' := .ins 18 (putFD 19 (.int 0) (putFD 6 (.ref p) (putFD 18 (.int v) (putFD 17 (stepsD x) (putFD 16 (.str h) [])))))) O
 exact O.perm (List.Perm.swap ..)
end M
namespace M
open PySem PySem.Spec PyProof.Rows L2 G
theorem perm2 {α : Type} {a b : α} {X Y : List α} : (X ++ a :: b :: Y).Perm (a :: b :: (X ++ Y)) := List.perm_middle.trans (.cons _ List.perm_middle)
theorem pile_snoc {β : Type} {is : List (Nat × β)} {i : Nat × β} : pileD (i :: is) = pileD is ++ [.ref i.1] := by unfold pileD; rw [List.map_cons, List.reverse_cons]
theorem pile_emp {β : Type} {is : List (Nat × β)} {ts : List Tsk} (li : is.length = ts.length) : (pileD is).isEmpty = decide (ts = []) := by
 cases is with
 | nil => cases ts with
  | nil => rfl
  | cons _ _ => cases li
 | cons i r => cases ts with
  | nil => cases li
  | cons t ts => rw [pile_snoc]; simp
theorem pile_len {β : Type} {is : List (Nat × β)} : (pileD is).length = is.length := by unfold pileD; simp
section
variable {st0 st : Sto} {w r sd g p : Nat} {cs ids : List Nat} {is : List (Nat × Nat)} {root : List Int} {M : Mch} {P : Pln} {h s : Str} {v : Int} {v' : List (Str × List Stp)}
theorem begin_p (hpd : RtOk st0 pd root) (W : Wld st0 w P ids) (C : PC st0 st w r sd g p cs is pd M) (hh : lkp P h = some v') (hlen : is.length < 1000) :
  Ends' (m_PlainRun_begin [.ref r, .str h, .str s, .int v]) st fun d s' => d = .non ∧ ∃ is', PC st0 s' w r sd g p cs is' pd (begin P root M h s v) := by
 obtain ⟨O, lc, li⟩ := C
 refine run_f rfl ?_
 show Runs b_PlainRun_begin [some (.ref r), some (.str h), some (.str s), some (.int v), none] st _
 have hr := Own.at (A := []) O
 obtain ⟨i, e1, e2⟩ := (W.same O.sm).home hh
 have hb : (valD (kvM stepsD v') (.inr s)).isSome = (lkp v' s).isSome := by rw [valD_kvM, Option.isSome_map]
 have e3 := dct_ni (k := s) e2
 rw [hb] at e3
 have hc := truE (op2E (m1 := var 2) (env := [some (.ref r), some (.str h), some (.str s), some (.int v), none]) rfl (op2E (m2 := var 1) (op1E (m := var 0) rfl (fldE (cs := [19]) (f := 20) hr (by simp) rfl)) rfl e1) e3)
 cases hs : lkp v' s with
 | none =>
  rw [hs] at hc
  have hsv : P.svc h s = none := by unfold Pln.svc; rw [hh]; exact hs
  refine r_seqS (r_ifT hc (r_seqS (r_fldS (d := .tup [.str "never", .int 0]) rfl rfl hr (by simp) (by simp) (r_retNS ⟨rfl, is, ?_⟩))))
  unfold begin
  rw [hsv]
  exact ⟨Own.set (A := []) (o' := runOb w sd g p pd M.left (lastD (some (.never, 0)))) O, lc, li⟩
 | some x =>
  rw [hs] at hc
  have hsv : P.svc h s = some x := by unfold Pln.svc; rw [hh]; exact hs
  refine r_seqS (r_ifF hc (r_passS ?_))
  have hp := Own.at (A := [_, _, _]) O
  have hq := eqNilE (m := op1 (fldD [19] 24) (var 0)) (env := [some (.ref r), some (.str h), some (.str s), some (.int v), none]) (op1E rfl (fldE hr (by simp) rfl)) hp
  rw [pile_emp li] at hq
  have O1 := Own.app (g := [Ob.lst []]) O
  have hr1 := Own.at (A := []) O1
  have hi : ifE (tru (op2 eqE (op1 (fldD [19] 24) (var 0)) (opN lstD (aNil)))) (op1 (fldD [18, 19] 6) (var 0)) (opN tupD (aNil)) [some (.ref r), some (.str h), some (.str s), some (.int v), none] st = some (.ok (if M.pile = [] then pd else .tup []), st ++ [Ob.lst []]) := by
   by_cases hn : M.pile = []
   ·rw [if_pos hn]
    rw [decide_eq_true hn] at hq
    exact ifET (truE hq) (op1E rfl (fldE hr1 (by simp) rfl))
   ·rw [if_neg hn]
    rw [decide_eq_false hn] at hq
    exact ifEF (truE hq) rfl
  have hq2 : RtOk st0 (if M.pile = [] then pd else .tup []) (if M.pile = [] then root else []) := by
   by_cases hn : M.pile = []
   ·rw [if_pos hn, if_pos hn]; exact hpd
   ·rw [if_neg hn, if_neg hn]; exact fun s _ => listE_tup
  refine r_seqS (r_setS hi ?_)
  show Runs _ [some (.ref r), some (.str h), some (.str s), some (.int v), some (if M.pile = [] then pd else .tup [])] _ _
  generalize st ++ [Ob.lst []] = st1 at O1 hr1 ⊢
  obtain ⟨i, e1, e2⟩ := (W.same O1.sm).home hh
  have hp1 := Own.at (A := [_, _, _]) O1
  obtain ⟨d, s2, e5, rfl, b, O2⟩ := (tinit (h := h) (x := x) (v := v) (ps := if M.pile = [] then root else []) hq2 (O1.new (o := .ins 18 []))).to
  have hp2 := Own.at (A := [_, _, _, _, _]) O2
  refine r_exprS (appE2 (xs := pileD is) (x := .ref st1.length) (op1E rfl (fldE hr1 (by simp) rfl)) hp1 (mkE (argsC rfl (argsC (op2E (op2E (op1E rfl (fldE hr1 (by simp) rfl)) rfl e1) rfl (sv_ix e2 hs)) (argsC rfl (args1 rfl)))) e5) hp2 (by rw [pile_len]; omega)) ⟨rfl, (st1.length, b) :: is, ?_⟩
  have O3 := Own.set (A := [_, _, _, _, _]) (o' := .lst (pileD ((st1.length, b) :: is))) O2
  rw [pile_snoc] at O3
  unfold begin
  rw [hsv]
  refine ⟨?_, lc, by rw [List.length_cons, List.length_cons, li]⟩
  rw [pile_snoc]
  exact O3.perm (perm2 (X := (r, _) :: (sd, _) :: (g, _) :: (p, _) :: sCs cs M.stores))
end
end M
namespace M
open PySem PySem.Spec PyProof.Rows L2 G
section
variable {st0 st s : Sto} {A : List (Nat × Ob)} {w : Nat} {u : Ob}
theorem Own.lock (O : Own st0 st A) (hw : st0[w]? = some u) : Own (st0.set w (.lk u)) (st.set w (.lk u)) A := by
 have hl := lt_of hw
 have hl2 := O.sm.len
 refine ⟨O.nd, fun p hp => getS (O.at_ p hp) (by have := O.lo p hp; omega), fun p hp => by rw [List.length_set]; exact O.lo p hp, by simpa using hl2, fun n o h _ => ?_⟩
 by_cases e : w = n
 ·subst e
  rw [List.getElem?_set_self hl] at h
  cases h
  exact List.getElem?_set_self (by omega)
 ·rw [List.getElem?_set_ne e] at h
  rw [List.getElem?_set_ne e]
  exact O.sm.eq n o h (fun h => nomatch h)
theorem Own.unlock (O : Own (st0.set w (.lk u)) s A) (hw : st0[w]? = some u) : Own st0 (s.set w u) A := by
 have hl := lt_of hw
 have hl2 := O.sm.len
 rw [List.length_set] at hl2
 have lo : ∀ p ∈ A, st0.length ≤ p.1 := fun p hp => by have := O.lo p hp; rw [List.length_set] at this; exact this
 refine ⟨O.nd, fun p hp => getS (O.at_ p hp) (by have := lo p hp; omega), lo, by simpa using hl2, fun n o h _ => ?_⟩
 by_cases e : w = n
 ·subst e
  rw [hw] at h
  cases h
  exact List.getElem?_set_self (by omega)
 ·rw [List.getElem?_set_ne e]
  exact O.sm.eq n o (by rw [List.getElem?_set_ne e]; exact h) (fun h => nomatch h)
theorem Own.locked (O : Own (st0.set w (.lk u)) s A) (hw : st0[w]? = some u) : s[w]? = some (.lk u) := O.sm.eq w _ (List.getElem?_set_self (lt_of hw)) (fun h => nomatch h)
end
theorem nmR_app {n : Str} {c : Nat} : ∀ {ns : List Str} {cs : List Nat}, cs.length = ns.length → nmR (ns ++ [n]) (cs ++ [c]) = nmR ns cs ++ [(.inr n, .ref c)]
 | [], [], _ => rfl
 | [], _ :: _, h => nomatch h
 | _ :: _, [], h => nomatch h
 | m :: ns, d :: cs, h => by
  show (_, _) :: nmR (ns ++ [n]) (cs ++ [c]) = _
  rw [nmR_app (Nat.succ.inj h)]
  first | done | rfl
theorem sCs_app {c : Nat} {x : Str × Kv} : ∀ {ss : List (Str × Kv)} {cs : List Nat}, cs.length = ss.length → sCs (cs ++ [c]) (ss ++ [x]) = sCs cs ss ++ [(c, .dK (kvM .int x.2))]
 | [], [], _ => rfl
 | [], _ :: _, h => nomatch h
 | _ :: _, [], h => nomatch h
 | m :: ns, d :: cs, h => by
  show (_, _) :: sCs (cs ++ [c]) (ns ++ [x]) = _
  rw [sCs_app (Nat.succ.inj h)]
  first | done | rfl
theorem nmR_keys : ∀ {ns : List Str} {cs : List Nat}, cs.length = ns.length → (nmR ns cs).map (fun kv => keyD kv.1) = ns.map D.str
 | [], [], _ => rfl
 | [], _ :: _, h => nomatch h
 | _ :: _, [], h => nomatch h
 | m :: ns, d :: cs, h => by
  show _ :: (nmR ns cs).map _ = _
  rw [nmR_keys (Nat.succ.inj h)]
  first | done | rfl
theorem nmR_len : ∀ {ns : List Str} {cs : List Nat}, cs.length = ns.length → (nmR ns cs).length = ns.length
 | [], [], _ => rfl
 | [], _ :: _, h => nomatch h
 | _ :: _, [], h => nomatch h
 | m :: ns, d :: cs, h => congrArg Nat.succ (nmR_len (Nat.succ.inj h))
theorem nmR_mem : ∀ {ns : List Str} {cs : List Nat} {x : Key × D}, x ∈ nmR ns cs → ∃ n ∈ ns, x.1 = .inr n
 | [], [], _, h => nomatch h
 | [], _ :: _, _, h => nomatch h
 | _ :: _, [], _, h => nomatch h
 | m :: ns, d :: cs, x, h => by
  rcases List.mem_cons.mp h with rfl | h
  ·exact ⟨m, List.mem_cons_self, rfl⟩
  ·obtain ⟨n, h1, h2⟩ := nmR_mem h
   exact ⟨n, List.mem_cons_of_mem _ h1, h2⟩
theorem putD_new {kvs : List (Key × D)} {k : Key} {d : D} (h : ∀ x ∈ kvs, x.1 ≠ k) : putD kvs k d = kvs ++ [(k, d)] := by
 unfold putD
 rw [if_neg]
 intro ha
 obtain ⟨x, hx, e⟩ := List.any_eq_true.mp ha
 exact h x hx (of_decide_eq_true e)
def noKv (ns : List Str) : List (Str × Kv) := ns.map fun n => (n, [])
theorem noKv_len {ns : List Str} : (noKv ns).length = ns.length := List.length_map ..
theorem noKv_keys {ns : List Str} : (noKv ns).map Prod.fst = ns := by unfold noKv; rw [List.map_map]; exact List.map_id' _
theorem own_name {st0 st : Sto} {n0 : Nat} {A : List (Nat × Ob)} {ns : List Str} {n : Str} {cs : List Nat} (O : Own st0 st ((n0, .dK (nmR ns cs)) :: (sCs cs (noKv ns) ++ A))) (hl : cs.length = ns.length) (hn : n ∉ ns) :
  Own st0 ((st ++ [Ob.dK []]).set n0 (.dK (putD (nmR ns cs) (.inr n) (.ref st.length)))) ((n0, .dK (nmR (ns ++ [n]) (cs ++ [st.length]))) :: (sCs (cs ++ [st.length]) (noKv (ns ++ [n])) ++ A)) := by
 have O1 := Own.set (A := [_]) (o' := .dK (putD (nmR ns cs) (.inr n) (.ref st.length))) (O.new (o := .dK []))
 rw [putD_new (fun x hx e => by
  obtain ⟨m, h1, h2⟩ := nmR_mem hx
  rw [h2] at e
  exact hn (Sum.inr.inj e ▸ h1)), ← nmR_app hl] at O1
 rw [putD_new (fun x hx e => by
  obtain ⟨m, h1, h2⟩ := nmR_mem hx
  rw [h2] at e
  exact hn (Sum.inr.inj e ▸ h1)), ← nmR_app hl]
 refine O1.perm ?_
 have e : noKv (ns ++ [n]) = noKv ns ++ [(n, [])] := by unfold noKv; rw [List.map_append]; rfl
 rw [e, sCs_app (by rw [noKv_len]; exact hl), List.append_assoc]
 show ((n0, _) :: (sCs cs (noKv ns) ++ (st.length, _) :: A)).Perm ((st.length, _) :: (n0, _) :: (sCs cs (noKv ns) ++ A))
 exact List.perm_middle (l₁ := (n0, _) :: sCs cs (noKv ns))
theorem dc_loop {st0 : Sto} {n0 : Nat} {A : List (Nat × Ob)} {names : List Str} {env0 : Env} (hnd : names.Nodup) (he : 4 < env0.length) (hs : names.length < 1000) : ∀ (n i : Nat) (st : Sto) (cs : List Nat), i ≤ names.length → names.length - i < n → cs.length = i → Own st0 st ((n0, .dK (nmR (names.take i) cs)) :: (sCs cs (noKv (names.take i)) ++ A)) →
  ∃ s cs', dcM (gFix (names.map D.str)) (gVar 4) yesT (var 4) newK env0 n0 n i st = some s ∧ cs'.length = names.length ∧ Own st0 s ((n0, .dK (nmR names cs')) :: (sCs cs' (noKv names) ++ A)) := by
 intro n
 induction n with
 | zero => intro i st cs _ h; exact absurd h (Nat.not_lt_zero _)
 | succ n ih =>
  intro i st cs hi hn hc O
  have hct : cs.length = (names.take i).length := by rw [hc, List.length_take]; omega
  by_cases e : i = names.length
  ·subst e
   rw [List.take_length] at O
   exact ⟨st, cs, by unfold dcM gFix; simp, hc, O⟩
  ·have hlt : i < names.length := by omega
   have hx : names[i]? = some names[i] := List.getElem?_eq_getElem hlt
   have htk : names.take (i + 1) = names.take i ++ [names[i]] := (List.take_append_getElem hlt).symm
   have hni : names[i] ∉ names.take i := by
    intro hm
    obtain ⟨j, hj, e2⟩ := List.mem_iff_getElem.mp hm
    rw [List.getElem_take] at e2
    have h1 : j < i := by rw [List.length_take] at hj; omega
    exact (List.pairwise_iff_getElem.mp hnd) j i (by omega) hlt h1 e2
   have O1 := own_name O hct hni
   obtain ⟨s, cs', h1, h2, h3⟩ := ih (i + 1) _ (cs ++ [st.length]) (by omega) (by omega) (by rw [List.length_append]; show _ + 1 = _; omega) (by rw [htk]; exact O1)
   refine ⟨s, cs', ?_, h2, h3⟩
   unfold dcM
   have hg : gFix (names.map D.str) i st = some (some (.str names[i])) := by unfold gFix; rw [List.getElem?_map, hx]; rfl
   have hv : gVar 4 (.str names[i]) env0 st = some (env0.set 4 (some (.str names[i])), st) := rfl
   have hv2 : var 4 (env0.set 4 (some (.str names[i]))) st = some (.ok (.str names[i]), st) := by unfold var; rw [List.getElem?_set_self he]; rfl
   rw [hg]
   dsimp only
   rw [hv]
   dsimp only
   have hy : yesT (env0.set 4 (some (.str names[i]))) st = some (.ok true, st) := rfl
   rw [hy]
   dsimp only
   rw [hv2]
   dsimp only
   have hk : newK (env0.set 4 (some (.str names[i]))) st = some (.ok (.ref st.length), st ++ [.dK []]) := rfl
   rw [hk]
   dsimp only [keyOf]
   rw [getA (Own.at (A := []) O)]
   dsimp only
   rw [if_pos (by rw [nmR_len hct, List.length_take]; omega)]
   exact h1
end M
namespace M
open PySem PySem.Spec PyProof.Rows L2 G
theorem perm4 {α : Type} {a b c d : α} {S : List α} : (a :: b :: c :: d :: S).Perm (c :: d :: b :: a :: S) :=
 List.Perm.append_right S (l₁ := [a, b, c, d]) (l₂ := [c, d, b, a]) ((List.perm_append_comm (l₁ := [a, b]) (l₂ := [c, d])).trans (.cons _ (.cons _ (.swap ..))))
section
variable {st0 st : Sto} {w r : Nat} {ids : List Nat} {root : List Int} {P : Pln} {left : Nat}
theorem keys_e {st : Sto} {w : Nat} {kvs : List (Key × D)} {m : Env → Mo D} {env : Env} (h : m env st = some (.ok (.ref w), st)) (hw : st[w]? = some (.lk (.dK kvs))) : keysM m env st = some (.ok (gFix (kvs.map fun kv => keyD kv.1)), st) := by
 unfold keysM
 rw [bnd_ok h]
 unfold lkOf
 dsimp only
 rw [hw]
theorem lk_at {st : Sto} {w : Nat} {kvs : List (Key × D)} {m : Env → Mo D} {env : Env} (h : m env st = some (.ok (.ref w), st)) (hw : st[w]? = some (.dK kvs)) : lkAt m env st = some (w, .dK kvs) := by
 unfold lkAt
 rw [h]
 dsimp only
 rw [hw]
theorem unlk_e {s : Sto} {w : Nat} {u : Ob} (h : s[w]? = some (.lk u)) : unlk w s = some (s.set w u) := by
 unfold unlk
 rw [h]
theorem stores_e {A : List (Nat × Ob)} {env : Env} (W : Wld st0 w P ids) (hP : P.length < 1000) (O : Own st0 st A) (hv : ∀ s, var 1 env s = some (.ok (.ref w), s)) (he : 4 < (wipeE env [4]).length) :
  ∃ n0 cs s, lkE (var 1) (dcE (keysM (var 1)) (gVar 4) (yesT) (var 4) (newK) [4]) env st = some (.ok (.ref n0), s) ∧ cs.length = P.length ∧ Own st0 s ((n0, sdOb (noKv (P.map Prod.fst)) cs) :: (sCs cs (noKv (P.map Prod.fst)) ++ A)) := by
 have hw := (W.same O.sm).top
 have O1 := O.lock W.top
 have hl := O1.locked W.top
 have hnl : ids.length = (P.map Prod.fst).length := by rw [List.length_map]; exact W.len
 have O2 := O1.new (o := .dK [])
 obtain ⟨s, cs, h1, h2, h3⟩ := dc_loop (st0 := st0.set w (.lk (.dK (nmR (P.map Prod.fst) ids)))) (n0 := (st.set w (.lk (.dK (nmR (P.map Prod.fst) ids)))).length) (A := A) (names := P.map Prod.fst) (env0 := wipeE env [4]) W.nd he (by rw [List.length_map]; exact hP) FUEL 0 (st.set w (.lk (.dK (nmR (P.map Prod.fst) ids))) ++ [.dK []]) [] (Nat.zero_le _) (by rw [List.length_map, Nat.sub_zero]; exact Nat.lt_trans hP (by decide)) rfl O2
 refine ⟨(st.set w (.lk (.dK (nmR (P.map Prod.fst) ids)))).length, cs, s.set w (.dK (nmR (P.map Prod.fst) ids)), ?_, by rw [h2, List.length_map], ?_⟩
 ·unfold lkE
  rw [lk_at (hv st) hw]
  dsimp only
  have hd : dcE (keysM (var 1)) (gVar 4) yesT (var 4) newK [4] env (st.set w (.lk (.dK (nmR (P.map Prod.fst) ids)))) = some (.ok (.ref (st.set w (.lk (.dK (nmR (P.map Prod.fst) ids)))).length), s) := by
   unfold dcE
   rw [bnd_ok (keys_e (hv _) hl), nmR_keys hnl, h1]
  rw [hd]
  dsimp only
  rw [unlk_e (h3.locked W.top)]
  first | done | rfl
 ·unfold sdOb
  rw [noKv_keys]
  exact h3.unlock W.top
theorem rinit (W : Wld st0 w P ids) (hP : P.length < 1000) (O : Own st0 st [(r, .ins 19 [])]) :
  Ends' (m_PlainRun__init [.ref r, .ref w, pd, .int (left : Nat)]) st fun d s => d = .non ∧ ∃ sd g p cs, PC st0 s w r sd g p cs [] pd ⟨[], noKv (P.map Prod.fst), [], none, left⟩ := by
 refine run_f rfl ?_
 show Runs b_PlainRun__init [some (.ref r), some (.ref w), some pd, some (.int (left : Nat)), none] st _
 refine r_seqS (r_fldS rfl rfl (Own.at (A := []) O) (by simp) (by simp) ?_)
 have O := Own.set (A := []) (o' := .ins 19 (putFD 20 (.ref w) [])) O
 generalize st.set r (.ins 19 (putFD 20 (.ref w) [])) = st at O ⊢
 refine r_seqS (r_fldS rfl rfl (Own.at (A := []) O) (by simp) (by simp [putFD]) ?_)
 have O := Own.set (A := []) (o' := .ins 19 (putFD 6 pd (putFD 20 (.ref w) []))) O
 generalize st.set r _ = st at O ⊢
 refine r_seqS (r_fldS rfl rfl (Own.at (A := []) O) (by simp) (by simp [putFD]) ?_)
 have O := Own.set (A := []) (o' := .ins 19 (putFD 21 (.int (left : Nat)) (putFD 6 pd (putFD 20 (.ref w) [])))) O
 generalize st.set r _ = st at O ⊢
 obtain ⟨sd, cs, s, e, hc, O⟩ := stores_e (env := [some (.ref r), some (.ref w), some pd, some (.int (left : Nat)), none]) W hP O (fun _ => rfl) (Nat.le_of_ble_eq_true rfl)
 have O := O.perm (List.perm_append_comm (l₁ := [_]) (l₂ := (sd, _) :: sCs cs (noKv (P.map Prod.fst))))
 refine r_seqS (r_fldS e rfl (Own.at (A := []) O) (by simp) (by simp [putFD]) ?_)
 have O := Own.set (A := []) (o' := .ins 19 (putFD 22 (.ref sd) (putFD 21 (.int (left : Nat)) (putFD 6 pd (putFD 20 (.ref w) []))))) O
 generalize s.set r _ = st at O ⊢
 have O := O.new (o := .lst [])
 refine r_seqS (r_fldS (d := .ref st.length) (s := st ++ [.lst []]) rfl rfl (Own.at (A := [_]) O) (by simp) (by simp [putFD]) ?_)
 generalize st.length = g at O ⊢
 generalize st ++ [.lst []] = st at O ⊢
 have O := Own.set (A := [_]) (o' := .ins 19 (putFD 23 (.ref g) (putFD 22 (.ref sd) (putFD 21 (.int (left : Nat)) (putFD 6 pd (putFD 20 (.ref w) [])))))) O
 generalize st.set r _ = st at O ⊢
 have O := O.new (o := .lst [])
 refine r_seqS (r_fldS (d := .ref st.length) (s := st ++ [.lst []]) rfl rfl (Own.at (A := [_, _]) O) (by simp) (by simp [putFD]) ?_)
 generalize st.length = p at O ⊢
 generalize st ++ [.lst []] = st at O ⊢
 have O := Own.set (A := [_, _]) (o' := .ins 19 (putFD 24 (.ref p) (putFD 23 (.ref g) (putFD 22 (.ref sd) (putFD 21 (.int (left : Nat)) (putFD 6 pd (putFD 20 (.ref w) []))))))) O
 generalize st.set r _ = st at O ⊢
 refine r_fldS (d := .non) rfl rfl (Own.at (A := [_, _]) O) (by simp) (by simp [putFD]) ⟨rfl, sd, g, p, cs, ?_, by rw [hc, noKv_len, List.length_map], rfl⟩
 have O := Own.set (A := [_, _]) (o' := runOb w sd g p pd left .non) O
 rw [show tCs [] ([] : List Tsk) = [] from rfl, List.append_nil]
 exact O.perm perm4.symm
end
end M
namespace M
open PySem PySem.Spec PyProof.Rows L2 G
def tl0 : MS := seqS (ifS (tru (op2 eqE (var 3) (cst (.str "add"))))
  (asgS (op2 addD (getE2 (var 5) (op2 ixD (var 4) (cst (.int 0))) (cst (.int 0))) (op2 ixD (var 4) (cst (.int 1)))) (gSubM (var 5) (op2 ixD (var 4) (cst (.int 0)))))
  (passS))
  (seqS (ifS (tru (op2 eqE (var 3) (cst (.str "put"))))
  (asgS (op1 (fldD [18] 18) (var 1)) (gSubM (var 5) (op2 ixD (var 4) (cst (.int 0)))))
  (passS))
  (seqS (ifS (tru (op2 eqE (var 3) (cst (.str "load"))))
  (fldS [18] 18 (var 1) (getE2 (var 5) (op2 ixD (var 4) (cst (.int 0))) (cst (.int 0))))
  (passS))
  (seqS (ifS (tru (op2 eqE (var 3) (cst (.str "plus"))))
  (fldAug [18] 18 iaddA (var 1) (op2 ixD (var 4) (cst (.int 0))))
  (passS))
  (seqS (ifS (tru (op2 eqE (var 3) (cst (.str "take"))))
  (seqS (asgS (op2 addD (op1 (fldD [18, 19] 6) (var 1)) (op2 mulE (opN lstD (aCons (cst (.int 0)) (aNil))) (opN intD (aCons (op2 eqE (op1 (fldD [18, 19] 6) (var 1)) (opN lstD (aNil))) (aNil))))) (gStarM 2 1 (gsCons (gVar 6) (gsCons (gVar 7) (gsNil)))))
  (asgS (opN tupD (aCons (var 6) (aCons (var 7) (aNil)))) (gTupM 2 (gsCons (gFldM [18] 18 (var 1)) (gsCons (gFldM [18, 19] 6 (var 1)) (gsNil))))))
  (passS))
  (seqS (ifS (andT (tru (op2 eqE (var 3) (cst (.str "give")))) (tru (op2 eqE (opN lenD (aCons (op1 (fldD [19] 24) (var 0)) (aNil))) (cst (.int 1)))))
  (exprS (mth "list" (lstMt appF) (op1 (fldD [19] 23) (var 0)) (aCons (op1 (fldD [18] 18) (var 1)) (aNil))))
  (passS))
  (seqS (fldAug [18] 19 iaddA (var 1) (cst (.int 1)))
  (seqS (ifS (andT (tru (op2 eqE (var 3) (cst (.str "more")))) (tru (op2 neE (op1 (fldD [18, 19] 6) (var 1)) (opN lstD (aNil)))))
  (fldS [18] 19 (var 1) (op2 ixD (var 4) (cst (.int 0))))
  (passS))
  (ifS (tru (op2 eqE (var 3) (cst (.str "done"))))
  (fldS [18] 19 (var 1) (opN lenD (aCons (op1 (fldD [18] 17) (var 1)) (aNil))))
  (passS)))))))))
def tl7 : MS := seqS (fldAug [18] 19 iaddA (var 1) (cst (.int 1)))
  (seqS (ifS (andT (tru (op2 eqE (var 3) (cst (.str "more")))) (tru (op2 neE (op1 (fldD [18, 19] 6) (var 1)) (opN lstD (aNil)))))
  (fldS [18] 19 (var 1) (op2 ixD (var 4) (cst (.int 0))))
  (passS))
  (ifS (tru (op2 eqE (var 3) (cst (.str "done"))))
  (fldS [18] 19 (var 1) (opN lenD (aCons (op1 (fldD [18] 17) (var 1)) (aNil))))
  (passS)))
section
variable {env env' : Env} {st : Sto} {a b : Str} {Q : Out → Env → Sto → Prop} {X B : MS} {u : Env → Mo Bool} {i : Nat}
theorem kT (h : env[i]? = some (some (.str a))) : tru (op2 eqE (var i) (cst (.str a))) env st = some (.ok true, st) := by
 have e : var i env st = some (.ok (.str a), st) := by unfold var; rw [h]; rfl
 rw [truE (op2E e (show cst (.str a) env st = some (.ok (.str a), st) from rfl) eqE_str), decide_eq_true rfl]
theorem kF (h : env[i]? = some (some (.str a))) (hne : decide (a = b) = false) : tru (op2 eqE (var i) (cst (.str b))) env st = some (.ok false, st) := by
 have e : var i env st = some (.ok (.str a), st) := by unfold var; rw [h]; rfl
 rw [truE (op2E e (show cst (.str b) env st = some (.ok (.str b), st) from rfl) eqE_str), hne]
theorem sk (h : env[i]? = some (some (.str a))) (hne : decide (a = b) = false) (k : Runs B env st Q) : Runs (seqS (ifS (tru (op2 eqE (var i) (cst (.str b)))) X passS) B) env st Q := r_seqS (r_ifF (kF h hne) (r_passS k))
theorem skA (h : env[i]? = some (some (.str a))) (hne : decide (a = b) = false) (k : Runs B env st Q) : Runs (seqS (ifS (andT (tru (op2 eqE (var i) (cst (.str b)))) u) X passS) B) env st Q := r_seqS (r_ifF (andF (kF h hne)) (r_passS k))
theorem skE (h : env[i]? = some (some (.str a))) (hne : decide (a = b) = false) (k : Q .nx env st) : Runs (ifS (tru (op2 eqE (var i) (cst (.str b)))) X passS) env st Q := r_ifF (kF h hne) (r_passS k)
end
theorem store_at {h : Str} {kv : Kv} : ∀ {ss : List (Str × Kv)} {cs : List Nat}, cs.length = ss.length → lkp ss h = some kv →
  ∃ c S1 S2, valD (nmR (ss.map Prod.fst) cs) (.inr h) = some (.ref c) ∧ sCs cs ss = S1 ++ (c, .dK (kvM .int kv)) :: S2 ∧ ∀ f : Kv → Kv, sCs cs (updL ss h f) = S1 ++ (c, .dK (kvM .int (f kv))) :: S2
 | [], _, _, e => nomatch e
 | (n, x) :: ss, [], hl, _ => nomatch hl
 | (n, x) :: ss, c :: cs, hl, e => by
  rw [lkp_cons] at e
  by_cases hn : n = h
  ·rw [if_pos hn] at e
   cases e
   refine ⟨c, [], sCs cs ss, ?_, rfl, fun f => ?_⟩
   ·show valD (((Sum.inr n : Key), D.ref c) :: nmR (ss.map Prod.fst) cs) _ = _
    rw [valD_cons, if_pos (by rw [hn])]
   ·rw [updL_cons, if_pos hn]; rfl
  ·rw [if_neg hn] at e
   obtain ⟨c', S1, S2, h1, h2, h3⟩ := store_at (Nat.succ.inj hl) e
   refine ⟨c', (c, .dK (kvM .int x)) :: S1, S2, ?_, ?_, fun f => ?_⟩
   ·show valD (((Sum.inr n : Key), D.ref c) :: nmR (ss.map Prod.fst) cs) _ = _
    rw [valD_cons, if_neg fun z => hn (Sum.inr.inj z)]
    exact h1
   ·show (c, _) :: sCs cs ss = _
    rw [h2]; rfl
   ·rw [updL_cons, if_neg hn]
    show (c, _) :: sCs cs (updL ss h f) = _
    rw [h3]; rfl
section
variable {st0 st : Sto} {w r sd g p q a b c left : Nat} {cs : List Nat} {is : List (Nat × Nat)} {root given : List Int} {M : Mch} {t : Tsk} {ts : List Tsk} {kv : Kv} {S1 S2 T : List (Nat × Ob)} {rest pl : List D} {so x : Ob} {sD x6 x7 : Option D}
theorem wk_pc (O : Own st0 st ((q, x) :: (r, runOb w sd g p pd M.left (lastD M.last)) :: (sd, sdOb M.stores cs) :: (g, intsOb M.given) :: (p, .lst (pileD ((a, b) :: is))) :: (a, tskOb t b) :: (b, intsOb t.pieces) :: (S1 ++ (c, .dK (kvM .int kv)) :: (S2 ++ tCs is ts))))
  (hp : M.pile = t :: ts) (hs : sCs cs M.stores = S1 ++ (c, .dK (kvM .int kv)) :: S2) (lc : cs.length = M.stores.length) (li : is.length = ts.length) : PC st0 st w r sd g p cs ((a, b) :: is) pd M := by
 refine ⟨?_, lc, by rw [hp, List.length_cons, List.length_cons, li]⟩
 rw [hp, hs]
 refine (O.sub (List.sublist_cons_self ..)).perm ?_
 refine .cons _ (.cons _ (.cons _ (.cons _ ?_)))
 have e : S1 ++ (c, Ob.dK (kvM D.int kv)) :: (S2 ++ tCs is ts) = S1 ++ (c, Ob.dK (kvM D.int kv)) :: S2 ++ tCs is ts := by rw [List.append_assoc]; rfl
 rw [e]
 exact perm2
theorem tl_end {kd : Str} (O : Own st0 st ((q, .lst rest) :: (r, runOb w sd g p pd left .non) :: (sd, so) :: (g, intsOb given) :: (p, .lst pl) :: (a, tskOb t b) :: (b, intsOb t.pieces) :: (S1 ++ (c, .dK (kvM .int kv)) :: T)))
  (h1 : decide (kd = "more") = false) (h2 : decide (kd = "done") = false) {Q : D → Sto → Prop}
  (k : ∀ st, Own st0 st ((q, .lst rest) :: (r, runOb w sd g p pd left .non) :: (sd, so) :: (g, intsOb given) :: (p, .lst pl) :: (a, tskOb { t with pl := t.pl + 1 } b) :: (b, intsOb t.pieces) :: (S1 ++ (c, .dK (kvM .int kv)) :: T)) → Q .non st) :
  Runs tl7 [some (.ref r), some (.ref a), sD, some (.str kd), some (.ref q), some (.ref c), x6, x7] st (afterF Q) := by
 have ha := Own.at (A := [_, _, _, _, _]) O
 refine r_seqS (r_fldAug (x := .int (t.pl : Nat)) (y := .int 1) (z := .int ((t.pl + 1 : Nat) : Int)) rfl ha (by simp) rfl rfl rfl ha (by simp) (skA (i := 3) rfl h1 (skE (i := 3) rfl h2 ?_)))
 exact k _ (Own.set (A := [_, _, _, _, _]) (o' := tskOb { t with pl := t.pl + 1 } b) O)
theorem kv_get {k : Str} {n : Nat} (h : st[n]? = some (.dK (kvM .int kv))) : (valD (kvM D.int kv) (.inr k)).getD (.int 0) = .int (kget kv k) := by
 rw [valD_kvM]
 unfold kget
 cases lkp kv k <;> rfl
theorem lst_ix0 {n : Nat} {y : D} {r : List D} (h : st[n]? = some (.lst (y :: r))) : ixD (.ref n) (.int 0) st = some (.ok y, st) := ix_list h (Int.le_refl _) rfl
theorem lst_ix1 {n : Nat} {y z : D} {r : List D} (h : st[n]? = some (.lst (y :: z :: r))) : ixD (.ref n) (.int 1) st = some (.ok z, st) := ix_list h (by decide) rfl
theorem len_steps {x : List Stp} : lenD [stepsD x] st = some (.ok (.int (x.length : Nat)), st) := by unfold stepsD; rw [len_tupE, List.length_map]
theorem mulLsE {n k : Nat} {xs : List D} (h : st[n]? = some (.lst xs)) (hk : k ≤ 1) (hl : xs.length ≤ 10) : mulE (.ref n) (.int k) st = some (.ok (.ref st.length), st ++ [.lst (repL k xs)]) := by
 have e1 : mulD (.ref n) (.int k) st = none := rfl
 have e2 : mulSt (.ref n) (.int k) st = none := rfl
 unfold mulE alt
 rw [e1]
 dsimp only
 rw [e2]
 dsimp only
 unfold mulLs
 dsimp only
 rw [h]
 dsimp only
 have hm : xs.length * k ≤ 10 * 1 := Nat.mul_le_mul hl hk
 rw [if_pos ⟨by omega, by omega, by rw [Int.toNat_natCast]; omega⟩, Int.toNat_natCast]
theorem gFldE {cs : List Nat} {f n C : Nat} {fs : List (Nat × D)} {mo : Env → Mo D} {env : Env} {d : D} (h : mo env st = some (.ok (.ref n), st)) (hn : st[n]? = some (.ins C fs)) (hc : C ∈ cs) (hl : fs.length < 900) : gFldM cs f mo d env st = some (env, st.set n (.ins C (putFD f d fs))) := by
 unfold gFldM noEx
 rw [h]
 dsimp only
 unfold setFld
 dsimp only
 rw [hn]
 dsimp only
 rw [if_pos ⟨hc, hl⟩]
theorem gTup2E {g1 g2 : MG} {x y : D} {env e1 e2 : Env} {s1 s2 : Sto} (h1 : g1 x env st = some (e1, s1)) (h2 : g2 y e1 s1 = some (e2, s2)) : gTupM 2 (gsCons g1 (gsCons g2 gsNil)) (.tup [x, y]) env st = some (e2, s2) := by
 unfold gTupM
 dsimp only
 rw [if_pos (show [x, y].length = 2 from rfl)]
 unfold gsCons
 dsimp only
 rw [h1]
 dsimp only
 rw [h2]
 first | done | rfl
theorem gStar1E {gs : List D → Env → Sto → Option (Env × Sto)} {n : Nat} {y : D} {ys : List D} {env e : Env} {s : Sto} (h : st[n]? = some (.lst (y :: ys))) (h2 : gs [y, .ref st.length] env (st ++ [.lst ys]) = some (e, s)) : gStarM 2 1 gs (.ref n) env st = some (e, s) := by
 unfold gStarM lstOf
 dsimp only
 rw [h]
 dsimp only
 have e3 : (y :: ys).length + 1 - 2 = ys.length := by simp
 rw [if_pos (by simp), e3, List.drop_succ_cons, List.drop_zero, List.take_length, List.drop_length]
 exact h2
theorem do_p (C : PC st0 st w r sd g p cs ((a, b) :: is) pd M) (hp : M.pile = t :: ts) (hl : M.last = none) (hk : lkp M.stores t.home = some kv) (hn : Ndk kv) (z1 : kv.length < 1000) (z2 : M.given.length < 1000) (z3 : t.pieces.length < 1000) {s : Stp} (hs : ∀ h x l, s ≠ .call h x l) :
  Ends' (m_PlainRun_do_step [.ref r, .ref a, s.d]) st fun d s' => d = .non ∧ ∃ is', PC st0 s' w r sd g p cs is' pd (doStep M t ts s) := by
 obtain ⟨O, lc, li⟩ := C
 rw [hp, List.length_cons, List.length_cons] at li
 have li := Nat.succ.inj li
 obtain ⟨c, S1, S2, k1, k2, k3⟩ := store_at (h := t.home) lc hk
 refine run_f rfl ?_
 rw [hp, hl] at O
 have O : Own st0 st ((r, runOb w sd g p pd M.left .non) :: (sd, sdOb M.stores cs) :: (g, intsOb M.given) :: (p, .lst (pileD ((a, b) :: is))) :: (a, tskOb t b) :: (b, intsOb t.pieces) :: (S1 ++ (c, .dK (kvM .int kv)) :: (S2 ++ tCs is ts))) := by
  refine O.perm ?_
  refine .cons _ (.cons _ (.cons _ (.cons _ ?_)))
  have e : S1 ++ (c, Ob.dK (kvM D.int kv)) :: (S2 ++ tCs is ts) = S1 ++ (c, Ob.dK (kvM D.int kv)) :: S2 ++ tCs is ts := by rw [List.append_assoc]; rfl
  rw [e, k2]
  exact perm2.symm
 obtain ⟨kd, rest, hd⟩ : ∃ kd rest, s.d = .tup (.str kd :: rest) := by cases s <;> exact ⟨_, _, rfl⟩
 rw [hd]
 show Runs b_PlainRun_do_step [some (.ref r), some (.ref a), some (.tup (.str kd :: rest)), none, none, none, none, none] st _
 have O := O.new (o := .lst rest)
 refine r_seqS (r_asgS (d := .tup (.str kd :: rest)) (s := st) (env' := [some (.ref r), some (.ref a), some (.tup (.str kd :: rest)), some (.str kd), some (.ref st.length), none, none, none]) (s' := st ++ [.lst rest]) rfl (by
  unfold gStarM lstOf tupOf
  dsimp only
  rw [if_pos (by simp)]
  rfl) ?_)
 generalize st.length = q at O ⊢
 generalize st ++ [.lst rest] = st at O ⊢
 have hr := Own.at (A := [_]) O
 have hsd := Own.at (A := [_, _]) O
 have ha := Own.at (A := [_, _, _, _, _]) O
 refine r_seqS (r_setS (d := .ref c) (s := st) (op2E (op1E rfl (fldE hr (by simp) rfl)) (op1E rfl (fldE ha (by simp) rfl)) (dk_ix hsd k1)) ?_)
 show Runs tl0 [some (.ref r), some (.ref a), some (.tup (.str kd :: rest)), some (.str kd), some (.ref q), some (.ref c), none, none] st _
 have hq := Own.at (A := []) O
 have hb := Own.at (A := [_, _, _, _, _, _]) O
 have hc := Own.at (A := (q, _) :: (r, _) :: (sd, _) :: (g, _) :: (p, _) :: (a, _) :: (b, _) :: S1) O
 cases s with
 | call h x l => exact absurd rfl (hs h x l)
 | add k n =>
  cases hd
  refine r_seqS (r_ifT (kT rfl) (r_subS (d := .int (kget kv k + n)) (o := .ref c) (i := .str k) (op2E (getE2E rfl hc (op2E rfl rfl (lst_ix0 hq)) rfl) (op2E rfl rfl (lst_ix1 hq)) (by rw [kv_get hc]; rfl)) rfl (op2E rfl rfl (lst_ix0 hq)) (dk_set hc (by unfold kvM; rw [List.length_map]; omega)) ?_))
  have O := Own.set (A := (q, _) :: (r, _) :: (sd, _) :: (g, _) :: (p, _) :: (a, _) :: (b, _) :: S1) (o' := .dK (kvM .int (kput kv k (kget kv k + n)))) O
  rw [putD_kvM hn]
  generalize st.set c _ = st at O ⊢
  refine sk rfl rfl (sk rfl rfl (sk rfl rfl (sk rfl rfl (skA rfl rfl (tl_end O rfl rfl fun st O => ?_)))))
  refine ⟨rfl, (a, b) :: is, wk_pc (q := q) (x := .lst [.str k, .int n]) (M := doStep M t ts (.add k n)) ?_ rfl (k3 fun kv => kput kv k (kget kv k + n)) ?_ li⟩
  ·show Own st0 st ((q, _) :: (r, runOb w sd g p pd M.left (lastD M.last)) :: (sd, .dK (nmR ((updL M.stores t.home _).map Prod.fst) cs)) :: _)
   rw [updL_keys, hl]
   exact O
  ·show cs.length = (updL M.stores t.home _).length
   rw [lc, ← List.length_map (f := Prod.fst), ← List.length_map (f := Prod.fst), updL_keys]
 | put k =>
  cases hd
  refine sk rfl rfl (r_seqS (r_ifT (kT rfl) (r_subS (d := .int t.worth) (o := .ref c) (i := .str k) (op1E rfl (fldE ha (by simp) rfl)) rfl (op2E rfl rfl (lst_ix0 hq)) (dk_set hc (by unfold kvM; rw [List.length_map]; omega)) ?_)))
  have O := Own.set (A := (q, _) :: (r, _) :: (sd, _) :: (g, _) :: (p, _) :: (a, _) :: (b, _) :: S1) (o' := .dK (kvM .int (kput kv k t.worth))) O
  rw [putD_kvM hn]
  generalize st.set c _ = st at O ⊢
  refine sk rfl rfl (sk rfl rfl (sk rfl rfl (skA rfl rfl (tl_end O rfl rfl fun st O => ?_))))
  refine ⟨rfl, (a, b) :: is, wk_pc (q := q) (x := .lst [.str k]) (M := doStep M t ts (.put k)) ?_ rfl (k3 fun kv => kput kv k t.worth) ?_ li⟩
  ·show Own st0 st ((q, _) :: (r, runOb w sd g p pd M.left (lastD M.last)) :: (sd, .dK (nmR ((updL M.stores t.home _).map Prod.fst) cs)) :: _)
   rw [updL_keys, hl]
   exact O
  ·show cs.length = (updL M.stores t.home _).length
   rw [lc, ← List.length_map (f := Prod.fst), ← List.length_map (f := Prod.fst), updL_keys]
 | load k =>
  cases hd
  refine sk rfl rfl (sk rfl rfl (r_seqS (r_ifT (kT rfl) (r_fldS (d := .int (kget kv k)) ((getE2E rfl hc (op2E rfl rfl (lst_ix0 hq)) rfl).trans (by rw [kv_get hc])) rfl ha (by simp) (by simp) ?_))))
  have O := Own.set (A := [_, _, _, _, _]) (o' := tskOb { t with worth := kget kv k } b) O
  refine sk rfl rfl (sk rfl rfl (skA rfl rfl (tl_end (t := { t with worth := kget kv k }) O rfl rfl fun st O => ?_)))
  refine ⟨rfl, (a, b) :: is, wk_pc (q := q) (x := .lst [.str k]) (M := doStep M t ts (.load k)) (t := { t with pl := t.pl + 1, worth := kget ((lkp M.stores t.home).getD []) k }) ?_ rfl k2 lc li⟩
  rw [hk]
  show Own st0 st ((q, _) :: (r, runOb w sd g p pd M.left (lastD M.last)) :: _)
  rw [hl]
  exact O
 | plus n =>
  cases hd
  refine sk rfl rfl (sk rfl rfl (sk rfl rfl (r_seqS (r_ifT (kT rfl) (r_fldAug (x := .int t.worth) (y := .int n) (z := .int (t.worth + n)) rfl ha (by simp) rfl (op2E rfl rfl (lst_ix0 hq)) rfl ha (by simp) ?_)))))
  have O := Own.set (A := [_, _, _, _, _]) (o' := tskOb { t with worth := t.worth + n } b) O
  refine sk rfl rfl (skA rfl rfl (tl_end (t := { t with worth := t.worth + n }) O rfl rfl fun st O => ?_))
  refine ⟨rfl, (a, b) :: is, wk_pc (q := q) (x := .lst [.int n]) (M := doStep M t ts (.plus n)) (t := { t with pl := t.pl + 1, worth := t.worth + n }) ?_ rfl k2 lc li⟩
  show Own st0 st ((q, _) :: (r, runOb w sd g p pd M.left (lastD M.last)) :: _)
  rw [hl]
  exact O
 | give =>
  cases hd
  have hpl := Own.at (A := [_, _, _, _]) O
  have hg := Own.at (A := [_, _, _]) O
  refine sk rfl rfl (sk rfl rfl (sk rfl rfl (sk rfl rfl (sk rfl rfl ?_))))
  have hcond : andT (tru (op2 eqE (var 3) (cst (.str "give")))) (tru (op2 eqE (opN lenD (aCons (op1 (fldD [19] 24) (var 0)) (aNil))) (cst (.int 1)))) [some (.ref r), some (.ref a), some (Stp.give.d), some (.str "give"), some (.ref q), some (.ref c), none, none] st = some (.ok (decide (ts = [])), st) := by
   refine andE (kT rfl) (truE (op2E (opNE (args1 (op1E rfl (fldE hr (by simp) rfl))) (len_lstE hpl)) rfl ?_))
   rw [eq_int, pile_len, List.length_cons, li]
   rw [decide_eq_decide.mpr (⟨fun h => List.length_eq_zero_iff.mp (by omega), fun h => by rw [h]; rfl⟩ : (((ts.length + 1 : Nat) : Int) = 1 ↔ ts = []))]
  refine r_seqS (r_ifD hcond (fun ht => ?_) fun ht => ?_)
  ·refine r_exprS (appE (op1E rfl (fldE hr (by simp) rfl)) (op1E rfl (fldE ha (by simp) rfl)) hg (by rw [List.length_map]; omega)) ?_
   have O := Own.set (A := [_, _, _]) (o' := intsOb (M.given ++ [t.worth])) O
   rw [show Ob.lst (M.given.map D.int ++ [.int t.worth]) = intsOb (M.given ++ [t.worth]) by unfold intsOb; rw [List.map_append]; rfl]
   generalize st.set g _ = st at O ⊢
   refine tl_end O rfl rfl fun st O => ?_
   refine ⟨rfl, (a, b) :: is, wk_pc (q := q) (x := .lst []) (M := doStep M t ts .give) ?_ rfl k2 lc li⟩
   show Own st0 st ((q, _) :: (r, runOb w sd g p pd M.left (lastD M.last)) :: (sd, _) :: (g, intsOb (if ts = [] then M.given ++ [t.worth] else M.given)) :: _)
   rw [hl, if_pos ht]
   exact O
  ·refine r_passS (tl_end O rfl rfl fun st O => ?_)
   refine ⟨rfl, (a, b) :: is, wk_pc (q := q) (x := .lst []) (M := doStep M t ts .give) ?_ rfl k2 lc li⟩
   show Own st0 st ((q, _) :: (r, runOb w sd g p pd M.left (lastD M.last)) :: (sd, _) :: (g, intsOb (if ts = [] then M.given ++ [t.worth] else M.given)) :: _)
   rw [hl, if_neg ht]
   exact O
 | more i =>
  cases hd
  refine sk rfl rfl (sk rfl rfl (sk rfl rfl (sk rfl rfl (sk rfl rfl (skA rfl rfl ?_)))))
  refine r_seqS (r_fldAug (x := .int (t.pl : Nat)) (y := .int 1) (z := .int ((t.pl + 1 : Nat) : Int)) rfl ha (by simp) rfl rfl rfl ha (by simp) ?_)
  have O := Own.set (A := [_, _, _, _, _]) (o' := tskOb { t with pl := t.pl + 1 } b) O
  have ha := Own.at (A := [_, _, _, _, _]) O
  have hb := Own.at (A := [_, _, _, _, _, _]) O
  have hq := Own.at (A := []) (Own.app (g := [Ob.lst []]) O)
  have ha2 := Own.at (A := [_, _, _, _, _]) (Own.app (g := [Ob.lst []]) O)
  have e1 := neNilE (m := op1 (fldD [18, 19] 6) (var 1)) (env := [some (.ref r), some (.ref a), some (.tup [.str "more", .int (i : Nat)]), some (.str "more"), some (.ref q), some (.ref c), none, none]) (op1E rfl (fldE ha (by simp) rfl)) hb
  refine r_seqS (r_ifB (andE (kT rfl) (truE e1)) (fun hne => ?_) fun hne => ?_)
  ·refine r_fldS (d := .int (i : Nat)) (op2E rfl rfl (lst_ix0 hq)) rfl ha2 (by simp) (by simp) (skE (i := 3) rfl rfl ?_)
   have O := Own.set (A := [_, _, _, _, _]) (o' := tskOb { t with pl := i } b) (Own.app (g := [Ob.lst []]) O)
   have hne : ¬ t.pieces = [] := fun e => by rw [e] at hne; cases hne
   refine ⟨rfl, (a, b) :: is, wk_pc (q := q) (x := .lst [.int (i : Nat)]) (M := doStep M t ts (.more i)) (t := { t with pl := if t.pieces = [] then t.pl + 1 else i }) ?_ rfl k2 lc li⟩
   rw [if_neg hne]
   show Own st0 _ ((q, _) :: (r, runOb w sd g p pd M.left (lastD M.last)) :: _)
   rw [hl]
   exact O
  ·refine r_passS (skE (i := 3) rfl rfl ?_)
   have O := Own.app (g := [Ob.lst []]) O
   have hne : t.pieces = [] := by cases h : t.pieces with
    | nil => rfl
    | cons _ _ => rw [h] at hne; cases hne
   refine ⟨rfl, (a, b) :: is, wk_pc (q := q) (x := .lst [.int (i : Nat)]) (M := doStep M t ts (.more i)) (t := { t with pl := if t.pieces = [] then t.pl + 1 else i }) ?_ rfl k2 lc li⟩
   rw [if_pos hne]
   show Own st0 _ ((q, _) :: (r, runOb w sd g p pd M.left (lastD M.last)) :: _)
   rw [hl]
   exact O
 | fin =>
  cases hd
  refine sk rfl rfl (sk rfl rfl (sk rfl rfl (sk rfl rfl (sk rfl rfl (skA rfl rfl ?_)))))
  refine r_seqS (r_fldAug (x := .int (t.pl : Nat)) (y := .int 1) (z := .int ((t.pl + 1 : Nat) : Int)) rfl ha (by simp) rfl rfl rfl ha (by simp) ?_)
  have O := Own.set (A := [_, _, _, _, _]) (o' := tskOb { t with pl := t.pl + 1 } b) O
  have ha := Own.at (A := [_, _, _, _, _]) O
  refine skA (i := 3) rfl rfl (r_ifT (kT rfl) (r_fldS (d := .int (t.steps.length : Nat)) (opNE (args1 (op1E rfl (fldE ha (by simp) rfl))) len_steps) rfl ha (by simp) (by simp) ?_))
  have O := Own.set (A := [_, _, _, _, _]) (o' := tskOb { t with pl := t.steps.length } b) O
  refine ⟨rfl, (a, b) :: is, wk_pc (q := q) (x := .lst []) (M := doStep M t ts .fin) (t := { t with pl := t.steps.length }) ?_ rfl k2 lc li⟩
  show Own st0 _ ((q, _) :: (r, runOb w sd g p pd M.left (lastD M.last)) :: _)
  rw [hl]
  exact O
 | take =>
  cases hd
  refine sk rfl rfl (sk rfl rfl (sk rfl rfl (sk rfl rfl (r_seqS (r_ifT (kT rfl) ?_)))))
  have O1 := Own.app (g := [Ob.lst [.int 0]]) O
  have O2 := Own.app (g := [Ob.lst []]) O1
  have hz : (st ++ [Ob.lst [.int 0]] ++ [Ob.lst []])[st.length]? = some (.lst [.int 0]) := getA getN
  have ha1 := Own.at (A := [_, _, _, _, _]) O1
  have hb1 := Own.at (A := [_, _, _, _, _, _]) O1
  have hb2 := Own.at (A := [_, _, _, _, _, _]) O2
  obtain ⟨k, hk1, hke, hrep⟩ : ∃ k : Nat, k ≤ 1 ∧ (if (t.pieces.map D.int).isEmpty then (1 : Int) else 0) = (k : Int) ∧ t.pieces.map D.int ++ repL k [D.int 0] = .int (t.pieces.headD 0) :: t.pieces.tail.map .int := by
   cases t.pieces with
   | nil => exact ⟨1, Nat.le_refl _, rfl, rfl⟩
   | cons y ys => exact ⟨0, Nat.zero_le _, rfl, by show _ :: _ ++ [] = _; rw [List.append_nil]; rfl⟩
  have e1 := eqNilE (m := op1 (fldD [18, 19] 6) (var 1)) (env := [some (.ref r), some (.ref a), some (.tup [.str "take"]), some (.str "take"), some (.ref q), some (.ref c), none, none]) (op1E rfl (fldE ha1 (by simp) rfl)) hb1
  have e2 := mulLsE hz hk1 (by simp)
  have O3 := Own.app (g := [Ob.lst (repL k [.int 0])]) O2
  have hb3 := Own.at (A := [_, _, _, _, _, _]) O3
  have hrl : (repL k [D.int 0]).length ≤ 1 := by
   cases k with
   | zero => exact Nat.zero_le _
   | succ k => cases k with
    | zero => exact Nat.le_refl _
    | succ k => omega
  have e3 := add_lst hb3 (getN (st := st ++ [Ob.lst [.int 0]] ++ [Ob.lst []])) (by rw [List.length_map]; omega)
  rw [hrep] at e3
  have O4 := Own.app (g := [Ob.lst (.int (t.pieces.headD 0) :: t.pieces.tail.map .int)]) O3
  have h4 := getN (st := st ++ [Ob.lst [.int 0]] ++ [Ob.lst []] ++ [Ob.lst (repL k [.int 0])]) (x := Ob.lst (.int (t.pieces.headD 0) :: t.pieces.tail.map .int))
  have ev := op2E (f := addD) (m1 := op1 (fldD [18, 19] 6) (var 1)) (env := [some (.ref r), some (.ref a), some (.tup [.str "take"]), some (.str "take"), some (.ref q), some (.ref c), none, none]) (st := st) (op1E rfl (fldE ha (by simp) rfl)) (op2E (f := mulE) (opNE (args1 (m1 := cst (.int 0)) rfl) (show lstD [.int 0] st = some (.ok (.ref st.length), st ++ [Ob.lst [.int 0]]) from rfl)) (opNE (args1 e1) (show intD [.bl (t.pieces.map D.int).isEmpty] _ = some (.ok (.int (k : Int)), _) by rw [← hke]; rfl)) e2) e3
  generalize st ++ [Ob.lst [.int 0]] ++ [Ob.lst []] ++ [Ob.lst (repL k [.int 0])] = st3 at ev O4 h4
  generalize hn4 : st3.length = n4 at ev h4
  generalize st3 ++ [Ob.lst (.int (t.pieces.headD 0) :: t.pieces.tail.map .int)] = st4 at ev O4 h4
  have O5 := O4.new (o := intsOb t.pieces.tail)
  refine r_seqS (r_asgS (env' := [some (.ref r), some (.ref a), some (.tup [.str "take"]), some (.str "take"), some (.ref q), some (.ref c), some (.int (t.pieces.headD 0)), some (.ref st4.length)]) (s' := st4 ++ [intsOb t.pieces.tail]) ev (gStar1E h4 rfl) ?_)
  generalize st4.length = b2 at O5 ⊢
  generalize st4 ++ [intsOb t.pieces.tail] = st at O5 ⊢
  have ha := Own.at (A := [_, _, _, _, _, _]) O5
  have O6 := Own.set (A := [_, _, _, _, _, _]) (o' := tskOb { t with worth := t.pieces.headD 0 } b) O5
  have ha6 := Own.at (A := [_, _, _, _, _, _]) O6
  refine r_asgS (d := .tup [.int (t.pieces.headD 0), .ref b2]) rfl (gTup2E (gFldE rfl ha (by simp) (by simp)) (gFldE rfl ha6 (by simp) (by simp))) ?_
  have O7 := Own.set (A := [_, _, _, _, _, _]) (o' := tskOb { t with worth := t.pieces.headD 0 } b2) O6
  have O8 := O7.perm (B := (q, _) :: (r, _) :: (sd, _) :: (g, _) :: (p, _) :: (a, _) :: (b2, intsOb t.pieces.tail) :: (b, _) :: (S1 ++ (c, .dK (kvM .int kv)) :: (S2 ++ tCs is ts))) (List.perm_middle (l₁ := [_, _, _, _, _, _]))
  have O9 := O8.sub (B := (q, _) :: (r, _) :: (sd, _) :: (g, _) :: (p, _) :: (a, _) :: (b2, intsOb t.pieces.tail) :: (S1 ++ (c, .dK (kvM .int kv)) :: (S2 ++ tCs is ts))) (.cons₂ _ (.cons₂ _ (.cons₂ _ (.cons₂ _ (.cons₂ _ (.cons₂ _ (.cons₂ _ (List.sublist_cons_self ..))))))))
  refine skA rfl rfl (tl_end (b := b2) (t := { t with worth := t.pieces.headD 0, pieces := t.pieces.tail }) O9 rfl rfl fun st O => ?_)
  refine ⟨rfl, (a, b2) :: is, wk_pc (q := q) (b := b2) (x := .lst []) (M := doStep M t ts .take) (t := { t with pl := t.pl + 1, worth := t.pieces.headD 0, pieces := t.pieces.tail }) ?_ rfl k2 lc li⟩
  show Own st0 st ((q, _) :: (r, runOb w sd g p pd M.left (lastD M.last)) :: _)
  rw [hl]
  exact O
end
end M
namespace M
open PySem PySem.Spec PyProof.Rows L2 G
structure OkS (P : Pln) (n : Nat) (s : Stp) : Prop where
 call : ∀ h x l, s = .call h x l → ∃ v, lkp P h = some v
 more : ∀ i, s = .more i → i < n
structure OkT (P : Pln) (t : Tsk) : Prop where
 steps : ∀ s ∈ t.steps, OkS P t.steps.length s
 home : ∃ v, lkp P t.home = some v
 len : t.steps.length ≤ 12
structure OkM (P : Pln) (M : Mch) : Prop where
 tk : ∀ t ∈ M.pile, OkT P t
 top : ∀ t ts, M.pile = t :: ts → (∀ u ∈ ts, u.pl < u.steps.length) ∧ (M.last = none → t.pl ≤ t.steps.length) ∧ (M.last ≠ none → t.pl < t.steps.length)
 st : M.stores.map Prod.fst = P.map Prod.fst
 nd : ∀ p ∈ M.stores, Ndk p.2
 z1 : M.pile.length + M.left ≤ 400
 z2 : M.given.length + M.left ≤ 400
 z3 : ∀ p ∈ M.stores, p.2.length + M.left ≤ 400
 z4 : ∀ t ∈ M.pile, t.pieces.length ≤ 400
 en : M.pile = [] → M.last ≠ none
section
variable {env : Env} {st s s2 : Sto} {m1 m2 : Env → Mo D} {k : Bool}
theorem r_fldO {n C f : Nat} {cs : List Nat} {fs : List (Nat × D)} {d : D} {m mo : Env → Mo D} {Q : Out → Env → Sto → Prop} (o' : Ob) (h : m env st = some (.ok d, s)) (h1 : mo env s = some (.ok (.ref n), s2)) (h2 : s2[n]? = some (.ins C fs)) (hc : C ∈ cs) (hl : fs.length < 900) (ho : Ob.ins C (putFD f d fs) = o') (q : Q .nx env (s2.set n o')) : Runs (fldS cs f mo m) env st Q := by
 subst ho
 exact r_fldS h h1 h2 hc hl q
theorem andVT {d : D} (h : m1 env st = some (.ok (.bl true), s)) (h2 : m2 env s = some (.ok d, s2)) : andV m1 m2 env st = some (.ok d, s2) := by
 unfold andV
 rw [bnd_ok (bnd_ok h)]
 exact h2
theorem andVF (h : m1 env st = some (.ok (.bl false), s)) : andV m1 m2 env st = some (.ok (.bl false), s) := by
 unfold andV
 rw [bnd_ok (bnd_ok h)]
 first | done | rfl
theorem notVE (h : m1 env st = some (.ok (.bl k), s)) : notV m1 env st = some (.ok (.bl (!k)), s) := by
 unfold notV
 rw [bnd_ok (bnd_ok h)]
 first | done | rfl
end
section
variable {st0 st : Sto} {w r sd g p a b left : Nat} {cs ids : List Nat} {is : List (Nat × Nat)} {root given : List Int} {M : Mch} {t : Tsk} {ts : List Tsk} {P : Pln}
theorem PC.task (C : PC st0 st w r sd g p cs ((a, b) :: is) pd M) (hp : M.pile = t :: ts) : Own st0 st ((a, tskOb t b) :: (b, intsOb t.pieces) :: ((r, runOb w sd g p pd M.left (lastD M.last)) :: (sd, sdOb M.stores cs) :: (g, intsOb M.given) :: (p, .lst (pileD ((a, b) :: is))) :: (sCs cs M.stores ++ tCs is ts))) := by
 have O := C.own
 rw [hp] at O
 exact O.perm (perm2 (X := (r, runOb w sd g p pd M.left (lastD M.last)) :: (sd, sdOb M.stores cs) :: (g, intsOb M.given) :: (p, .lst (pileD ((a, b) :: is))) :: sCs cs M.stores)).symm
theorem PC.of (M' : Mch) (O : Own st0 st ((a, tskOb t b) :: (b, intsOb t.pieces) :: ((r, runOb w sd g p pd M'.left (lastD M'.last)) :: (sd, sdOb M'.stores cs) :: (g, intsOb M'.given) :: (p, .lst (pileD ((a, b) :: is))) :: (sCs cs M'.stores ++ tCs is ts)))) (hp : M'.pile = t :: ts) (lc : cs.length = M'.stores.length) (li : is.length = ts.length) : PC st0 st w r sd g p cs ((a, b) :: is) pd M' := by
 refine ⟨?_, lc, by rw [hp, List.length_cons, List.length_cons, li]⟩
 rw [hp]
 exact O.perm (perm2 (X := (r, runOb w sd g p pd M'.left (lastD M'.last)) :: (sd, sdOb M'.stores cs) :: (g, intsOb M'.given) :: (p, .lst (pileD ((a, b) :: is))) :: sCs cs M'.stores))
theorem finish_p {v : Int} {wd : Wd} {z : Str} (C : PC st0 st w r sd g p cs ((a, b) :: is) pd M) (hp : M.pile = t :: ts) (hz : z = wd.s) :
  Ends' (m_PlainRun_finish_top [.ref r, .str z, .int v]) st fun d s' => d = .non ∧ PC st0 s' w r sd g p cs is pd { M with pile := ts, last := some (wd, v) } := by
 have li := C.li
 rw [hp, List.length_cons, List.length_cons] at li
 have li := Nat.succ.inj li
 subst hz
 have O := (C.task hp).sub (B := (r, runOb w sd g p pd M.left (lastD M.last)) :: (sd, sdOb M.stores cs) :: (g, intsOb M.given) :: (p, .lst (pileD ((a, b) :: is))) :: (sCs cs M.stores ++ tCs is ts)) (.cons _ (List.sublist_cons_self ..))
 rw [pile_snoc] at O
 refine run_f rfl ?_
 show Runs b_PlainRun_finish_top [some (.ref r), some (.str wd.s), some (.int v)] st _
 have hr := Own.at (A := []) O
 have hpl := Own.at (A := [_, _, _]) O
 refine r_seqS (r_exprS (popE (op1E rfl (fldE hr (by simp) rfl)) hpl) ?_)
 have O := Own.set (A := [_, _, _]) (o' := .lst (pileD is)) O
 generalize st.set p _ = st at O ⊢
 have hr := Own.at (A := []) O
 refine r_fldS (d := .tup [.str wd.s, .int v]) rfl rfl hr (by simp) (by simp) ⟨rfl, ?_, C.lc, li⟩
 exact Own.set (A := []) (o' := runOb w sd g p pd M.left (lastD (some (wd, v)))) O
theorem come_back_p {v : Int} {wd : Wd} (C : PC st0 st w r sd g p cs ((a, b) :: is) pd M) (hp : M.pile = t :: ts) (hl : M.last = some (wd, v)) :
  Ends' (m_PlainRun_come_back [.ref r, .ref a]) st fun d s' => d = .non ∧ ∃ is', PC st0 s' w r sd g p cs is' pd (go P root M) := by
 have li := C.li
 rw [hp, List.length_cons, List.length_cons] at li
 have li := Nat.succ.inj li
 have O := C.task hp
 rw [hl] at O
 refine run_f rfl ?_
 show Runs b_PlainRun_come_back [some (.ref r), some (.ref a), none, none] st _
 have hr := Own.at (A := [_, _]) O
 refine r_seqS (r_asgS (d := .tup [.str wd.s, .int v]) (env' := [some (.ref r), some (.ref a), some (.str wd.s), some (.int v)]) (op1E rfl (fldE hr (by simp) rfl)) (gTup2E rfl rfl) ?_)
 refine r_seqS (r_fldO (runOb w sd g p pd M.left (lastD none)) (d := .non) rfl rfl hr (by simp) (by simp) rfl ?_)
 have O2 := Own.set (A := [_, _]) (o' := runOb w sd g p pd M.left (lastD none)) O
 clear O hr
 generalize st.set r _ = st at O2 ⊢
 by_cases hd : wd = .done
 ·subst hd
  have O := O2
  refine r_seqS (r_ifF (truE (op2E rfl rfl (ne_str.trans (by rfl)))) (r_passS ?_))
  have ha := Own.at (A := []) O
  refine r_seqS (r_fldO (tskOb { t with worth := v } b) (d := .int v) rfl rfl ha (by simp) (by simp) rfl ?_)
  have O := Own.set (A := []) (o' := tskOb { t with worth := v } b) O
  have ha := Own.at (A := []) O
  refine r_fldAug (x := .int (t.pl : Nat)) (y := .int 1) (z := .int ((t.pl + 1 : Nat) : Int)) rfl ha (by simp) rfl rfl rfl ha (by simp) ⟨rfl, (a, b) :: is, ?_⟩
  have O := Own.set (A := []) (o' := tskOb { t with worth := v, pl := t.pl + 1 } b) O
  unfold go
  rw [hp, hl]
  dsimp only
  rw [if_pos rfl]
  exact PC.of { M with last := none, pile := { t with worth := v, pl := t.pl + 1 } :: ts } O rfl C.lc li
 ·have O := O2
  have hne : decide (wd.s = "done") = false := by cases wd with
   | done => exact absurd rfl hd
   | stopped => rfl
   | never => rfl
  have hcond : op2 neE (var 2) (cst (.str "done")) [some (.ref r), some (.ref a), some (.str wd.s), some (.int v)] st = some (.ok (.bl true), st) := (op2E rfl rfl ne_str).trans (by rw [hne]; rfl)
  refine r_seqS (r_ifT (truE hcond) ?_)
  have C2 : PC st0 st w r sd g p cs ((a, b) :: is) pd { M with last := none } := PC.of { M with last := none } O hp C.lc li
  obtain ⟨d, s', e, rfl, C3⟩ := (finish_p (v := 0) (wd := .stopped) (z := "stopped") C2 hp rfl).to
  have hr := Own.at (A := [_, _]) O
  refine r_seqS (r_exprS (methG (C := 19) rfl hr (args2 rfl rfl) e) (r_retNS ⟨rfl, is, ?_⟩))
  unfold go
  rw [hp, hl]
  dsimp only
  rw [if_neg hd]
  exact C3
theorem through_p (h : st[a]? = some (tskOb t b)) : m_PlainTask_is_through [.ref a] st = some (.ok (.bl (decide (t.pl = t.steps.length))), st) := by
 obtain ⟨d, s, e, rfl, rfl⟩ := (run_f (n := 1) (k := 1) (m := b_PlainTask_is_through) (ds := [.ref a]) (st := st) (Q := fun d s => d = .bl (decide (t.pl = t.steps.length)) ∧ s = st) rfl (r_retS (op2E (op1E (m := var 0) rfl (fldE h (by simp) rfl)) (opNE (args1 (op1E (m := var 0) rfl (fldE h (by simp) rfl))) len_steps) ((eq_int (b := (t.steps.length : Int))).trans (by rw [decide_eq_decide.mpr (Int.natCast_inj (m := t.pl) (n := t.steps.length))]))) ⟨rfl, rfl⟩)).to
 exact e
end
end M
namespace M
open PySem PySem.Spec PyProof.Rows L2 G
theorem not_call {s : Stp} (h : ∀ h x l, s ≠ .call h x l) : ∃ kd rest, s.d = .tup (.str kd :: rest) ∧ decide (kd = "call") = false := by
 cases s with
 | call h' x l => exact absurd rfl (h h' x l)
 | _ => exact ⟨_, _, rfl, rfl⟩
section
variable {st0 st : Sto} {w r sd g p a b left : Nat} {cs ids : List Nat} {is : List (Nat × Nat)} {root given : List Int} {M : Mch} {t : Tsk} {ts : List Tsk} {P : Pln}
theorem store_of (K : OkM P M) (T : OkT P t) : ∃ kv, lkp M.stores t.home = some kv ∧ Ndk kv ∧ kv.length + M.left ≤ 400 := by
 obtain ⟨v, hv⟩ := T.home
 have hm : t.home ∈ M.stores.map Prod.fst := by
  rw [K.st]
  exact List.mem_map.mpr ⟨_, lkp_mem hv, rfl⟩
 obtain ⟨kv, e⟩ := lkp_some hm
 exact ⟨kv, e, K.nd _ (lkp_mem e), K.z3 _ (lkp_mem e)⟩
theorem go_p (hpd : RtOk st0 pd root) (W : Wld st0 w P ids) (C : PC st0 st w r sd g p cs is pd M) (K : OkM P M) (hne : M.pile ≠ []) (hns : ¬ spent M) :
  Ends' (m_PlainRun_go_on [.ref r]) st fun d s' => d = .non ∧ ∃ is', PC st0 s' w r sd g p cs is' pd (go P root M) := by
 obtain ⟨t, ts, hp⟩ : ∃ t ts, M.pile = t :: ts := by
  cases h : M.pile with
  | nil => exact absurd h hne
  | cons t ts => exact ⟨t, ts, rfl⟩
 have li := C.li
 rw [hp, List.length_cons] at li
 obtain ⟨⟨a, b⟩, is, rfl⟩ : ∃ i is', is = i :: is' := by
  cases is with
  | nil => cases li
  | cons i r => exact ⟨i, r, rfl⟩
 have O := C.task hp
 have hT := K.tk t (by rw [hp]; exact List.mem_cons_self)
 obtain ⟨k1, k2, k3⟩ := K.top t ts hp
 refine run_f rfl ?_
 show Runs b_PlainRun_go_on [some (.ref r), none, none] st _
 have hr := Own.at (A := [_, _]) O
 have hpl := Own.at (A := [_, _, _, _, _]) O
 rw [pile_snoc] at hpl
 refine r_seqS (r_setS (d := .ref a) (s := st) (lastE (op1E rfl (fldE hr (by simp) rfl)) hpl) ?_)
 show Runs _ [some (.ref r), some (.ref a), none] st _
 have hcond : ∀ k, niN (lastD M.last) .non st = some (.ok (.bl k), st) → tru (op2 niN (op1 (fldD [19] 25) (var 0)) (cst .non)) [some (.ref r), some (.ref a), none] st = some (.ok k, st) := fun k h => truE (op2E (op1E rfl (fldE hr (by simp) rfl)) rfl h)
 cases hl : M.last with
 | some l =>
  obtain ⟨wd, v⟩ := l
  refine r_ifT (hcond true (by rw [hl]; rfl)) ?_
  obtain ⟨d, s', e, rfl, is', C2⟩ := (come_back_p (P := P) C hp hl).to
  exact r_exprS (methG (C := 19) rfl hr (args1 rfl) e) ⟨rfl, is', C2⟩
 | none =>
  refine r_ifF (hcond false (by rw [hl]; rfl)) ?_
  have ha := Own.at (A := []) O
  have hle := k2 hl
  have hth := truE (methG (C := 18) (is := [16, 17, 18, 6, 19]) (mo := var 1) (env := [some (.ref r), some (.ref a), none]) (st := st) rfl ha args0 (through_p ha))
  refine r_ifD hth (fun he => ?_) fun he => ?_
  ·have hs : t.steps[t.pl]? = none := List.getElem?_eq_none_iff.mpr (by omega)
   obtain ⟨d, s', e, rfl, C2⟩ := (finish_p (v := t.worth) (wd := .done) (z := "done") C hp rfl).to
   refine r_exprS (methG (C := 19) rfl hr (args2 rfl (op1E rfl (fldE ha (by simp) rfl))) e) ⟨rfl, is, ?_⟩
   unfold go
   rw [hp, hl]
   dsimp only
   rw [hs]
   exact C2
  ·have hlt : t.pl < t.steps.length := by omega
   have hx : t.steps[t.pl]? = some t.steps[t.pl] := List.getElem?_eq_getElem hlt
   have h0 : M.left ≠ 0 := fun e => hns ⟨e, hl, t, ts, hp, hlt⟩
   generalize t.steps[t.pl] = s at hx
   have hgo : go P root M = goStep P root M t ts s := by
    unfold go
    rw [hp, hl]
    dsimp only
    rw [hx]
   rw [hl] at O hr
   rw [hgo]
   have hz : ((M.left : Int) - 1) = ((M.left - 1 : Nat) : Int) := by omega
   refine r_seqS (r_fldAug (x := .int (M.left : Nat)) (y := .int 1) (z := .int ((M.left - 1 : Nat) : Int)) rfl hr (by simp) rfl rfl (by rw [← hz]; rfl) hr (by simp) ?_)
   have O1 := Own.set (A := [_, _]) (o' := runOb w sd g p pd ((M.left - 1 : Nat) : Int) (lastD none)) O
   have C1 : PC st0 (st.set r (runOb w sd g p pd ((M.left - 1 : Nat) : Int) (lastD none))) w r sd g p cs ((a, b) :: is) pd { M with left := M.left - 1 } := PC.of { M with left := M.left - 1 } (by
    show Own st0 _ (_ :: _ :: (r, runOb w sd g p pd ((M.left - 1 : Nat) : Int) (lastD M.last)) :: _)
    rw [hl]
    exact O1) hp C.lc (Nat.succ.inj li)
   have C2 : PC st0 (st.set r (Ob.ins 19 (putFD 21 (.int ((M.left - 1 : Nat) : Int)) [(20, .ref w), (6, pd), (21, .int (M.left : Nat)), (22, .ref sd), (23, .ref g), (24, .ref p), (25, .non)]))) w r sd g p cs ((a, b) :: is) pd { M with left := M.left - 1 } := C1
   clear C1 O1
   show Runs _ _ (st.set r (Ob.ins 19 (putFD 21 (.int ((M.left - 1 : Nat) : Int)) [(20, .ref w), (6, pd), (21, .int (M.left : Nat)), (22, .ref sd), (23, .ref g), (24, .ref p), (25, .non)]))) _
   generalize st.set r (Ob.ins 19 (putFD 21 (.int ((M.left - 1 : Nat) : Int)) [(20, .ref w), (6, pd), (21, .int (M.left : Nat)), (22, .ref sd), (23, .ref g), (24, .ref p), (25, .non)])) = st1 at C2 ⊢
   have O2 := C2.task hp
   have ha2 := Own.at (A := []) O2
   have hr2 := Own.at (A := [_, _]) O2
   have hstep : ixD (stepsD t.steps) (.int (t.pl : Nat)) st1 = some (.ok s.d, st1) := tup_ix (Int.natCast_nonneg _) (by rw [Int.toNat_natCast, List.getElem?_map, hx]; rfl)
   refine r_seqS (r_setS (d := s.d) (s := st1) (op2E (op1E rfl (fldE ha2 (by simp) rfl)) (op1E rfl (fldE ha2 (by simp) rfl)) hstep) ?_)
   show Runs _ [some (.ref r), some (.ref a), some s.d] st1 _
   have hsm : s ∈ t.steps := List.mem_of_getElem? hx
   have z1 := K.z1
   rw [hp, List.length_cons] at z1
   by_cases hc : ∃ h x l, s = .call h x l
   ·obtain ⟨h, x, l, rfl⟩ := hc
    obtain ⟨v', hv'⟩ := (hT.steps _ hsm).call _ _ _ rfl
    refine r_ifT (truE (op2E (op2E rfl rfl rfl) rfl (show eqE (.str "call") (.str "call") st1 = some (.ok (.bl true), st1) from rfl))) ?_
    obtain ⟨d, s', e, rfl, is', C3⟩ := (begin_p (h := h) (s := x) (v := t.worth) hpd W C2 hv' (by rw [List.length_cons, Nat.succ.inj li]; omega)).to
    exact r_exprS (methG (C := 19) rfl hr2 (args3 (op2E rfl rfl (show ixD (.tup [.str "call", .str h, .str x, .int l]) (.int 1) st1 = some (.ok (.str h), st1) from rfl)) (op2E rfl rfl (show ixD (.tup [.str "call", .str h, .str x, .int l]) (.int 2) st1 = some (.ok (.str x), st1) from rfl)) (op1E rfl (fldE ha2 (by simp) rfl))) e) ⟨rfl, is', C3⟩
   ·have hs : ∀ h x l, s ≠ .call h x l := fun h x l e => hc ⟨h, x, l, e⟩
    obtain ⟨kd, rest, hd, hk⟩ := not_call hs
    have hif : tru (op2 eqE (op2 ixD (var 2) (cst (.int 0))) (cst (.str "call"))) [some (.ref r), some (.ref a), some s.d] st1 = some (.ok false, st1) := by
     rw [hd]
     refine truE ((op2E (op2E rfl rfl (tup_ix (Int.le_refl _) rfl)) rfl eqE_str).trans (by rw [hk]))
    refine r_ifF hif ?_
    obtain ⟨kv, q1, q2, q3⟩ := store_of K hT
    obtain ⟨d, s', e, rfl, is', C3⟩ := (do_p C2 hp hl q1 q2 (by omega) (by have := K.z2; show M.given.length < 1000; omega) (by have := K.z4 t (by rw [hp]; exact List.mem_cons_self); omega) hs).to
    refine r_exprS (methG (C := 19) rfl hr2 (args2 rfl rfl) e) ⟨rfl, is', ?_⟩
    have hgs : goStep P root M t ts s = doStep { M with left := M.left - 1 } t ts s := by
     cases s with
     | call h x l => exact absurd rfl (hs h x l)
     | _ => rfl
    rw [hgs]
    exact C3
theorem spent_p (C : PC st0 st w r sd g p cs is pd M) (K : OkM P M) (hne : M.pile ≠ []) : ∃ k : Bool, m_PlainRun_is_spent [.ref r] st = some (.ok (.bl k), st) ∧ (k = true ↔ spent M) := by
 obtain ⟨t, ts, hp⟩ : ∃ t ts, M.pile = t :: ts := by
  cases h : M.pile with
  | nil => exact absurd h hne
  | cons t ts => exact ⟨t, ts, rfl⟩
 have li := C.li
 rw [hp, List.length_cons] at li
 obtain ⟨⟨a, b⟩, is, rfl⟩ : ∃ i is', is = i :: is' := by
  cases is with
  | nil => cases li
  | cons i r => exact ⟨i, r, rfl⟩
 have O := C.task hp
 obtain ⟨k1, k2, k3⟩ := K.top t ts hp
 have hr := Own.at (A := [_, _]) O
 have ha := Own.at (A := []) O
 have hpl := Own.at (A := [_, _, _, _, _]) O
 rw [pile_snoc] at hpl
 have key : ∀ (k : Bool), retS (andV (op2 eqE (op1 (fldD [19] 21) (var 0)) (cst (.int 0))) (andV (op2 isN (op1 (fldD [19] 25) (var 0)) (cst .non)) (notV (methB 18 (inF [16, 17, 18, 6, 19]) (gK []) m_PlainTask_is_through (op2 ixD (op1 (fldD [19] 24) (var 0)) (op1 negI (cst (.int 1)))) (aNil) (aNil))))) [some (.ref r)] st = some (.rt (.bl k), [some (.ref r)], st) → m_PlainRun_is_spent [.ref r] st = some (.ok (.bl k), st) := fun k h => by
  obtain ⟨d, s, e, rfl, rfl⟩ := (run_f (n := 1) (k := 1) (m := b_PlainRun_is_spent) (ds := [.ref r]) (st := st) (Q := fun d s => d = .bl k ∧ s = st) rfl ⟨_, _, _, h, ⟨rfl, rfl⟩⟩).to
  exact e
 have hleft : op2 eqE (op1 (fldD [19] 21) (var 0)) (cst (.int 0)) [some (.ref r)] st = some (.ok (.bl (decide (M.left = 0))), st) := by
  refine (op2E (op1E rfl (fldE hr (by simp) rfl)) rfl eq_int).trans ?_
  rw [decide_eq_decide.mpr (by omega : ((M.left : Int) = 0 ↔ M.left = 0))]
 by_cases h0 : M.left = 0
 ·rw [decide_eq_true h0] at hleft
  have hlast : ∀ k, isN (lastD M.last) .non st = some (.ok (.bl k), st) → op2 isN (op1 (fldD [19] 25) (var 0)) (cst .non) [some (.ref r)] st = some (.ok (.bl k), st) := fun k h => op2E (op1E rfl (fldE hr (by simp) rfl)) rfl h
  cases hl : M.last with
  | some l =>
   refine ⟨false, key _ (bndS_ok (andVT hleft (andVF (hlast false (by rw [hl]; rfl))))), ⟨fun h => (nomatch h), fun h => ?_⟩⟩
   have := h.2.1
   rw [hl] at this
   cases this
  | none =>
   have hth := methG (C := 18) (is := [16, 17, 18, 6, 19]) (mo := op2 ixD (op1 (fldD [19] 24) (var 0)) (op1 negI (cst (.int 1)))) (env := [some (.ref r)]) (st := st) (lastE (op1E rfl (fldE hr (by simp) rfl)) hpl) ha args0 (through_p ha)
   refine ⟨_, key _ (bndS_ok (andVT hleft (andVT (hlast true (by rw [hl]; rfl)) (notVE hth)))), ⟨fun h => ⟨h0, hl, t, ts, hp, ?_⟩, fun h => ?_⟩⟩
   ·have := k2 hl
    have h2 : ¬ t.pl = t.steps.length := fun e => by rw [decide_eq_true e] at h; cases h
    omega
   ·obtain ⟨_, _, t', ts', e, h2⟩ := h
    rw [hp] at e
    cases e
    rw [decide_eq_false (by omega)]; rfl
 ·rw [decide_eq_false h0] at hleft
  exact ⟨false, key _ (bndS_ok (andVF hleft)), ⟨fun h => (nomatch h), fun h => absurd h.1 h0⟩⟩
end
end M
namespace M
open PySem PySem.Spec PyProof.Rows L2 G
structure OkP (P : Pln) : Prop where
 nd : Ndk P
 len : P.length < 1000
 svc : ∀ h v, lkp P h = some v → ∀ s x, lkp v s = some x → (∀ st ∈ x, OkS P x.length st) ∧ x.length ≤ 12
theorem updL_mem2 {α : Type} {l : List (Str × α)} {k : Str} {g : α → α} {Q Q' : α → Prop} (h : ∀ p ∈ l, Q p.2) (hq : ∀ a, Q a → Q' a) (hg : ∀ a, Q a → Q' (g a)) : ∀ p ∈ updL l k g, Q' p.2 := by
 induction l with
 | nil => exact fun _ h => (nomatch h)
 | cons p r ih =>
  obtain ⟨n, a⟩ := p
  intro p hp
  rw [updL_cons] at hp
  split at hp
  ·rcases List.mem_cons.mp hp with rfl | hp
   ·exact hg _ (h (n, a) List.mem_cons_self)
   ·exact hq _ (h p (List.mem_cons_of_mem _ hp))
  ·rcases List.mem_cons.mp hp with rfl | hp
   ·exact hq _ (h (n, a) List.mem_cons_self)
   ·exact ih (fun q hq => h q (List.mem_cons_of_mem _ hq)) p hp
theorem kput_len {α : Type} {l : List (Str × α)} {k : Str} {v : α} : (kput l k v).length ≤ l.length + 1 := by
 induction l with
 | nil => exact Nat.le_refl _
 | cons p r ih =>
  obtain ⟨n, a⟩ := p
  rw [kput_cons]
  split
  ·simp
  ·simp only [List.length_cons]; omega
section
variable {P : Pln} {root : List Int} {M : Mch} {t : Tsk} {ts : List Tsk} {h s : Str} {v : Int}
theorem begin_ok (OP : OkP P) (hr : root.length ≤ 400) (tk : ∀ t ∈ M.pile, OkT P t) (all : ∀ u ∈ M.pile, u.pl < u.steps.length) (hl : M.last = none) (hs : M.stores.map Prod.fst = P.map Prod.fst) (nd : ∀ p ∈ M.stores, Ndk p.2) (z1 : M.pile.length + 1 + M.left ≤ 400) (z2 : M.given.length + M.left ≤ 400) (z3 : ∀ p ∈ M.stores, p.2.length + M.left ≤ 400) (z4 : ∀ t ∈ M.pile, t.pieces.length ≤ 400) : OkM P (begin P root M h s v) := by
 unfold begin
 cases hv : P.svc h s with
 | none => exact ⟨tk, fun t ts e => ⟨fun u hu => all u (by have e : M.pile = t :: ts := e; rw [e]; exact List.mem_cons_of_mem _ hu), fun h => (nomatch h), fun _ => all t (by have e : M.pile = t :: ts := e; rw [e]; exact List.mem_cons_self)⟩, hs, nd, by show M.pile.length + M.left ≤ 400; omega, z2, z3, z4, fun _ h => (nomatch h)⟩
 | some x =>
  unfold Pln.svc at hv
  cases hp : lkp P h with
  | none => rw [hp] at hv; cases hv
  | some y =>
   rw [hp] at hv
   obtain ⟨h1, h2⟩ := OP.svc _ _ hp _ _ hv
   refine ⟨fun t ht => ?_, fun t ts e => ?_, hs, nd, z1, z2, z3, fun t ht => ?_, fun h => (nomatch h)⟩
   ·rcases List.mem_cons.mp ht with rfl | ht
    ·exact ⟨h1, ⟨y, hp⟩, h2⟩
    ·exact tk t ht
   ·cases e
    exact ⟨all, fun _ => Nat.zero_le _, fun h => absurd hl h⟩
   ·rcases List.mem_cons.mp ht with rfl | ht
    ·show (if M.pile = [] then root else []).length ≤ 400
     split
     ·exact hr
     ·exact Nat.zero_le _
    ·exact z4 t ht
theorem pop_ok (K : OkM P M) (hp : M.pile = t :: ts) {l : Wd × Int} : OkM P { M with pile := ts, last := some l } := by
 obtain ⟨k1, _, _⟩ := K.top t ts hp
 have hm : ∀ u ∈ ts, u ∈ M.pile := fun u hu => by rw [hp]; exact List.mem_cons_of_mem _ hu
 have z1 := K.z1
 rw [hp, List.length_cons] at z1
 exact ⟨fun u hu => K.tk u (hm u hu), fun t' ts' e => by
  have e : ts = t' :: ts' := e
  subst e
  exact ⟨fun u hu => k1 u (List.mem_cons_of_mem _ hu), fun h => (nomatch h), fun _ => k1 t' List.mem_cons_self⟩, K.st, K.nd, by show ts.length + M.left ≤ 400; omega, K.z2, K.z3, fun u hu => K.z4 u (hm u hu), fun _ h => (nomatch h)⟩
theorem top_ok (K : OkM P M) (hp : M.pile = t :: ts) {t' : Tsk} {M' : Mch} (e1 : t'.home = t.home) (e2 : t'.steps = t.steps) (hle : t'.pl ≤ t.steps.length) (hpc : t'.pieces.length ≤ 400) (hM : M'.pile = t' :: ts) (hl : M'.last = none) (hs : M'.stores.map Prod.fst = P.map Prod.fst) (nd : ∀ p ∈ M'.stores, Ndk p.2) (hlt : M'.left ≤ M.left) (z2 : M'.given.length + M'.left ≤ 400) (z3 : ∀ p ∈ M'.stores, p.2.length + M'.left ≤ 400) : OkM P M' := by
 obtain ⟨k1, _, _⟩ := K.top t ts hp
 have hT := K.tk t (by rw [hp]; exact List.mem_cons_self)
 have z1 := K.z1
 rw [hp, List.length_cons] at z1
 refine ⟨fun u hu => ?_, fun t2 ts2 e => ?_, hs, nd, by rw [hM, List.length_cons]; omega, z2, z3, fun u hu => ?_, fun h => by rw [hM] at h; cases h⟩
 ·rw [hM] at hu
  rcases List.mem_cons.mp hu with rfl | hu
  ·exact ⟨by rw [e2]; exact hT.steps, by rw [e1]; exact hT.home, by rw [e2]; exact hT.len⟩
  ·exact K.tk u (by rw [hp]; exact List.mem_cons_of_mem _ hu)
 ·rw [hM] at e
  cases e
  exact ⟨k1, fun _ => by rw [e2]; exact hle, fun h => absurd hl h⟩
 ·rw [hM] at hu
  rcases List.mem_cons.mp hu with rfl | hu
  ·exact hpc
  ·exact K.z4 u (by rw [hp]; exact List.mem_cons_of_mem _ hu)
theorem go_ok (OP : OkP P) (hr : root.length ≤ 400) (K : OkM P M) (hne : M.pile ≠ []) (hns : ¬ spent M) : OkM P (go P root M) := by
 obtain ⟨t, ts, hp⟩ : ∃ t ts, M.pile = t :: ts := by
  cases h : M.pile with
  | nil => exact absurd h hne
  | cons t ts => exact ⟨t, ts, rfl⟩
 obtain ⟨k1, k2, k3⟩ := K.top t ts hp
 have htm : t ∈ M.pile := by rw [hp]; exact List.mem_cons_self
 have hT := K.tk t htm
 have hpc := K.z4 t htm
 unfold go
 rw [hp]
 dsimp only
 cases hl : M.last with
 | some l =>
  obtain ⟨wd, x⟩ := l
  dsimp only
  have h3 := k3 (by rw [hl]; exact fun h => (nomatch h))
  split
  ·exact top_ok K hp (t' := { t with worth := x, pl := t.pl + 1 }) rfl rfl h3 hpc rfl rfl K.st K.nd (Nat.le_refl _) K.z2 K.z3
  ·exact pop_ok K hp
 | none =>
  dsimp only
  cases hx : t.steps[t.pl]? with
  | none => exact pop_ok K hp
  | some s =>
   dsimp only
   have hlt := (List.getElem?_eq_some_iff.mp hx).1
   have hsm : s ∈ t.steps := List.mem_of_getElem? hx
   have h0 : M.left ≠ 0 := fun e => hns ⟨e, hl, t, ts, hp, hlt⟩
   have z2 := K.z2
   have z3 := K.z3
   have z1 := K.z1
   rw [hp, List.length_cons] at z1
   have z3' : ∀ p ∈ M.stores, p.2.length + (M.left - 1) ≤ 400 := fun p hp => by have := z3 p hp; omega
   have up : ∀ k (x : Kv → Int), (updL M.stores t.home fun kv => kput kv k (x kv)).map Prod.fst = P.map Prod.fst ∧ (∀ p ∈ updL M.stores t.home fun kv => kput kv k (x kv), Ndk p.2) ∧ ∀ p ∈ updL M.stores t.home fun kv => kput kv k (x kv), p.2.length + (M.left - 1) ≤ 400 := fun k x =>
    ⟨by rw [updL_keys]; exact K.st, updL_mem (Q := Ndk) K.nd fun a h => kput_nd h, updL_mem2 (Q := fun a : Kv => a.length + M.left ≤ 400) (Q' := fun a : Kv => a.length + (M.left - 1) ≤ 400) z3 (fun a h => by omega) fun a h => by have := kput_len (l := a) (k := k) (v := x a); omega⟩
   have hi := (hT.steps _ hsm).more
   cases s with
   | call h x l =>
    unfold goStep
    refine begin_ok OP hr K.tk (fun u hu => ?_) hl K.st K.nd (by show M.pile.length + 1 + (M.left - 1) ≤ 400; rw [hp, List.length_cons]; omega) (by show M.given.length + (M.left - 1) ≤ 400; omega) z3' K.z4
    rw [show ({ M with left := M.left - 1 } : Mch).pile = t :: ts from hp] at hu
    rcases List.mem_cons.mp hu with rfl | hu
    ·exact hlt
    ·exact k1 u hu
   | add k n =>
    obtain ⟨u1, u2, u3⟩ := up k fun kv => kget kv k + n
    exact top_ok K hp (t' := { t with pl := t.pl + 1 }) rfl rfl hlt hpc rfl hl u1 u2 (Nat.sub_le _ _) (by show M.given.length + (M.left - 1) ≤ 400; omega) u3
   | put k =>
    obtain ⟨u1, u2, u3⟩ := up k fun _ => t.worth
    exact top_ok K hp (t' := { t with pl := t.pl + 1 }) rfl rfl hlt hpc rfl hl u1 u2 (Nat.sub_le _ _) (by show M.given.length + (M.left - 1) ≤ 400; omega) u3
   | load k => exact top_ok K hp (t' := { t with pl := t.pl + 1, worth := kget ((lkp M.stores t.home).getD []) k }) rfl rfl hlt hpc rfl hl K.st K.nd (Nat.sub_le _ _) (by show M.given.length + (M.left - 1) ≤ 400; omega) z3'
   | plus n => exact top_ok K hp (t' := { t with pl := t.pl + 1, worth := t.worth + n }) rfl rfl hlt hpc rfl hl K.st K.nd (Nat.sub_le _ _) (by show M.given.length + (M.left - 1) ≤ 400; omega) z3'
   | take => exact top_ok K hp (t' := { t with pl := t.pl + 1, worth := t.pieces.headD 0, pieces := t.pieces.tail }) rfl rfl hlt (by show t.pieces.tail.length ≤ 400; rw [List.length_tail]; omega) rfl hl K.st K.nd (Nat.sub_le _ _) (by show M.given.length + (M.left - 1) ≤ 400; omega) z3'
   | give =>
    refine top_ok K hp (t' := { t with pl := t.pl + 1 }) rfl rfl hlt hpc rfl hl K.st K.nd (Nat.sub_le _ _) ?_ z3'
    show (if ts = [] then M.given ++ [t.worth] else M.given).length + (M.left - 1) ≤ 400
    split
    ·rw [List.length_append]; show M.given.length + 1 + _ ≤ _; omega
    ·omega
   | more i => exact top_ok K hp (t' := { t with pl := if t.pieces = [] then t.pl + 1 else i }) rfl rfl (by
     show (if t.pieces = [] then t.pl + 1 else i) ≤ _
     have := hi i rfl
     split <;> omega) hpc rfl hl K.st K.nd (Nat.sub_le _ _) (by show M.given.length + (M.left - 1) ≤ 400; omega) z3'
   | fin => exact top_ok K hp (t' := { t with pl := t.steps.length }) rfl rfl (Nat.le_refl _) hpc rfl hl K.st K.nd (Nat.sub_le _ _) (by show M.given.length + (M.left - 1) ≤ 400; omega) z3'
theorem begin_none (e : P.svc h s = none) : begin P root M h s v = { M with last := some (.never, 0) } := by unfold begin; rw [e]
theorem begin_some {x : List Stp} (e : P.svc h s = some x) : begin P root M h s v = { M with pile := ⟨h, x, v, 0, if M.pile = [] then root else []⟩ :: M.pile } := by unfold begin; rw [e]
def mu (M : Mch) : Nat := 4 * M.left + 2 * M.pile.length + (if M.last = none then 0 else 1)
theorem go_mu (hne : M.pile ≠ []) (hns : ¬ spent M) : mu (go P root M) < mu M := by
 obtain ⟨t, ts, hp⟩ : ∃ t ts, M.pile = t :: ts := by
  cases h : M.pile with
  | nil => exact absurd h hne
  | cons t ts => exact ⟨t, ts, rfl⟩
 unfold go
 rw [hp]
 dsimp only
 cases hl : M.last with
 | some l =>
  obtain ⟨wd, x⟩ := l
  dsimp only
  unfold mu
  rw [hp, hl]
  split
  ·simp
  ·simp
 | none =>
  dsimp only
  cases hx : t.steps[t.pl]? with
  | none =>
   unfold mu
   rw [hp, hl]
   simp only [List.length_cons]
   rw [if_pos trivial, if_neg (fun h => (nomatch h))]
   omega
  | some s =>
   dsimp only
   have hlt := (List.getElem?_eq_some_iff.mp hx).1
   have h0 : M.left ≠ 0 := fun e => hns ⟨e, hl, t, ts, hp, hlt⟩
   cases s with
   | call h x l =>
    show mu (begin P root { M with left := M.left - 1 } h x t.worth) < _
    cases hv : P.svc h x with
    | none =>
     rw [begin_none hv]
     unfold mu
     dsimp only
     rw [hp, hl, if_pos rfl, if_neg (fun h => (nomatch h))]
     omega
    | some y =>
     rw [begin_some hv]
     unfold mu
     dsimp only
     rw [hp, hl, if_pos rfl]
     simp only [List.length_cons]
     omega
   | _ =>
    unfold goStep doStep mu
    dsimp only
    rw [hp, hl, if_pos rfl]
    simp only [List.length_cons]
    omega
end
end M
namespace M
open PySem PySem.Spec PyProof.Rows L2 G
def rmu (r : Nat) (s : Sto) : Nat := match s[r]? with
 | some (.ins _ fs) => match fs.lookup 21, fs.lookup 24, fs.lookup 25 with
  | some (.int l), some (.ref p), some d => 4 * l.toNat + 2 * (match s[p]? with
   | some (.lst xs) => xs.length
   | _ => 0) + (match d with
   | .non => 0
   | _ => 1)
  | _, _, _ => 0
 | _ => 0
def wordD : Option (Wd × Int) → D
 | none => .str "late"
 | some (w, _) => .str w.s
def worthD : Option (Wd × Int) → D
 | none => .int 0
 | some (_, v) => .int v
def resD (R : Res) (sd : Nat) : D := .tup [wordD R.1, worthD R.1, .tup (R.2.1.map .int), .ref sd]
structure ResAt (st : Sto) (R : Res) (sd : Nat) (cs : List Nat) : Prop where
 lc : cs.length = R.2.2.length
 top : st[sd]? = some (sdOb R.2.2 cs)
 cel : ∀ p ∈ sCs cs R.2.2, st[p.1]? = some p.2
theorem ResAt.same {st s : Sto} {R : Res} {sd : Nat} {cs : List Nat} (h : ResAt st R sd cs) (S : Same [] st s) : ResAt s R sd cs := ⟨h.lc, S.eq _ _ h.top (fun h => nomatch h), fun p hp => S.eq _ _ (h.cel p hp) (fun h => nomatch h)⟩
structure OkR (P : Pln) (R : Res) : Prop where
 st : R.2.2.map Prod.fst = P.map Prod.fst
 nd : ∀ p ∈ R.2.2, Ndk p.2
section
variable {st0 st : Sto} {w r sd g p n : Nat} {cs ids : List Nat} {is : List (Nat × Nat)} {root : List Int} {M : Mch} {P : Pln} {h s : Str} {v : Int} {v' : List (Str × List Stp)}
theorem PC.meas (C : PC st0 st w r sd g p cs is pd M) : rmu r st = mu M := by
 have hr := Own.at (A := []) C.own
 have hp := Own.at (A := [_, _, _]) C.own
 unfold rmu
 rw [hr]
 show 4 * (M.left : Int).toNat + 2 * (match st[p]? with
   | some (.lst xs) => xs.length
   | _ => 0) + _ = _
 rw [hp]
 dsimp only
 rw [pile_len, C.li, Int.toNat_natCast]
 unfold mu
 cases M.last with
 | none => rfl
 | some l => rfl
theorem PC.app {x : Sto} (C : PC st0 st w r sd g p cs is pd M) : PC st0 (st ++ x) w r sd g p cs is pd M := ⟨C.own.app, C.lc, C.li⟩
theorem PC.res (C : PC st0 st w r sd g p cs is pd M) {R : Res} (e : R.2.2 = M.stores) : ResAt st R sd cs := by
 have O := C.own
 refine ⟨by rw [e]; exact C.lc, by rw [e]; exact Own.at (A := [_]) O, fun q hq => ?_⟩
 rw [e] at hq
 exact O.at_ q (List.mem_cons_of_mem _ (List.mem_cons_of_mem _ (List.mem_cons_of_mem _ (List.mem_cons_of_mem _ (List.mem_append_left _ hq)))))
def mach0 (P : Pln) (n : Nat) : Mch := ⟨[], noKv (P.map Prod.fst), [], none, n⟩
theorem mach0_ok (OP : OkP P) (hr : root.length ≤ 400) (hn : n ≤ 300) : OkM P (begin P root (mach0 P n) h s v) :=
 begin_ok OP hr (fun _ h => (nomatch h)) (fun _ h => (nomatch h)) rfl noKv_keys (fun p hp => by
  obtain ⟨x, _, rfl⟩ := List.mem_map.mp hp
  exact List.nodup_nil) (by show 0 + 1 + n ≤ 400; omega) (by show 0 + n ≤ 400; omega) (fun p hp => by
  obtain ⟨x, _, rfl⟩ := List.mem_map.mp hp
  show 0 + n ≤ 400; omega) (fun _ h => (nomatch h))
theorem plain_p (hpd : RtOk st pd root) (W : Wld st w P ids) (OP : OkP P) (hh : lkp P h = some v') (hr : root.length ≤ 400) (hn : n ≤ 300) :
  Ends' (m_plain [.ref w, .str h, .str s, .int v, pd, .int (n : Nat)]) st fun d s' => ∃ R sd cs, d = resD R sd ∧ Fin' P root (begin P root (mach0 P n) h s v) R ∧ ResAt s' R sd cs ∧ OkR P R ∧ Same [] st s' := by
 refine run_f rfl ?_
 show Runs b_plain [some (.ref w), some (.str h), some (.str s), some (.int v), some pd, some (.int (n : Nat)), none, none, none] st _
 have hv : (valD (nmR (P.map Prod.fst) ids) (.inr h)).isSome = true := by
  obtain ⟨i, e, _⟩ := nmR_val W.len hh
  rw [e]; rfl
 have hc := dct_ni (k := h) W.top
 rw [hv] at hc
 refine r_seqS (r_ifF (truE (op2E rfl rfl hc)) (r_passS ?_))
 obtain ⟨d, s1, e1, rfl, sd, g, p, cs, C⟩ := (rinit (pd := pd) (left := n) W OP.len (Own.nil.new (o := .ins 19 []))).to
 refine r_seqS (r_setS (mkE (args3 rfl rfl rfl) e1) ?_)
 generalize st.length = r at C ⊢
 show Runs _ [some (.ref w), some (.str h), some (.str s), some (.int v), some pd, some (.int (n : Nat)), some (.ref r), none, none] s1 _
 have hr1 := Own.at (A := []) C.own
 obtain ⟨d, s2, e2, rfl, is, C2⟩ := (begin_p (h := h) (s := s) (v := v) hpd W C hh (by show 0 < 1000; decide)).to
 refine r_seqS (r_exprS (methG (C := 19) rfl hr1 (args3 rfl rfl rfl) e2) ?_)
 have K0 := mach0_ok (h := h) (s := s) (v := v) (n := n) OP hr hn
 refine r_seqS (r_whileS (fun e s' => e = [some (.ref w), some (.str h), some (.str s), some (.int v), some pd, some (.int (n : Nat)), some (.ref r), none, none] ∧ ∃ M is, PC st s' w r sd g p cs is pd M ∧ OkM P M ∧ Rch P root (begin P root (mach0 P n) h s v) M) (fun _ s' => rmu r s') ⟨rfl, _, is, C2, K0, .refl⟩ ?_ ?_)
 ·rw [C2.meas]
  have z1 := K0.z1
  show mu (begin P root (mach0 P n) h s v) < _
  unfold mu
  split <;> omega
 rintro _ s' ⟨rfl, M, is, C, K, hrch⟩
 have hr1 := Own.at (A := []) C.own
 have hpl := Own.at (A := [_, _, _]) C.own
 have hw := neNilE (m := op1 (fldD [19] 24) (var 6)) (env := [some (.ref w), some (.str h), some (.str s), some (.int v), some pd, some (.int (n : Nat)), some (.ref r), none, none]) (op1E rfl (fldE hr1 (by simp) rfl)) hpl
 rw [pile_emp C.li] at hw
 have C1 := C.app (x := [Ob.lst []])
 refine ⟨!decide (M.pile = []), s' ++ [.lst []], truE hw, fun hk => ?_, fun hk => ?_⟩
 ·have hne : M.pile ≠ [] := fun e => by rw [decide_eq_true e] at hk; cases hk
  rw [← C1.meas.trans C.meas.symm]
  generalize s' ++ [.lst []] = s' at C1 ⊢
  have hr1 := Own.at (A := []) C1.own
  obtain ⟨k, e3, hsp⟩ := spent_p C1 K hne
  have hcond := truE (methG (C := 19) (is := [20, 6, 21, 22, 23, 24, 25]) (mo := var 6) (env := [some (.ref w), some (.str h), some (.str s), some (.int v), some pd, some (.int (n : Nat)), some (.ref r), none, none]) (st := s') rfl hr1 args0 e3)
  refine r_seqS (r_ifB hcond (fun h1 => ?_) fun h1 => ?_)
  ·have hg := Own.at (A := [_, _]) C1.own
   refine r_retS (d := resD (none, M.given, M.stores) sd) (s := s') (opNE (as := [.str "late", .int 0, .tup (M.given.map .int), .ref sd]) (argsC rfl (argsC rfl (args2 (opNE (args1 (op1E rfl (fldE hr1 (by simp) rfl))) (tuple_lst hg)) (op1E rfl (fldE hr1 (by simp) rfl))))) rfl) ?_
   exact ⟨_, sd, cs, rfl, hrch.fin (.late (hsp.mp h1)), C1.res rfl, ⟨K.st, K.nd⟩, C1.own.sm⟩
  ·have hns : ¬ spent M := fun h => by rw [hsp.mpr h] at h1; cases h1
   obtain ⟨d, s3, e4, rfl, is', C3⟩ := (go_p hpd W C1 K hne hns).to
   refine r_passS (r_exprS (methG (C := 19) rfl hr1 args0 e4) ⟨⟨rfl, _, is', C3, go_ok OP hr K hne hns, .step hrch hne hns⟩, ?_⟩)
   rw [C3.meas, C1.meas]
   exact go_mu hne hns
 ·have hnil : M.pile = [] := by
   by_cases e : M.pile = []
   ·exact e
   ·rw [decide_eq_false e] at hk; cases hk
  generalize s' ++ [.lst []] = s' at C1 ⊢
  obtain ⟨l, hl⟩ : ∃ l, M.last = some l := by
   cases e : M.last with
   | none => exact absurd e (K.en hnil)
   | some l => exact ⟨l, rfl⟩
  obtain ⟨wd, x⟩ := l
  have hr1 := Own.at (A := []) C1.own
  rw [hl] at hr1
  have hg := Own.at (A := [_, _]) C1.own
  refine r_seqS (r_asgS (d := .tup [.str wd.s, .int x]) (env' := [some (.ref w), some (.str h), some (.str s), some (.int v), some pd, some (.int (n : Nat)), some (.ref r), some (.str wd.s), some (.int x)]) (op1E rfl (fldE hr1 (by simp) rfl)) (gTup2E rfl rfl) ?_)
  refine r_retS (d := resD (some (wd, x), M.given, M.stores) sd) (s := s') (opNE (as := [.str wd.s, .int x, .tup (M.given.map .int), .ref sd]) (argsC rfl (argsC rfl (args2 (opNE (args1 (op1E rfl (fldE hr1 (by simp) rfl))) (tuple_lst hg)) (op1E rfl (fldE hr1 (by simp) rfl))))) rfl) ?_
  exact ⟨_, sd, cs, rfl, hrch.fin (.stop hnil hl), C1.res rfl, ⟨K.st, K.nd⟩, C1.own.sm⟩
end
end M
namespace M
open PySem PySem.Spec PyProof.Rows L2 G
def ltK (t : Tsk) (at_ b : Nat) : List (Key × D) := [(.inr "home", .str t.home), (.inr "steps", stepsD t.steps), (.inr "value", .int t.worth), (.inr "at", .int (at_ : Nat)), (.inr "pieces", .ref b)]
def ltOb (t : Tsk) (at_ b : Nat) : Ob := .dK (ltK t at_ b)
def atOk (at_ : Nat) (t : Tsk) : Prop := at_ = t.pl ∨ (at_ = 99 ∧ t.pl = t.steps.length)
section
variable {t : Tsk} {n b m : Nat} {x : D} {i : Int}
theorem lv_home : valD (ltK t n b) (.inr "home") = some (.str t.home) := by rfl
theorem lv_steps : valD (ltK t n b) (.inr "steps") = some (stepsD t.steps) := by rfl
theorem lv_value : valD (ltK t n b) (.inr "value") = some (.int t.worth) := by rfl
theorem lv_at : valD (ltK t n b) (.inr "at") = some (.int (n : Nat)) := by rfl
theorem lv_pieces : valD (ltK t n b) (.inr "pieces") = some (.ref b) := by rfl
theorem lp_value : putD (ltK t n b) (.inr "value") (.int i) = ltK { t with worth := i } n b := by rfl
theorem lp_at : putD (ltK t n b) (.inr "at") (.int (m : Nat)) = ltK t m b := by rfl
theorem lk_len : (ltK t n b).length < 1000000 := by show 5 < 1000000; decide
end
def tkN (t : Tsk) (kv : Kv) : Stp → Tsk
 | .load k => { t with pl := t.pl + 1, worth := kget kv k }
 | .plus n => { t with pl := t.pl + 1, worth := t.worth + n }
 | .take => { t with pl := t.pl + 1, worth := t.pieces.headD 0, pieces := t.pieces.tail }
 | .more i => { t with pl := if t.pieces = [] then t.pl + 1 else i }
 | .fin => { t with pl := t.steps.length }
 | _ => { t with pl := t.pl + 1 }
def kvN (t : Tsk) (kv : Kv) : Stp → Kv
 | .add k n => kput kv k (kget kv k + n)
 | .put k => kput kv k t.worth
 | _ => kv
def gvN (t : Tsk) (ys : List Int) : Stp → List Int
 | .give => ys ++ [t.worth]
 | _ => ys
section
variable {env : Env} {st : Sto} {a b : Str} {Q : Out → Env → Sto → Prop} {X B : MS} {u : Env → Mo Bool} {rest : List D}
theorem lT (h : env[3]? = some (some (.tup (.str a :: rest)))) : tru (op2 eqE (op2 ixD (var 3) (cst (.int 0))) (cst (.str a))) env st = some (.ok true, st) := by
 have e : var 3 env st = some (.ok (.tup (.str a :: rest)), st) := by unfold var; rw [h]; rfl
 rw [truE (op2E (op2E e rfl (tup_ix (Int.le_refl _) rfl)) (show cst (.str a) env st = some (.ok (.str a), st) from rfl) eqE_str), decide_eq_true rfl]
theorem lF (h : env[3]? = some (some (.tup (.str a :: rest)))) (hne : decide (a = b) = false) : tru (op2 eqE (op2 ixD (var 3) (cst (.int 0))) (cst (.str b))) env st = some (.ok false, st) := by
 have e : var 3 env st = some (.ok (.tup (.str a :: rest)), st) := by unfold var; rw [h]; rfl
 rw [truE (op2E (op2E e rfl (tup_ix (Int.le_refl _) rfl)) (show cst (.str b) env st = some (.ok (.str b), st) from rfl) eqE_str), hne]
theorem lk1 (h : env[3]? = some (some (.tup (.str a :: rest)))) (hne : decide (a = b) = false) (k : Runs B env st Q) : Runs (seqS (ifS (tru (op2 eqE (op2 ixD (var 3) (cst (.int 0))) (cst (.str b)))) X passS) B) env st Q := r_seqS (r_ifF (lF h hne) (r_passS k))
theorem lkA (h : env[3]? = some (some (.tup (.str a :: rest)))) (hne : decide (a = b) = false) (k : Runs B env st Q) : Runs (seqS (ifS (andT (tru (op2 eqE (op2 ixD (var 3) (cst (.int 0))) (cst (.str b)))) u) X passS) B) env st Q := r_seqS (r_ifF (andF (lF h hne)) (r_passS k))
theorem lkE' (h : env[3]? = some (some (.tup (.str a :: rest)))) (hne : decide (a = b) = false) (k : Q .nx env st) : Runs (ifS (tru (op2 eqE (op2 ixD (var 3) (cst (.int 0))) (cst (.str b)))) X passS) env st Q := r_ifF (lF h hne) (r_passS k)
end
theorem r_subO {e : Env → Mo D} {mo mi : Env → Mo D} {env : Env} {st s s1 s2 : Sto} {n : Nat} {d : D} {kvs : List (Key × D)} {k : Str} {Q : Out → Env → Sto → Prop} (o' : Ob) (h : e env st = some (.ok d, s)) (ho : mo env s = some (.ok (.ref n), s1)) (hi : mi env s1 = some (.ok (.str k), s2)) (hn : s2[n]? = some (.dK kvs)) (hl : kvs.length < 1000000) (he : Ob.dK (putD kvs (.inr k) d) = o') (q : Q .nx env (s2.set n o')) : Runs (asgS e (gSubM mo mi)) env st Q := by
 subst he
 exact r_subS h ho hi (dk_set hn hl) q
section
variable {st0 st : Sto} {gg a b c : Nat} {ys : List Int} {t : Tsk} {at_ : Nat} {kv : Kv} {S T : List (Nat × Ob)} {s : Stp}
theorem goes_p (O : Own st0 st ((gg, intsOb ys) :: (a, ltOb t at_ b) :: (b, intsOb t.pieces) :: (S ++ (c, .dK (kvM .int kv)) :: T))) (hs : ∀ h x l, s ≠ .call h x l) (hat : at_ = t.pl) (hn : Ndk kv) (z1 : kv.length < 1000) (z2 : ys.length < 1000) :
  Ends' (m_law_goes [.ref a, .ref c, .ref gg, s.d]) st fun d s' => d = .non ∧ ∃ at', (at' = (tkN t kv s).pl ∨ at' = 99 ∧ s = .fin) ∧ Own st0 s' ((gg, intsOb (gvN t ys s)) :: (a, ltOb (tkN t kv s) at' b) :: (b, intsOb (tkN t kv s).pieces) :: (S ++ (c, .dK (kvM .int (kvN t kv s))) :: T)) := by
 subst hat
 refine run_f rfl ?_
 obtain ⟨kd, rest, hd⟩ : ∃ kd rest, s.d = .tup (.str kd :: rest) := by cases s <;> exact ⟨_, _, rfl⟩
 rw [hd]
 show Runs b_law_goes [some (.ref a), some (.ref c), some (.ref gg), some (.tup (.str kd :: rest))] st _
 have ha := Own.at (A := [_]) O
 have e1 : op2 addD (op2 ixD (var 0) (cst (.str "at"))) (cst (.int 1)) [some (.ref a), some (.ref c), some (.ref gg), some (.tup (.str kd :: rest))] st = some (.ok (.int ((t.pl + 1 : Nat) : Int)), st) := op2E (op2E rfl rfl (dk_ix ha lv_at)) rfl rfl
 refine r_seqS (r_subO (ltOb t (t.pl + 1) b) e1 rfl rfl ha lk_len (congrArg Ob.dK lp_at) ?_)
 have O := Own.set (A := [_]) (o' := ltOb t (t.pl + 1) b) O
 generalize st.set a (ltOb t (t.pl + 1) b) = st at O ⊢
 have ha := Own.at (A := [_]) O
 have hc := Own.at (A := (gg, _) :: (a, _) :: (b, _) :: S) O
 cases s with
 | call h x l => exact absurd rfl (hs h x l)
 | add k n =>
  cases hd
  refine r_seqS (r_ifT (lT rfl) (r_subO (.dK (kvM .int (kput kv k (kget kv k + n)))) (d := .int (kget kv k + n)) (k := k) (op2E (getE2E rfl hc (op2E rfl rfl (tup_ix (by decide) rfl)) rfl) (op2E rfl rfl (tup_ix (by decide) rfl)) (by rw [kv_get hc]; rfl)) rfl (op2E rfl rfl (tup_ix (by decide) rfl)) hc (by unfold kvM; rw [List.length_map]; omega) (congrArg Ob.dK (putD_kvM hn)) ?_))
  have O := Own.set (A := (gg, _) :: (a, _) :: (b, _) :: S) (o' := .dK (kvM .int (kput kv k (kget kv k + n)))) O
  exact lk1 rfl rfl (lk1 rfl rfl (lk1 rfl rfl (lk1 rfl rfl (lk1 rfl rfl (lkA rfl rfl (lkE' rfl rfl ⟨rfl, _, .inl rfl, O⟩))))))
 | put k =>
  cases hd
  refine lk1 rfl rfl (r_seqS (r_ifT (lT rfl) (r_subO (.dK (kvM .int (kput kv k t.worth))) (d := .int t.worth) (k := k) (op2E rfl rfl (dk_ix ha lv_value)) rfl (op2E rfl rfl (tup_ix (by decide) rfl)) hc (by unfold kvM; rw [List.length_map]; omega) (congrArg Ob.dK (putD_kvM hn)) ?_)))
  have O := Own.set (A := (gg, _) :: (a, _) :: (b, _) :: S) (o' := .dK (kvM .int (kput kv k t.worth))) O
  exact lk1 rfl rfl (lk1 rfl rfl (lk1 rfl rfl (lk1 rfl rfl (lkA rfl rfl (lkE' rfl rfl ⟨rfl, _, .inl rfl, O⟩)))))
 | load k =>
  cases hd
  refine lk1 rfl rfl (lk1 rfl rfl (r_seqS (r_ifT (lT rfl) (r_subO (ltOb { t with worth := kget kv k } (t.pl + 1) b) (d := .int (kget kv k)) ((getE2E rfl hc (op2E rfl rfl (tup_ix (by decide) rfl)) rfl).trans (by rw [kv_get hc])) rfl rfl ha lk_len (congrArg Ob.dK lp_value) ?_))))
  have O := Own.set (A := [_]) (o' := ltOb { t with worth := kget kv k } (t.pl + 1) b) O
  exact lk1 rfl rfl (lk1 rfl rfl (lk1 rfl rfl (lkA rfl rfl (lkE' rfl rfl ⟨rfl, _, .inl rfl, O⟩))))
 | plus n =>
  cases hd
  refine lk1 rfl rfl (lk1 rfl rfl (lk1 rfl rfl (r_seqS (r_ifT (lT rfl) (r_subO (ltOb { t with worth := t.worth + n } (t.pl + 1) b) (d := .int (t.worth + n)) (op2E (op2E rfl rfl (dk_ix ha lv_value)) (op2E rfl rfl (tup_ix (by decide) rfl)) rfl) rfl rfl ha lk_len (congrArg Ob.dK lp_value) ?_)))))
  have O := Own.set (A := [_]) (o' := ltOb { t with worth := t.worth + n } (t.pl + 1) b) O
  exact lk1 rfl rfl (lk1 rfl rfl (lkA rfl rfl (lkE' rfl rfl ⟨rfl, _, .inl rfl, O⟩)))
 | take =>
  cases hd
  refine lk1 rfl rfl (lk1 rfl rfl (lk1 rfl rfl (lk1 rfl rfl (r_seqS (r_ifT (lT rfl) ?_)))))
  refine r_seqS (r_subO (ltOb { t with worth := 0 } (t.pl + 1) b) (d := .int 0) rfl rfl rfl ha lk_len (congrArg Ob.dK lp_value) ?_)
  have O := Own.set (A := [_]) (o' := ltOb { t with worth := 0 } (t.pl + 1) b) O
  generalize st.set a (ltOb { t with worth := 0 } (t.pl + 1) b) = st at O ⊢
  have ha := Own.at (A := [_]) O
  have hb := Own.at (A := [_, _]) O
  have hne := neNilE (m := op2 ixD (var 0) (cst (.str "pieces"))) (env := [some (.ref a), some (.ref c), some (.ref gg), some (.tup [.str "take"])]) (op2E rfl rfl (dk_ix ha lv_pieces)) hb
  have O := Own.app (g := [Ob.lst []]) O
  refine r_ifB (truE hne) (fun h => ?_) fun h => ?_
  ·generalize st ++ [Ob.lst []] = st at O ⊢
   cases hpc : t.pieces with
   | nil => rw [hpc] at h; cases h
   | cons y r =>
    rw [hpc] at O
    have ha := Own.at (A := [_]) O
    have hb := Own.at (A := [_, _]) O
    have O1 := Own.set (A := [_, _]) (o' := intsOb r) O
    have ha1 := Own.at (A := [_]) O1
    refine r_subO (ltOb { t with worth := y } (t.pl + 1) b) (d := .int y) (popAt0E (xs := r.map .int) (op2E rfl rfl (dk_ix ha lv_pieces)) hb) rfl rfl ha1 lk_len (congrArg Ob.dK lp_value) ?_
    have O2 := Own.set (A := [_]) (o' := ltOb { t with worth := y } (t.pl + 1) b) O1
    refine lk1 rfl rfl (lkA rfl rfl (lkE' rfl rfl ⟨rfl, _, .inl rfl, ?_⟩))
    unfold tkN
    dsimp only
    rw [hpc]
    exact O2
  ·generalize st ++ [Ob.lst []] = st at O ⊢
   cases hpc : t.pieces with
   | cons y r => rw [hpc] at h; cases h
   | nil =>
    rw [hpc] at O
    refine r_passS (lk1 rfl rfl (lkA rfl rfl (lkE' rfl rfl ⟨rfl, _, .inl rfl, ?_⟩)))
    unfold tkN
    dsimp only
    rw [hpc]
    exact O
 | give =>
  cases hd
  have hg := Own.at (A := []) O
  refine lk1 rfl rfl (lk1 rfl rfl (lk1 rfl rfl (lk1 rfl rfl (lk1 rfl rfl (r_seqS (r_ifT (lT rfl) ?_))))))
  refine r_exprS (appE rfl (op2E rfl rfl (dk_ix ha lv_value)) hg (by rw [List.length_map]; omega)) ?_
  have O := Own.set (A := []) (o' := intsOb (ys ++ [t.worth])) O
  rw [show Ob.lst (ys.map D.int ++ [.int t.worth]) = intsOb (ys ++ [t.worth]) by unfold intsOb; rw [List.map_append]; rfl]
  exact lkA rfl rfl (lkE' rfl rfl ⟨rfl, _, .inl rfl, O⟩)
 | more i =>
  cases hd
  refine lk1 rfl rfl (lk1 rfl rfl (lk1 rfl rfl (lk1 rfl rfl (lk1 rfl rfl (lk1 rfl rfl ?_)))))
  have hb := Own.at (A := [_, _]) O
  have hne := neNilE (m := op2 ixD (var 0) (cst (.str "pieces"))) (env := [some (.ref a), some (.ref c), some (.ref gg), some (.tup [.str "more", .int (i : Nat)])]) (op2E rfl rfl (dk_ix ha lv_pieces)) hb
  have O := Own.app (g := [Ob.lst []]) O
  have ha2 := Own.at (A := [_]) O
  refine r_seqS (r_ifB (andE (lT rfl) (truE hne)) (fun h => ?_) fun h => ?_)
  ·have hp : ¬ t.pieces = [] := fun e => by rw [e] at h; cases h
   refine r_subO (ltOb t i b) (d := .int (i : Nat)) (op2E rfl rfl (tup_ix (by decide) rfl)) rfl rfl ha2 lk_len (congrArg Ob.dK lp_at) ?_
   have O := Own.set (A := [_]) (o' := ltOb t i b) O
   refine lkE' rfl rfl ⟨rfl, i, .inl ?_, O⟩
   unfold tkN
   dsimp only
   rw [if_neg hp]
  ·have hp : t.pieces = [] := by
    cases e : t.pieces with
    | nil => rfl
    | cons _ _ => rw [e] at h; cases h
   refine r_passS (lkE' rfl rfl ⟨rfl, t.pl + 1, .inl ?_, O⟩)
   unfold tkN
   dsimp only
   rw [if_pos hp]
 | fin =>
  cases hd
  refine lk1 rfl rfl (lk1 rfl rfl (lk1 rfl rfl (lk1 rfl rfl (lk1 rfl rfl (lk1 rfl rfl (lkA rfl rfl ?_))))))
  refine r_ifT (lT rfl) (r_subO (ltOb t 99 b) (d := .int 99) rfl rfl rfl ha lk_len (congrArg Ob.dK (lp_at (m := 99))) ?_)
  have O := Own.set (A := [_]) (o' := ltOb t 99 b) O
  exact ⟨rfl, 99, .inr ⟨rfl, rfl⟩, O⟩
end
end M
namespace M
open PySem PySem.Spec PyProof.Rows L2 G
def lpFr : MS := ifS (tru (op2 niN (var 9) (cst .non)))
  (seqS (ifS (tru (op2 inD (op2 ixD (var 9) (cst (.int 1))) (op2 ixD (var 0) (op2 ixD (var 9) (cst (.int 0))))))
  (seqS (setS 10 (ifE (tru (op2 eqE (var 5) (opN lstD (aNil)))) (opN listE (aCons (op2 ixD (var 1) (cst (.int 3))) (aNil))) (opN lstD (aNil))))
  (seqS (setS 11 (op2 ixD (op2 ixD (var 0) (op2 ixD (var 9) (cst (.int 0)))) (op2 ixD (var 9) (cst (.int 1)))))
  (exprS (mth "list" (lstMt appF) (var 5) (aCons (dspE ((cst (.str "home"), op2 ixD (var 9) (cst (.int 0))) :: (cst (.str "steps"), var 11) :: (cst (.str "value"), op2 ixD (var 9) (cst (.int 2))) :: (cst (.str "at"), cst (.int 0)) :: [(cst (.str "pieces"), var 10)])) (aNil))))))
  (setS 7 (opN tupD (aCons (cst (.str "never")) (aCons (cst (.int 0)) (aNil))))))
  (seqS (setS 9 (cst .non))
  (ctnS)))
  (passS)
def lpGo : MS := seqS (setS 12 (op2 ixD (var 5) (op1 negI (cst (.int 1)))))
  (ifS (tru (op2 niN (var 7) (cst .non)))
  (setS 7 (callB (gK []) m_law_came_back (aCons (var 5) (aCons (var 7) (aNil))) (aNil)))
  (ifS (tru (op2 geI (op2 ixD (var 12) (cst (.str "at"))) (opN lenD (aCons (op2 ixD (var 12) (cst (.str "steps"))) (aNil)))))
  (seqS (exprS (mth "list" (lstMt popF) (var 5) (aNil)))
  (setS 7 (opN tupD (aCons (cst (.str "done")) (aCons (op2 ixD (var 12) (cst (.str "value"))) (aNil))))))
  (ifS (tru (op2 eqE (var 8) (cst (.int 0))))
  (retS (opN tupD (aCons (cst (.str "late")) (aCons (cst (.int 0)) (aCons (opN tupleD (aCons (var 6) (aNil))) (aCons (var 3) (aNil)))))))
  (seqS (setS 8 (op2 subI (var 8) (cst (.int 1))))
  (seqS (setS 13 (op2 ixD (op2 ixD (var 12) (cst (.str "steps"))) (op2 ixD (var 12) (cst (.str "at")))))
  (ifS (tru (op2 eqE (op2 ixD (var 13) (cst (.int 0))) (cst (.str "call"))))
  (setS 9 (opN tupD (aCons (op2 ixD (var 13) (cst (.int 1))) (aCons (op2 ixD (var 13) (cst (.int 2))) (aCons (op2 ixD (var 12) (cst (.str "value"))) (aNil))))))
  (exprS (callB (gK []) m_law_goes (aCons (var 12) (aCons (op2 ixD (var 3) (op2 ixD (var 12) (cst (.str "home")))) (aCons (ifE (tru (op2 eqE (opN lenD (aCons (var 5) (aNil))) (cst (.int 1)))) (var 6) (opN lstD (aNil))) (aCons (var 13) (aNil))))) (aNil)))))))))
def lCs : List (Nat × Nat × Nat) → List Tsk → List (Nat × Ob)
 | (a, b, n) :: is, t :: ts => (a, ltOb t n b) :: (b, intsOb t.pieces) :: lCs is ts
 | _, _ => []
def AtOk : List (Nat × Nat × Nat) → List Tsk → Prop
 | (_, _, n) :: is, t :: ts => atOk n t ∧ AtOk is ts
 | _, _ => True
structure LC (st0 st : Sto) (sd g p : Nat) (cs : List Nat) (is : List (Nat × Nat × Nat)) (M : Mch) : Prop where
 own : Own st0 st ((sd, sdOb M.stores cs) :: (g, intsOb M.given) :: (p, .lst (pileD is)) :: (sCs cs M.stores ++ lCs is M.pile))
 lc : cs.length = M.stores.length
 li : is.length = M.pile.length
 ok : AtOk is M.pile
theorem LC.app {st0 st x : Sto} {sd g p : Nat} {cs : List Nat} {is : List (Nat × Nat × Nat)} {M : Mch} (C : LC st0 st sd g p cs is M) : LC st0 (st ++ x) sd g p cs is M := ⟨C.own.app, C.lc, C.li, C.ok⟩
def freshD : Option (Str × Str × Int) → D
 | none => .non
 | some (h, s, v) => .tup [.str h, .str s, .int v]
section
variable {st0 st : Sto} {w sd g p a b n : Nat} {cs ids : List Nat} {is : List (Nat × Nat × Nat)} {root : List Int} {M : Mch} {t : Tsk} {ts : List Tsk} {P : Pln} {h s : Str} {v : Int} {v' : List (Str × List Stp)} {rd lg x4 x10 x11 x12 x13 : Option D}
def lEnv (w sd g p : Nat) (r0 r1 r2 : D) (rt : D) (lg : Option D) (last : D) (left : Int) (fr : D) (x4 x10 x11 x12 x13 : Option D) : Env :=
 [some (.ref w), some (.tup [r0, r1, r2, rt]), lg, some (.ref sd), x4, some (.ref p), some (.ref g), some last, some (.int left), some fr, x10, x11, x12, x13]
theorem fresh_p {r0 r1 r2 rt : D} (hrt : RtOk st0 rt root) (W : Wld st0 w P ids) (C : LC st0 st sd g p cs is M) (hh : lkp P h = some v') (hlen : is.length < 1000) {Q : Out → Env → Sto → Prop}
  (k : ∀ s' is' y10 y11, LC st0 s' sd g p cs is' (begin P root M h s v) → Q .ct (lEnv w sd g p r0 r1 r2 rt lg (lastD (begin P root M h s v).last) (M.left : Nat) .non x4 y10 y11 x12 x13) s') :
  Runs (seqS lpFr lpGo) (lEnv w sd g p r0 r1 r2 rt lg (lastD M.last) (M.left : Nat) (freshD (some (h, s, v))) x4 x10 x11 x12 x13) st Q := by
 obtain ⟨O, lc, li, ok⟩ := C
 refine r_seqS (r_ifT (truE (op2E rfl rfl rfl)) ?_)
 obtain ⟨i, e1, e2⟩ := (W.same O.sm).home hh
 have hb : (valD (kvM stepsD v') (.inr s)).isSome = (lkp v' s).isSome := by rw [valD_kvM, Option.isSome_map]
 have e3 := dct_in (k := s) e2
 rw [hb] at e3
 have i0 : ∀ s1, ixD (freshD (some (h, s, v))) (.int 0) s1 = some (.ok (.str h), s1) := fun s1 => tup_ix (Int.le_refl _) rfl
 have i1 : ∀ s1, ixD (freshD (some (h, s, v))) (.int 1) s1 = some (.ok (.str s), s1) := fun s1 => tup_ix (by decide) rfl
 have i2 : ∀ s1, ixD (freshD (some (h, s, v))) (.int 2) s1 = some (.ok (.int v), s1) := fun s1 => tup_ix (by decide) rfl
 have hc := truE (op2E (m1 := op2 ixD (var 9) (cst (.int 1))) (env := lEnv w sd g p r0 r1 r2 rt lg (lastD M.last) (M.left : Nat) (freshD (some (h, s, v))) x4 x10 x11 x12 x13) (op2E rfl rfl (i1 st)) (op2E (m1 := var 0) (m2 := op2 ixD (var 9) (cst (.int 0))) rfl (op2E rfl rfl (i0 st)) e1) e3)
 cases hs : lkp v' s with
 | none =>
  rw [hs] at hc
  have hsv : P.svc h s = none := by unfold Pln.svc; rw [hh]; exact hs
  rw [begin_none hsv] at k
  exact r_seqS (r_ifF hc (r_setS (d := .tup [.str "never", .int 0]) rfl (r_seqS (r_setS (d := .non) rfl (r_ctnS (k _ is x10 x11 ⟨O, lc, li, ok⟩))))))
 | some x =>
  rw [hs] at hc
  have hsv : P.svc h s = some x := by unfold Pln.svc; rw [hh]; exact hs
  rw [begin_some hsv] at k
  have hp := Own.at (A := [_, _]) O
  have hq := eqNilE (m := var 5) (env := lEnv w sd g p r0 r1 r2 rt lg (lastD M.last) (M.left : Nat) (freshD (some (h, s, v))) x4 x10 x11 x12 x13) rfl hp
  rw [pile_emp li] at hq
  have O1 := Own.app (g := [Ob.lst []]) O
  have hi : ∃ b s1, ifE (tru (op2 eqE (var 5) (opN lstD (aNil)))) (opN listE (aCons (op2 ixD (var 1) (cst (.int 3))) (aNil))) (opN lstD (aNil)) (lEnv w sd g p r0 r1 r2 rt lg (lastD M.last) (M.left : Nat) (freshD (some (h, s, v))) x4 x10 x11 x12 x13) st = some (.ok (.ref b), s1) ∧ Own st0 s1 ((b, intsOb (if M.pile = [] then root else [])) :: (sd, sdOb M.stores cs) :: (g, intsOb M.given) :: (p, .lst (pileD is)) :: (sCs cs M.stores ++ lCs is M.pile)) := by
   by_cases hn : M.pile = []
   ·rw [if_pos hn]
    rw [decide_eq_true hn] at hq
    exact ⟨_, _, ifET (truE hq) (opNE (args1 (op2E rfl rfl (tup_ix (by decide) rfl))) (hrt _ O1.sm)), O1.new⟩
   ·rw [if_neg hn]
    rw [decide_eq_false hn] at hq
    exact ⟨_, _, ifEF (truE hq) (opNE args0 rfl), O1.new⟩
  obtain ⟨b, s1, hi, O2⟩ := hi
  refine r_seqS (r_ifT hc (r_seqS (r_setS hi ?_)))
  obtain ⟨i, e1, e2⟩ := (W.same O2.sm).home hh
  refine r_seqS (r_setS (d := stepsD x) (s := s1) (op2E (op2E rfl (op2E rfl rfl (i0 s1)) e1) (op2E rfl rfl (i1 s1)) (sv_ix e2 hs)) ?_)
  have O3 := Own.new (o := .dK []) O2
  have O4 := Own.set (A := []) (o' := ltOb ⟨h, x, v, 0, if M.pile = [] then root else []⟩ 0 b) O3
  have hp3 := Own.at (A := [_, _, _]) O2
  have hp4 := Own.at (A := [_, _, _, _]) O4
  have hps : pairsM ((cst (.str "home"), op2 ixD (var 9) (cst (.int 0))) :: (cst (.str "steps"), var 11) :: (cst (.str "value"), op2 ixD (var 9) (cst (.int 2))) :: (cst (.str "at"), cst (.int 0)) :: [(cst (.str "pieces"), var 10)]) (lEnv w sd g p r0 r1 r2 rt lg (lastD M.last) (M.left : Nat) (freshD (some (h, s, v))) x4 (some (.ref b)) (some (stepsD x)) x12 x13) (s1 ++ [.dK []]) = some (.ok [(.str "home", .str h), (.str "steps", stepsD x), (.str "value", .int v), (.str "at", .int 0), (.str "pieces", .ref b)], s1 ++ [.dK []]) := by rfl
  have hd := dsp_run (kvs := ltK ⟨h, x, v, 0, if M.pile = [] then root else []⟩ 0 b) hps rfl (Nat.le_of_ble_eq_true rfl)
  refine r_exprS (appE2 (x := .ref s1.length) rfl hp3 hd hp4 (by rw [pile_len]; omega)) ?_
  have O5 := Own.set (A := [_, _, _, _]) (o' := .lst (pileD is ++ [.ref s1.length])) O4
  refine r_seqS (r_setS (d := .non) rfl (r_ctnS (k _ ((s1.length, b, 0) :: is) (some (.ref b)) (some (stepsD x)) ⟨?_, lc, by rw [List.length_cons, List.length_cons, li], .inl rfl, ok⟩)))
  rw [pile_snoc]
  exact O5.perm (perm2 (X := (sd, _) :: (g, _) :: (p, _) :: sCs cs M.stores))
end
end M
namespace M
open PySem PySem.Spec PyProof.Rows L2 G
section
variable {st0 st : Sto} {w sd g p a b n : Nat} {cs ids : List Nat} {is : List (Nat × Nat × Nat)} {root : List Int} {M : Mch} {t : Tsk} {ts : List Tsk} {P : Pln} {h s : Str} {v : Int} {v' : List (Str × List Stp)} {rd lg x4 x10 x11 x12 x13 : Option D}
theorem LC.task (C : LC st0 st sd g p cs ((a, b, n) :: is) M) (hp : M.pile = t :: ts) : Own st0 st ((a, ltOb t n b) :: (b, intsOb t.pieces) :: ((sd, sdOb M.stores cs) :: (g, intsOb M.given) :: (p, .lst (pileD ((a, b, n) :: is))) :: (sCs cs M.stores ++ lCs is ts))) ∧ atOk n t ∧ AtOk is ts := by
 have O := C.own
 have k := C.ok
 rw [hp] at O k
 exact ⟨O.perm (perm2 (X := (sd, sdOb M.stores cs) :: (g, intsOb M.given) :: (p, .lst (pileD ((a, b, n) :: is))) :: sCs cs M.stores)).symm, k.1, k.2⟩
theorem LC.of (M' : Mch) (O : Own st0 st ((a, ltOb t n b) :: (b, intsOb t.pieces) :: ((sd, sdOb M'.stores cs) :: (g, intsOb M'.given) :: (p, .lst (pileD ((a, b, n) :: is))) :: (sCs cs M'.stores ++ lCs is ts)))) (hp : M'.pile = t :: ts) (lc : cs.length = M'.stores.length) (li : is.length = ts.length) (k1 : atOk n t) (k2 : AtOk is ts) : LC st0 st sd g p cs ((a, b, n) :: is) M' := by
 refine ⟨?_, lc, by rw [hp, List.length_cons, List.length_cons, li], by rw [hp]; exact ⟨k1, k2⟩⟩
 rw [hp]
 exact O.perm (perm2 (X := (sd, sdOb M'.stores cs) :: (g, intsOb M'.given) :: (p, .lst (pileD ((a, b, n) :: is))) :: sCs cs M'.stores))
theorem LC.pop (C : LC st0 st sd g p cs ((a, b, n) :: is) M) (hp : M.pile = t :: ts) (l : Option (Wd × Int)) : LC st0 (st.set p (.lst (pileD is))) sd g p cs is { M with pile := ts, last := l } := by
 obtain ⟨O, k1, k2⟩ := C.task hp
 have li := C.li
 rw [hp, List.length_cons, List.length_cons] at li
 have O1 := O.sub (B := (sd, sdOb M.stores cs) :: (g, intsOb M.given) :: (p, .lst (pileD ((a, b, n) :: is))) :: (sCs cs M.stores ++ lCs is ts)) (.cons _ (List.sublist_cons_self ..))
 exact ⟨Own.set (A := [_, _]) (o' := .lst (pileD is)) O1, C.lc, Nat.succ.inj li, k2⟩
theorem LC.pile (C : LC st0 st sd g p cs ((a, b, n) :: is) M) : st[p]? = some (.lst (pileD is ++ [.ref a])) := by
 have := Own.at (A := [_, _]) C.own
 rw [pile_snoc] at this
 exact this
theorem came_p {wd : Wd} (C : LC st0 st sd g p cs ((a, b, n) :: is) M) (hp : M.pile = t :: ts) (hl : M.last = some (wd, v)) (hlt : t.pl < t.steps.length) :
  Ends' (m_law_came_back [.ref p, .tup [.str wd.s, .int v]]) st fun d s' => d = lastD (go P root M).last ∧ ∃ is', LC st0 s' sd g p cs is' (go P root M) := by
 have li := C.li
 rw [hp, List.length_cons, List.length_cons] at li
 have li := Nat.succ.inj li
 obtain ⟨O, k1, k2⟩ := C.task hp
 have hn : n = t.pl := k1.elim id fun h => absurd h.2 (by omega)
 refine run_f rfl ?_
 show Runs b_law_came_back [some (.ref p), some (.tup [.str wd.s, .int v]), none, none] st _
 have hpl := C.pile
 refine r_seqS (r_asgS (d := .tup [.str wd.s, .int v]) (env' := [some (.ref p), some (.tup [.str wd.s, .int v]), some (.str wd.s), some (.int v)]) rfl (gTup2E rfl rfl) ?_)
 by_cases hd : wd = .done
 ·have hcond : op2 neE (var 2) (cst (.str "done")) [some (.ref p), some (.tup [.str wd.s, .int v]), some (.str wd.s), some (.int v)] st = some (.ok (.bl false), st) := by
   rw [hd]
   exact (op2E rfl rfl ne_str).trans (by rfl)
  refine r_seqS (r_ifF (truE hcond) (r_passS ?_))
  have ha := Own.at (A := []) O
  refine r_seqS (r_subO (ltOb { t with worth := v } n b) (d := .int v) rfl (lastE rfl hpl) rfl ha lk_len (congrArg Ob.dK lp_value) ?_)
  have O1 := Own.set (A := []) (o' := ltOb { t with worth := v } n b) O
  clear ha hpl
  generalize st.set a (ltOb { t with worth := v } n b) = st1 at O1 ⊢
  have ha := Own.at (A := []) O1
  have hpl := Own.at (A := [_, _, _, _]) O1
  rw [pile_snoc] at hpl
  have e1 : op2 addD (op2 ixD (op2 ixD (var 0) (op1 negI (cst (.int 1)))) (cst (.str "at"))) (cst (.int 1)) [some (.ref p), some (.tup [.str wd.s, .int v]), some (.str wd.s), some (.int v)] st1 = some (.ok (.int ((n + 1 : Nat) : Int)), st1) := op2E (op2E (lastE rfl hpl) rfl (dk_ix ha lv_at)) rfl rfl
  refine r_seqS (r_subO (ltOb { t with worth := v } (n + 1) b) e1 (lastE rfl hpl) rfl ha lk_len (congrArg Ob.dK lp_at) ?_)
  have O2 := Own.set (A := []) (o' := ltOb { t with worth := v } (n + 1) b) O1
  refine r_retS (d := .non) rfl ?_
  have hgo : go P root M = { M with last := none, pile := { t with worth := v, pl := t.pl + 1 } :: ts } := by
   unfold go
   rw [hp, hl]
   dsimp only
   rw [if_pos hd]
  rw [hgo]
  exact ⟨rfl, (a, b, n + 1) :: is, LC.of (t := { t with worth := v, pl := t.pl + 1 }) { M with last := none, pile := { t with worth := v, pl := t.pl + 1 } :: ts } O2 rfl C.lc li (.inl (by rw [hn])) k2⟩
 ·have hne : decide (wd.s = "done") = false := by cases wd with
   | done => exact absurd rfl hd
   | stopped => rfl
   | never => rfl
  have hcond : op2 neE (var 2) (cst (.str "done")) [some (.ref p), some (.tup [.str wd.s, .int v]), some (.str wd.s), some (.int v)] st = some (.ok (.bl true), st) := (op2E rfl rfl ne_str).trans (by rw [hne]; rfl)
  refine r_seqS (r_ifT (truE hcond) (r_seqS (r_exprS (popE rfl hpl) (r_retS (d := .tup [.str "stopped", .int 0]) rfl ?_))))
  have hgo : go P root M = { M with pile := ts, last := some (.stopped, 0) } := by
   unfold go
   rw [hp, hl]
   dsimp only
   rw [if_neg hd]
  rw [hgo]
  exact ⟨rfl, is, C.pop hp _⟩
theorem doStep_eq {kv : Kv} {c : Nat} {S1 S2 : List (Nat × Ob)} {M : Mch} {s : Stp} (hs : ∀ h x l, s ≠ .call h x l) (hk : lkp M.stores t.home = some kv) (m2 : sCs cs M.stores = S1 ++ (c, .dK (kvM .int kv)) :: S2) (m3 : ∀ f : Kv → Kv, sCs cs (updL M.stores t.home f) = S1 ++ (c, .dK (kvM .int (f kv))) :: S2) :
  (doStep M t ts s).pile = tkN t kv s :: ts ∧ (doStep M t ts s).given = (if ts = [] then gvN t M.given s else M.given) ∧ (doStep M t ts s).last = M.last ∧ (doStep M t ts s).left = M.left ∧ (doStep M t ts s).stores.map Prod.fst = M.stores.map Prod.fst ∧ sCs cs (doStep M t ts s).stores = S1 ++ (c, .dK (kvM .int (kvN t kv s))) :: S2 := by
 have hg : M.given = if ts = [] then M.given else M.given := by split <;> rfl
 cases s with
 | call h x l => exact absurd rfl (hs h x l)
 | add k n => exact ⟨rfl, hg, rfl, rfl, updL_keys, m3 fun kv => kput kv k (kget kv k + n)⟩
 | put k => exact ⟨rfl, hg, rfl, rfl, updL_keys, m3 fun kv => kput kv k t.worth⟩
 | load k => exact ⟨by unfold doStep tkN; dsimp only; rw [hk]; rfl, hg, rfl, rfl, rfl, m2⟩
 | give => exact ⟨rfl, rfl, rfl, rfl, rfl, m2⟩
 | _ => exact ⟨rfl, hg, rfl, rfl, rfl, m2⟩
theorem lgo_p {r0 r1 r2 rt : D} (C : LC st0 st sd g p cs is M) (K : OkM P M) (hne : M.pile ≠ []) {Q : Out → Env → Sto → Prop}
  (kl : ∀ e, spent M → Q (.rt (resD (none, M.given, M.stores) sd)) e st)
  (kg : ∀ s' is' y12 y13, ¬ spent M → LC st0 s' sd g p cs is' (go P root M) → Q .nx (lEnv w sd g p r0 r1 r2 rt lg (lastD (go P root M).last) ((go P root M).left : Nat) .non x4 x10 x11 y12 y13) s')
  (kc : ∀ s' is' y12 y13 h x v, ¬ spent M → (∃ v', lkp P h = some v') → LC st0 s' sd g p cs is' { M with left := M.left - 1 } → go P root M = begin P root { M with left := M.left - 1 } h x v → M.left ≠ 0 → M.last = none → Q .nx (lEnv w sd g p r0 r1 r2 rt lg .non ((M.left - 1 : Nat) : Int) (freshD (some (h, x, v))) x4 x10 x11 y12 y13) s') :
  Runs lpGo (lEnv w sd g p r0 r1 r2 rt lg (lastD M.last) (M.left : Nat) .non x4 x10 x11 x12 x13) st Q := by
 obtain ⟨t, ts, hp⟩ : ∃ t ts, M.pile = t :: ts := by
  cases h : M.pile with
  | nil => exact absurd h hne
  | cons t ts => exact ⟨t, ts, rfl⟩
 have li := C.li
 rw [hp, List.length_cons] at li
 obtain ⟨⟨a, b, n⟩, is, rfl⟩ : ∃ i is', is = i :: is' := by
  cases is with
  | nil => cases li
  | cons i r => exact ⟨i, r, rfl⟩
 have li := Nat.succ.inj li
 obtain ⟨O, k1, k2⟩ := C.task hp
 have hT := K.tk t (by rw [hp]; exact List.mem_cons_self)
 obtain ⟨t1, t2, t3⟩ := K.top t ts hp
 have hpl := C.pile
 refine r_seqS (r_setS (d := .ref a) (s := st) (lastE rfl hpl) ?_)
 cases hl : M.last with
 | some l =>
  obtain ⟨wd, v⟩ := l
  have hlt := t3 (by rw [hl]; exact fun h => (nomatch h))
  have hns : ¬ spent M := fun h => by rw [h.2.1] at hl; cases hl
  refine r_ifT (truE (op2E rfl rfl rfl)) ?_
  obtain ⟨d, s', e, rfl, is', C2⟩ := (came_p (P := P) (root := root) C hp hl hlt).to
  refine r_setS (callE (args2 rfl rfl) e) ?_
  have hgl : (go P root M).left = M.left := by
   unfold go
   rw [hp, hl]
   dsimp only
   split <;> rfl
  have := kg s' is' (some (.ref a)) x13 hns C2
  rw [hgl] at this
  exact this
 | none =>
  refine r_ifF (truE (op2E rfl rfl rfl)) ?_
  have hle := t2 hl
  have h12 := hT.len
  have ha := Own.at (A := []) O
  have hge : tru (op2 geI (op2 ixD (var 12) (cst (.str "at"))) (opN lenD (aCons (op2 ixD (var 12) (cst (.str "steps"))) (aNil)))) ((lEnv w sd g p r0 r1 r2 rt lg (lastD none) (M.left : Nat) .non x4 x10 x11 x12 x13).set 12 (some (.ref a))) st = some (.ok (decide (t.pl = t.steps.length)), st) := by
   refine truE ((op2E (op2E rfl rfl (dk_ix ha lv_at)) (opNE (args1 (op2E rfl rfl (dk_ix ha lv_steps))) len_steps) (show geI (.int (n : Nat)) (.int (t.steps.length : Nat)) st = some (.ok (.bl (decide ((t.steps.length : Int) ≤ (n : Nat)))), st) from rfl)).trans ?_)
   rw [decide_eq_decide.mpr (?_ : ((t.steps.length : Int) ≤ (n : Nat) ↔ t.pl = t.steps.length))]
   rcases k1 with k1 | k1 <;> constructor <;> intro h <;> omega
  refine r_ifD hge (fun he => ?_) fun he => ?_
  ·have hs : t.steps[t.pl]? = none := List.getElem?_eq_none_iff.mpr (by omega)
   have hns : ¬ spent M := fun h => by
    obtain ⟨_, _, t', ts', e, h⟩ := h
    rw [hp] at e; cases e
    omega
   have hgo : go P root M = { M with pile := ts, last := some (.done, t.worth) } := by
    unfold go
    rw [hp, hl]
    dsimp only
    rw [hs]
   have hC := C.pop hp (some (.done, t.worth))
   refine r_seqS (r_exprS (popE rfl hpl) ?_)
   have O1 := Own.set (A := [_, _, _, _]) (o' := .lst (pileD is)) O
   have ha1 := Own.at (A := []) O1
   refine r_setS (d := .tup [.str "done", .int t.worth]) (opNE (args2 rfl (op2E rfl rfl (dk_ix ha1 lv_value))) rfl) ?_
   have := kg _ is (some (.ref a)) x13 hns (by rw [hgo]; exact hC)
   rw [hgo] at this
   exact this
  ·have hlt : t.pl < t.steps.length := by omega
   have hn : n = t.pl := k1.elim id fun h => absurd h.2 (by omega)
   have hleft : tru (op2 eqE (var 8) (cst (.int 0))) ((lEnv w sd g p r0 r1 r2 rt lg (lastD none) (M.left : Nat) .non x4 x10 x11 x12 x13).set 12 (some (.ref a))) st = some (.ok (decide (M.left = 0)), st) := by
    refine truE ((op2E rfl rfl eq_int).trans ?_)
    rw [decide_eq_decide.mpr (by omega : ((M.left : Int) = 0 ↔ M.left = 0))]
   refine r_ifD hleft (fun h0 => ?_) fun h0 => ?_
   ·have hg := Own.at (A := [_, _, _]) O
    refine r_retS (d := resD (none, M.given, M.stores) sd) (s := st) (opNE (as := [.str "late", .int 0, .tup (M.given.map .int), .ref sd]) (argsC rfl (argsC rfl (args2 (opNE (args1 rfl) (tuple_lst hg)) rfl))) rfl) ?_
    exact kl _ ⟨h0, hl, t, ts, hp, hlt⟩
   ·have hns : ¬ spent M := fun h => h0 h.1
    have hx : t.steps[t.pl]? = some t.steps[t.pl] := List.getElem?_eq_getElem hlt
    generalize t.steps[t.pl] = s at hx
    have hgo : go P root M = goStep P root M t ts s := by
     unfold go
     rw [hp, hl]
     dsimp only
     rw [hx]
    have hz : ((M.left : Int) - 1) = ((M.left - 1 : Nat) : Int) := by omega
    refine r_seqS (r_setS (d := .int ((M.left - 1 : Nat) : Int)) (s := st) (by rw [← hz]; rfl) ?_)
    have hstep : ixD (stepsD t.steps) (.int (n : Nat)) st = some (.ok s.d, st) := tup_ix (Int.natCast_nonneg _) (by rw [Int.toNat_natCast, hn, List.getElem?_map, hx]; rfl)
    refine r_seqS (r_setS (d := s.d) (s := st) (op2E (op2E rfl rfl (dk_ix ha lv_steps)) (op2E rfl rfl (dk_ix ha lv_at)) hstep) ?_)
    have hsm : s ∈ t.steps := List.mem_of_getElem? hx
    have C1 : LC st0 st sd g p cs ((a, b, n) :: is) { M with left := M.left - 1 } := ⟨C.own, C.lc, C.li, C.ok⟩
    by_cases hc : ∃ h x l, s = .call h x l
    ·obtain ⟨h, x, l, rfl⟩ := hc
     refine r_ifT (truE (op2E (op2E rfl rfl (tup_ix (x := .str "call") (Int.le_refl _) rfl)) rfl rfl)) ?_
     refine r_setS (d := freshD (some (h, x, t.worth))) (s := st) (opNE (args3 (op2E rfl rfl (tup_ix (x := .str h) (by decide) rfl)) (op2E rfl rfl (tup_ix (x := .str x) (by decide) rfl)) (op2E rfl rfl (dk_ix ha lv_value))) rfl) ?_
     exact kc _ _ (some (.ref a)) (some (Stp.call h x l).d) h x t.worth hns ((hT.steps _ hsm).call _ _ _ rfl) C1 (by rw [hgo]; rfl) h0 hl
    ·have hs : ∀ h x l, s ≠ .call h x l := fun h x l e => hc ⟨h, x, l, e⟩
     obtain ⟨kd, rest, hd, hk⟩ := not_call hs
     obtain ⟨kv, z1, z2, z3⟩ := store_of K hT
     obtain ⟨c, S1, S2, m1, m2, m3⟩ := store_at (h := t.home) C.lc z1
     have hg := K.z2
     have hsd := Own.at (A := [_, _]) O
     have hpl2 := Own.at (A := [_, _, _, _]) O
     have hgs : go P root M = doStep { M with left := M.left - 1 } t ts s := by
      rw [hgo]
      cases s with
      | call h x l => exact absurd rfl (hs h x l)
      | _ => rfl
     obtain ⟨w1, w2, w3, w4, w5, w6⟩ := doStep_eq (M := { M with left := M.left - 1 }) (t := t) (ts := ts) hs z1 m2 m3
     rw [← hgs] at w1 w2 w3 w4 w5 w6
     have hlen : cs.length = (go P root M).stores.length := by rw [C.lc, ← List.length_map (f := Prod.fst) (as := (go P root M).stores), w5, List.length_map]
     refine r_ifF (s := st) ?_ ?_
     ·rw [hd]
      exact truE ((op2E (op2E rfl rfl (tup_ix (x := .str kd) (Int.le_refl _) rfl)) rfl eqE_str).trans (by rw [hk]))
     have hcond : tru (op2 eqE (opN lenD (aCons (var 5) (aNil))) (cst (.int 1))) ((((lEnv w sd g p r0 r1 r2 rt lg (lastD none) (M.left : Nat) .non x4 x10 x11 x12 x13).set 12 (some (.ref a))).set 8 (some (.int ((M.left - 1 : Nat) : Int)))).set 13 (some s.d)) st = some (.ok (decide (ts = [])), st) := by
      refine truE ((op2E (opNE (args1 rfl) (len_lstE hpl2)) rfl eq_int).trans ?_)
      rw [pile_len, List.length_cons, li]
      rw [decide_eq_decide.mpr (⟨fun h => List.length_eq_zero_iff.mp (by omega), fun h => by rw [h]; rfl⟩ : (((ts.length + 1 : Nat) : Int) = 1 ↔ ts = []))]
     have fin : ∀ at', (at' = (tkN t kv s).pl ∨ at' = 99 ∧ s = .fin) → atOk at' (tkN t kv s) := fun at' h => h.elim .inl fun h => .inr ⟨h.1, by rw [h.2]; rfl⟩
     have end_ : ∀ (s' : Sto) at', (at' = (tkN t kv s).pl ∨ at' = 99 ∧ s = .fin) → Own st0 s' ((a, ltOb (tkN t kv s) at' b) :: (b, intsOb (tkN t kv s).pieces) :: ((sd, sdOb M.stores cs) :: (g, intsOb (if ts = [] then gvN t M.given s else M.given)) :: (p, .lst (pileD ((a, b, n) :: is))) :: (S1 ++ (c, .dK (kvM .int (kvN t kv s))) :: (S2 ++ lCs is ts)))) → Q .nx (lEnv w sd g p r0 r1 r2 rt lg .non ((M.left - 1 : Nat) : Int) .non x4 x10 x11 (some (.ref a)) (some s.d)) s' := by
      intro s' at' hat O'
      have hlast : (go P root M).last = none := w3.trans hl
      have := kg s' ((a, b, at') :: is) (some (.ref a)) (some s.d) hns (LC.of (t := tkN t kv s) (go P root M) (by
       have e : S1 ++ (c, Ob.dK (kvM D.int (kvN t kv s))) :: (S2 ++ lCs is ts) = S1 ++ (c, Ob.dK (kvM D.int (kvN t kv s))) :: S2 ++ lCs is ts := by rw [List.append_assoc]; rfl
       rw [e] at O'
       rw [w2, w6]
       unfold sdOb at O' ⊢
       rw [w5]
       exact O') w1 hlen li (fin at' hat) k2)
      rw [hlast, w4] at this
      exact this
     have e : sCs cs M.stores ++ lCs is ts = S1 ++ (c, Ob.dK (kvM D.int kv)) :: (S2 ++ lCs is ts) := by rw [m2, List.append_assoc]; rfl
     rw [e] at O
     by_cases hts : ts = []
     ·rw [decide_eq_true hts] at hcond
      have O1 := O.perm (B := (g, intsOb M.given) :: (a, ltOb t n b) :: (b, intsOb t.pieces) :: (((sd, sdOb M.stores cs) :: (p, .lst (pileD ((a, b, n) :: is))) :: S1) ++ (c, .dK (kvM .int kv)) :: (S2 ++ lCs is ts))) (List.perm_middle (l₁ := [_, _, _])).symm
      obtain ⟨d, s', ev, rfl, at', hat, O2⟩ := (goes_p O1 hs hn z2 (by omega) (by omega)).to
      refine r_exprS (callE (argsC rfl (argsC (op2E rfl (op2E rfl rfl (dk_ix ha lv_home)) (dk_ix hsd m1)) (args2 (ifET hcond rfl) rfl))) ev) (end_ s' at' hat ?_)
      rw [if_pos hts]
      exact O2.perm (List.perm_middle (l₁ := [_, _, _]))
     ·rw [decide_eq_false hts] at hcond
      have O1 := O.new (o := intsOb [])
      obtain ⟨d, s', ev, rfl, at', hat, O2⟩ := (goes_p (S := (sd, sdOb M.stores cs) :: (g, intsOb M.given) :: (p, .lst (pileD ((a, b, n) :: is))) :: S1) O1 hs hn z2 (by omega) (by show 0 < 1000; decide)).to
      refine r_exprS (callE (argsC rfl (argsC (op2E rfl (op2E rfl rfl (dk_ix ha lv_home)) (dk_ix hsd m1)) (args2 (ifEF hcond (opNE args0 (show lstD [] st = some (.ok (.ref st.length), st ++ [intsOb []]) from rfl))) rfl))) ev) (end_ s' at' hat ?_)
      rw [if_neg hts]
      exact O2.sub (List.sublist_cons_self ..)
end
end M
namespace M
open PySem PySem.Spec PyProof.Rows L2 G
theorem r_lkS {m : Env → Mo D} {b : MS} {env : Env} {st : Sto} {w : Nat} {u : Ob} {Q : Out → Env → Sto → Prop} (h : lkAt m env st = some (w, u)) (hb : Runs b env (st.set w (.lk u)) fun o e s => isEr o = false ∧ s[w]? = some (.lk u) ∧ Q o e (s.set w u)) : Runs (lkS m b) env st Q := by
 obtain ⟨o, e, s, h1, h2, h3, h4⟩ := hb
 refine ⟨o, e, s.set w u, ?_, h4⟩
 unfold lkS
 rw [h]
 dsimp only
 rw [h1]
 dsimp only
 rw [h2, unlk_e h3]
 first | done | rfl
def nn : Option (Option D) → Nat
 | some (some D.non) => 0
 | _ => 1
def lmu (p : Nat) (e : Env) (s : Sto) : Nat := (match e[8]? with
 | some (some (D.int l)) => 4 * l.toNat
 | _ => 0) + (match s[p]? with
 | some (Ob.lst xs) => 2 * xs.length
 | _ => 0) + nn e[7]? + 3 * nn e[9]?
section
variable {st0 st : Sto} {w sd g p n : Nat} {cs ids : List Nat} {is : List (Nat × Nat × Nat)} {root : List Int} {M : Mch} {P : Pln} {h s : Str} {v : Int} {v' : List (Str × List Stp)} {lg x4 x10 x11 x12 x13 : Option D} {r0 r1 r2 : D} {fr : Option (Str × Str × Int)}
theorem LC.meas (C : LC st0 st sd g p cs is M) : lmu p (lEnv w sd g p r0 r1 r2 rt lg (lastD M.last) (M.left : Nat) (freshD fr) x4 x10 x11 x12 x13) st = mu M + 3 * (if fr = none then 0 else 1) := by
 have hp := Own.at (A := [_, _]) C.own
 show 4 * (M.left : Int).toNat + (match st[p]? with
  | some (.lst xs) => 2 * xs.length
  | _ => 0) + nn (some (some (lastD M.last))) + 3 * nn (some (some (freshD fr))) = _
 rw [hp]
 dsimp only
 rw [pile_len, C.li, Int.toNat_natCast]
 unfold mu
 have e1 : nn (some (some (lastD M.last))) = if M.last = none then 0 else 1 := by cases M.last <;> rfl
 have e2 : nn (some (some (freshD fr))) = if fr = none then 0 else 1 := by cases fr <;> rfl
 rw [e1, e2]
theorem begin_left : (begin P root M h s v).left = M.left := by unfold begin; split <;> rfl
theorem begin_mu : mu (begin P root M h s v) ≤ mu M + 2 := by
 cases e : P.svc h s with
 | none =>
  rw [begin_none e]
  unfold mu
  dsimp only
  rw [if_neg (fun h => (nomatch h))]
  split <;> omega
 | some x =>
  rw [begin_some e]
  unfold mu
  dsimp only
  simp only [List.length_cons]
  omega
theorem LC.res (C : LC st0 st sd g p cs is M) {R : Res} (e : R.2.2 = M.stores) : ResAt st R sd cs := by
 have O := C.own
 refine ⟨by rw [e]; exact C.lc, by rw [e]; exact Own.at (A := []) O, fun q hq => ?_⟩
 rw [e] at hq
 exact O.at_ q (List.mem_cons_of_mem _ (List.mem_cons_of_mem _ (List.mem_cons_of_mem _ (List.mem_append_left _ hq))))
theorem law_plain_p {rt : D} (hrt : RtOk st rt root) (W : Wld st w P ids) (OP : OkP P) (hh : lkp P h = some v') (hr : root.length ≤ 400) (hn : n ≤ 300) :
  Ends' (m_law_plain [.ref w, .tup [.str h, .str s, .int v, rt], .int (n : Nat)]) st fun d s' => ∃ R sd cs, d = resD R sd ∧ Fin' P root (begin P root (mach0 P n) h s v) R ∧ ResAt s' R sd cs ∧ OkR P R ∧ Same [] st s' := by
 refine run_f rfl ?_
 show Runs b_law_plain [some (.ref w), some (.tup [.str h, .str s, .int v, rt]), some (.int (n : Nat)), none, none, none, none, none, none, none, none, none, none, none] st _
 have O : Own st (st ++ [Ob.dK []]) [(st.length, .dK [])] := Own.nil.new
 refine r_seqS (r_setS (d := .ref st.length) (s := st ++ [.dK []]) rfl ?_)
 generalize hsd : st.length = sd at O ⊢
 show Runs _ [some (.ref w), some (.tup [.str h, .str s, .int v, rt]), some (.int (n : Nat)), some (.ref sd), none, none, none, none, none, none, none, none, none, none] _ _
 generalize st ++ [Ob.dK []] = st1 at O ⊢
 have hw := (W.same O.sm).top
 have O1 := O.lock W.top
 have hl := O1.locked W.top
 have hnl : ids.length = (P.map Prod.fst).length := by rw [List.length_map]; exact W.len
 have hNl : (P.map Prod.fst).length < 1000 := by rw [List.length_map]; exact OP.len
 have hNd : (P.map Prod.fst).Nodup := OP.nd
 generalize hN : P.map Prod.fst = names at hw O1 hl hnl hNl hNd
 refine r_seqS (r_lkS (lk_at rfl hw) ?_)
 refine r_forS names.length (fun i e s' => (∃ x4, e = [some (.ref w), some (.tup [.str h, .str s, .int v, rt]), some (.int (n : Nat)), some (.ref sd), x4, none, none, none, none, none, none, none, none, none]) ∧ ∃ cs, cs.length = i ∧ Own (st.set w (.lk (.dK (nmR names ids)))) s' ((sd, .dK (nmR (names.take i) cs)) :: (sCs cs (noKv (names.take i)) ++ []))) (keys_e rfl hl) (by omega) ⟨⟨_, rfl⟩, [], rfl, by rw [List.take_zero]; exact O1⟩ ?_ ?_
 ·rintro _ s' ⟨⟨x4, rfl⟩, cs, hc, O2⟩
  rw [List.take_length, List.append_nil] at O2
  have hW : st[w]? = some (.dK (nmR names ids)) := by rw [← hN]; exact W.top
  refine ⟨by rw [nmR_keys hnl]; unfold gFix; simp, rfl, O2.locked hW, ?_⟩
  have O3 := O2.unlock hW
  generalize s'.set w (.dK (nmR names ids)) = s1 at O3 ⊢
  have O4 := O3.new (o := .lst [])
  have O5 := O4.new (o := .lst [])
  refine r_seqS (r_asgS (d := .tup [.ref s1.length, .ref (s1 ++ [Ob.lst []]).length, .non, .int (n : Nat), .tup [.str h, .str s, .int v]]) (s := s1 ++ [.lst []] ++ [.lst []]) (env' := lEnv w sd (s1 ++ [Ob.lst []]).length s1.length (.str h) (.str s) (.int v) rt (some (.int (n : Nat))) (lastD (mach0 P n).last) ((mach0 P n).left : Nat) (freshD (some (h, s, v))) x4 none none none none) (s' := s1 ++ [.lst []] ++ [.lst []]) (opNE (argsC (opNE args0 rfl) (argsC (opNE args0 rfl) (argsC rfl (args2 rfl (slcE (lo := none) (hi := some 3) rfl rfl rfl rfl))))) rfl) rfl ?_)
  generalize (s1 ++ [Ob.lst []]).length = g at O5 ⊢
  generalize s1.length = p at O5 ⊢
  generalize s1 ++ [Ob.lst []] ++ [Ob.lst []] = s2 at O5 ⊢
  have C0 : LC st s2 sd g p cs [] (mach0 P n) := by
   refine ⟨?_, by rw [hc]; show _ = (noKv (P.map Prod.fst)).length; rw [noKv_len, hN], rfl, trivial⟩
   show Own st s2 ((sd, .dK (nmR ((noKv (P.map Prod.fst)).map Prod.fst) cs)) :: (g, .lst []) :: (p, .lst []) :: (sCs cs (noKv (P.map Prod.fst)) ++ []))
   rw [noKv_keys, hN, List.append_nil]
   exact O5.perm (List.Perm.append_right (sCs cs (noKv names)) (l₁ := [(sd, _), (g, _), (p, _)]) (l₂ := [(g, _), (p, _), (sd, _)]) (List.perm_append_comm (l₁ := [(sd, _)]) (l₂ := [(g, _), (p, _)])))
  have K0 := mach0_ok (h := h) (s := s) (v := v) (n := n) OP hr hn
  refine r_seqS (r_whileS (fun e s' => ∃ M is fr x4 x10 x11 x12 x13, e = lEnv w sd g p (.str h) (.str s) (.int v) rt (some (.int (n : Nat))) (lastD M.last) (M.left : Nat) (freshD fr) x4 x10 x11 x12 x13 ∧ LC st s' sd g p cs is M ∧ M.pile.length ≤ 400 ∧ ∃ M', OkM P M' ∧ Rch P root (begin P root (mach0 P n) h s v) M' ∧ (match fr with
   | none => M' = M
   | some (h', s', v') => (∃ y, lkp P h' = some y) ∧ M' = begin P root M h' s' v')) (fun e s' => lmu p e s') ⟨mach0 P n, [], some (h, s, v), x4, none, none, none, none, rfl, C0, Nat.zero_le _, _, K0, .refl, ⟨v', hh⟩, rfl⟩ ?_ ?_)
  ·rw [C0.meas]
   show 4 * n + 2 * 0 + 0 + 3 * 1 < _
   omega
  rintro _ s3 ⟨M, is, fr, x4, x10, x11, x12, x13, rfl, C, hlen, M', K, hrch, hfr⟩
  cases fr with
  | some f =>
   obtain ⟨h', z', v2⟩ := f
   obtain ⟨⟨y, hy⟩, rfl⟩ := hfr
   refine ⟨true, s3, orTT (truE (op2E rfl rfl rfl)), fun _ => ?_, fun h => (nomatch h)⟩
   rw [C.meas]
   refine fresh_p hrt W C hy (by rw [C.li]; omega) fun s4 is' y10 y11 C2 => ?_
   have hbl := begin_left (P := P) (root := root) (M := M) (h := h') (s := z') (v := v2)
   refine ⟨⟨begin P root M h' z' v2, is', none, x4, y10, y11, x12, x13, by rw [hbl]; rfl, C2, by have := K.z1; omega, _, K, hrch, rfl⟩, ?_⟩
   have hm := C2.meas (w := w) (r0 := .str h) (r1 := .str s) (r2 := .int v) (rt := rt) (lg := some (.int (n : Nat))) (fr := none) (x4 := x4) (x10 := y10) (x11 := y11) (x12 := x12) (x13 := x13)
   rw [hbl] at hm
   have hb := begin_mu (P := P) (root := root) (M := M) (h := h') (s := z') (v := v2)
   rw [show D.non = freshD none from rfl, hm, if_pos rfl, if_neg (fun h => (nomatch h))]
   omega
  | none =>
   subst hfr
   have hpl := Own.at (A := [_, _]) C.own
   have hw2 := neNilE (m := var 5) (env := lEnv w sd g p (.str h) (.str s) (.int v) rt (some (.int (n : Nat))) (lastD M'.last) (M'.left : Nat) (freshD none) x4 x10 x11 x12 x13) rfl hpl
   rw [pile_emp C.li] at hw2
   have C1 := C.app (x := [Ob.lst []])
   refine ⟨!decide (M'.pile = []), s3 ++ [.lst []], orE (truE (op2E rfl rfl rfl)) (truE hw2), fun hk => ?_, fun hk => ?_⟩
   ·have hne : M'.pile ≠ [] := fun e => by rw [decide_eq_true e] at hk; cases hk
    rw [C.meas]
    generalize s3 ++ [Ob.lst []] = s3 at C1 ⊢
    refine r_seqS (r_ifF (truE (op2E rfl rfl rfl)) (r_passS (lgo_p (root := root) C1 K hne (fun e hsp => ?_) (fun s4 is' y12 y13 hns C2 => ?_) fun s4 is' y12 y13 h' z' v2 hns hy C2 hg h0 hl => ?_)))
    ·exact ⟨_, sd, cs, rfl, hrch.fin (.late hsp), C1.res rfl, ⟨K.st, K.nd⟩, C1.own.sm⟩
    ·have K2 := go_ok OP hr K hne hns
     refine ⟨⟨go P root M', is', none, x4, x10, x11, y12, y13, rfl, C2, by have := K2.z1; omega, _, K2, .step hrch hne hns, rfl⟩, ?_⟩
     rw [show D.non = freshD none from rfl, C2.meas]
     have := go_mu (P := P) (root := root) hne hns
     omega
    ·have K2 := go_ok OP hr K hne hns
     rw [hg] at K2
     have hr2 := Rch.step hrch hne hns
     rw [hg] at hr2
     refine ⟨⟨{ M' with left := M'.left - 1 }, is', some (h', z', v2), x4, x10, x11, y12, y13, by rw [hl]; rfl, C2, hlen, _, K2, hr2, hy, rfl⟩, ?_⟩
     have hm := C2.meas (w := w) (r0 := .str h) (r1 := .str s) (r2 := .int v) (rt := rt) (lg := some (.int (n : Nat))) (fr := some (h', z', v2)) (x4 := x4) (x10 := x10) (x11 := x11) (x12 := y12) (x13 := y13)
     rw [show lastD ({ M' with left := M'.left - 1 } : Mch).last = .non by rw [show ({ M' with left := M'.left - 1 } : Mch).last = M'.last from rfl, hl]; rfl] at hm
     rw [hm, if_pos rfl, if_neg (fun h => (nomatch h))]
     unfold mu
     dsimp only
     omega
   ·have hnil : M'.pile = [] := by
     by_cases e : M'.pile = []
     ·exact e
     ·rw [decide_eq_false e] at hk; cases hk
    generalize s3 ++ [Ob.lst []] = s3 at C1 ⊢
    obtain ⟨l, hl⟩ : ∃ l, M'.last = some l := by
     cases e : M'.last with
     | none => exact absurd e (K.en hnil)
     | some l => exact ⟨l, rfl⟩
    obtain ⟨wd, x⟩ := l
    rw [hl]
    have hg := Own.at (A := [_]) C1.own
    refine r_retS (d := resD (some (wd, x), M'.given, M'.stores) sd) (s := s3) (opNE (as := [.str wd.s, .int x, .tup (M'.given.map .int), .ref sd]) (argsC (op2E rfl rfl (tup_ix (by decide) rfl)) (argsC (op2E rfl rfl (tup_ix (by decide) rfl)) (args2 (opNE (args1 rfl) (tuple_lst hg)) rfl))) rfl) ?_
    exact ⟨_, sd, cs, rfl, hrch.fin (.stop hnil hl), C1.res rfl, ⟨K.st, K.nd⟩, C1.own.sm⟩
 ·rintro i _ s' hi ⟨⟨x4, rfl⟩, cs, hc, O2⟩
  have hx : names[i]? = some names[i] := List.getElem?_eq_getElem hi
  have htk : names.take (i + 1) = names.take i ++ [names[i]] := (List.take_append_getElem hi).symm
  have hct : cs.length = (names.take i).length := by rw [hc, List.length_take]; omega
  have hni : names[i] ∉ names.take i := by
   intro hm
   obtain ⟨j, hj, e2⟩ := List.mem_iff_getElem.mp hm
   rw [List.getElem_take] at e2
   have h1 : j < i := by rw [List.length_take] at hj; omega
   exact (List.pairwise_iff_getElem.mp hNd) j i (by omega) hi h1 e2
  have O3 := own_name O2 hct hni
  have hsd2 := Own.at (A := []) (Own.app (g := [Ob.dK []]) O2)
  refine ⟨.str names[i], [some (.ref w), some (.tup [.str h, .str s, .int v, rt]), some (.int (n : Nat)), some (.ref sd), some (.str names[i]), none, none, none, none, none, none, none, none, none], s', by rw [nmR_keys hnl]; unfold gFix; rw [List.getElem?_map, hx]; rfl, rfl, ?_⟩
  refine r_subO _ (s := s' ++ [Ob.dK []]) (d := .ref s'.length) (k := names[i]) rfl rfl rfl hsd2 (by rw [nmR_len hct, List.length_take]; omega) rfl ?_
  exact ⟨⟨_, rfl⟩, cs ++ [s'.length], by rw [List.length_append]; show _ + 1 = _; omega, by rw [htk]; exact O3⟩
end
end M
namespace M
open PySem PySem.Spec PyProof.Rows L2 G
section
variable {d g l : Nat} {st : Sto}
theorem p39 : powI (.int 10) (.int 39) st = some (.ok (.int (10 ^ 39)), st) := by rfl
theorem small39 : ((10 : Int) ^ 39).natAbs < 2 ^ 300 := by decide +kernel
theorem pos39 : (0 : Int) < 10 ^ 39 := by decide +kernel
theorem sm {k : Int} (h : k.natAbs ≤ 1000) : k.natAbs < 2 ^ 300 := Nat.lt_of_le_of_lt h (by decide +kernel)
theorem nb_lt {i n : Int} (h : 0 ≤ i) (h2 : i < n) (hn : n.natAbs < 10 ^ 40 := by decide) : i.natAbs < 10 ^ 40 := by omega
theorem nb_sub {i n : Int} (h : 0 ≤ i) (h2 : i < n) (hn : n.natAbs < 10 ^ 40 := by decide) : (0 - i).natAbs < 10 ^ 40 := by omega
theorem big1 : (1 : Int).natAbs < 10 ^ 40 := by decide
theorem number_dB (Z : Dr d g l st) : ∃ i s, m_law_number [.ref d] st = some (.ok (.int i), s) ∧ i.natAbs < 10 ^ 40 ∧ Dr d g l s ∧ Same [d, g] st s := by
 have key : Ends' (m_law_number [.ref d]) st fun v s => ∃ i, v = .int i ∧ i.natAbs < 10 ^ 40 ∧ Dr d g l s ∧ Same [d, g] st s := by
  refine run_f rfl ?_
  show Runs b_law_number [some (.ref d), none] st _
  obtain ⟨k, s1, e1, _, _, D1, S1⟩ := take_d (many := 6) Z (by decide) (sm (by decide))
  refine r_seqS (r_setS (callE (args2 rfl rfl) e1) ?_)
  refine r_seqS (r_ifD (truE (op2E rfl rfl eq_int)) (fun _ => ?_) fun _ => r_passS ?_)
  ·obtain ⟨k, s2, e2, q0, q1, D2, S2⟩ := take_d (many := 9) D1 (by decide) (sm (by decide))
   exact r_retS (op2E rfl (callE (args2 rfl rfl) e2) sub_int) ⟨_, rfl, (by first | exact nb_lt q0 q1 | exact nb_sub q0 q1), D2, S1.trans S2⟩
  refine r_seqS (r_ifD (truE (op2E rfl rfl eq_int)) (fun _ => ?_) fun _ => r_passS ?_)
  ·obtain ⟨k, s2, e2, q0, q1, D2, S2⟩ := take_d (many := 10 ^ 39) D1 pos39 small39
   exact r_retS (callE (args2 rfl (op2E rfl rfl p39)) e2) ⟨_, rfl, (by first | exact nb_lt q0 q1 | exact nb_sub q0 q1), D2, S1.trans S2⟩
  refine r_seqS (r_ifD (truE (op2E rfl rfl eq_int)) (fun _ => ?_) fun _ => r_passS ?_)
  ·obtain ⟨k, s2, e2, q0, q1, D2, S2⟩ := take_d (many := 10 ^ 39) D1 pos39 small39
   exact r_retS (op2E rfl (callE (args2 rfl (op2E rfl rfl p39)) e2) sub_int) ⟨_, rfl, (by first | exact nb_lt q0 q1 | exact nb_sub q0 q1), D2, S1.trans S2⟩
  ·obtain ⟨k, s2, e2, q0, q1, D2, S2⟩ := take_d (many := 7) D1 (by decide) (sm (by decide))
   exact r_retS (callE (args2 rfl rfl) e2) ⟨_, rfl, (by first | exact nb_lt q0 q1 | exact nb_sub q0 q1), D2, S1.trans S2⟩
 obtain ⟨v, s, e, i, rfl, h⟩ := key
 exact ⟨i, s, e, h⟩
theorem number_d (Z : Dr d g l st) : ∃ i s, m_law_number [.ref d] st = some (.ok (.int i), s) ∧ Dr d g l s ∧ Same [d, g] st s :=
 let ⟨i, s, e, _, h⟩ := number_dB Z
 ⟨i, s, e, h⟩
end
def ownA : List Str := ["clock", "past", "ask", "stop", "told", "piece", "shut", "room", "in", "out", "done", "never", "late"]
def ownB : List Str := ["stopped", "step", "send", "tick", "call", "runs", "held", "over", "begun", "cut", "restart", "add"]
def ownW : List Str := ownA ++ ownB
theorem ownW_nd : ownW.Nodup := by decide +kernel
theorem ownW_len : ∀ z ∈ ownW, 1 ≤ z.length ∧ z.length ≤ 8 := by decide +kernel
def tailW : List Str := ["", "x", "yx", "zzzzzzz", "q", "xyxy", "yy"]
theorem tailW_len : ∀ z ∈ tailW, z.length ≤ 7 := by decide +kernel
def abcT : Str := "abcdefghijklmnopqrstuvwxyz"
theorem abcT_cps : ∀ i, i < 26 → abcT.cps.toList[i]? = some (97 + i) := by decide +kernel
theorem slc_any {st : Sto} {n : Nat} {xs : List D} {lo hi : Option Int} (h : st[n]? = some (.lst xs)) : slD (.ref n) lo hi st = some (.ok (.ref st.length), st ++ [.lst (cutL2 xs lo hi)]) := by
 unfold slD tupOf lstOf
 dsimp only
 rw [h]
theorem cut_lo {α : Type} {xs : List α} {a : Nat} (h : a ≤ xs.length) : cutL2 xs (some (a : Int)) none = xs.drop a := by
 unfold cutL2
 rw [HT.sIx_nat, HT.sIx_none, Nat.min_eq_left h, List.take_of_length_le (by rw [List.length_drop]; exact Nat.le_refl _)]
theorem cut_hi {α : Type} {xs : List α} {a : Nat} (h : a ≤ xs.length) : cutL2 xs none (some (a : Int)) = xs.take a := by
 unfold cutL2
 rw [HT.sIx_nat, HT.sIx_none, Nat.min_eq_left h, List.drop_zero, Nat.sub_zero]
theorem ip_rng {J : SI} {m : Env → Mo D} {env : Env} {N : Nat} {j : Int} (h : Pure J (m env) (.int j)) (hj : j.toNat = N) (h1 : -(2 ^ 62) ≤ j) (h2 : j < 2 ^ 62) : IterP J (rng1M m) env ((List.range N).map fun i => D.int (i : Nat)) := fun st hI => by
 obtain ⟨x, e⟩ := h st hI
 refine ⟨_, x, rngE e hj h1 h2, fun i y => ?_⟩
 unfold gRng
 by_cases hi : i < N
 ·rw [if_pos hi, List.getElem?_map, List.getElem?_range hi, Int.zero_add]; rfl
 ·rw [if_neg hi, List.getElem?_map, List.getElem?_eq_none (by rw [List.length_range]; omega)]; rfl
theorem str_cons {c : Nat} {t : Str} : ((⟨#[c]⟩ : Str) ++ t).cps.toList = c :: t.cps.toList := by
 show (#[c] ++ t.cps).toList = _
 simp
section
variable {d g l : Nat} {st : Sto}
def Sh (z : Str) : Prop := z.length ≤ 8 ∧ ∀ c ∈ z.cps.toList, c < 1000
theorem tailW_c : ∀ z ∈ tailW, ∀ c ∈ z.cps.toList, c < 1000 := by decide +kernel
theorem ownW_c : ∀ z ∈ ownW, ∀ c ∈ z.cps.toList, c < 1000 := by decide +kernel
structure Words (ws : List Str) : Prop where
 len : ws.length = 14
 nd : ws.Nodup
 z : ∀ z ∈ ws, 1 ≤ z.length ∧ z.length ≤ 8
 c : ∀ z ∈ ws, ∀ c ∈ z.cps.toList, c < 1000
def wrd (a u k : Nat) : Str := (⟨#[97 + (a + 7 * k) % 26]⟩ : Str) ++ (tailW[(u + k * k) % 7]?.getD "")
theorem wrd_ok (a u : Nat) : Words ((List.range 14).map (wrd a u)) := by
 refine ⟨by simp, ?_, fun z hz => ?_, fun z hz c hc => ?_⟩
 ·refine List.pairwise_map.mpr (List.nodup_range.imp_of_mem ?_)
  intro x y hx hy hne e
  have hx := List.mem_range.mp hx
  have hy := List.mem_range.mp hy
  have h1 := congrArg (fun s : Str => s.cps.toList.head?) e
  unfold wrd at h1
  rw [str_cons, str_cons] at h1
  have h2 : (a + 7 * x) % 26 = (a + 7 * y) % 26 := by
   have := Option.some.inj h1
   omega
  exact hne (by omega)
 ·obtain ⟨k, _, rfl⟩ := List.mem_map.mp hz
  have h7 : (u + k * k) % 7 < tailW.length := Nat.mod_lt _ (by decide)
  have ht := tailW_len (tailW[(u + k * k) % 7]) (List.getElem_mem h7)
  have e : (wrd a u k).length = 1 + (tailW[(u + k * k) % 7]).length := by
   unfold wrd
   rw [List.getElem?_eq_getElem h7]
   show ((#[_] ++ _ : Array Nat)).size = _
   rw [Array.size_append]
   first | done | rfl
  omega
 ·obtain ⟨k, _, rfl⟩ := List.mem_map.mp hz
  have h7 : (u + k * k) % 7 < tailW.length := Nat.mod_lt _ (by decide)
  unfold wrd at hc
  rw [str_cons, List.getElem?_eq_getElem h7] at hc
  rcases List.mem_cons.mp hc with rfl | hc
  ·omega
  ·exact tailW_c _ (List.getElem_mem h7) c hc
theorem rot_ok {a : Nat} (h : a < 25) : Words ((ownW.drop a ++ ownW.take a).take 14) := by
 have hp : (ownW.drop a ++ ownW.take a).Perm ownW := List.perm_append_comm.trans (by rw [List.take_append_drop])
 refine ⟨?_, (hp.nodup_iff.mpr ownW_nd).sublist (List.take_sublist ..), fun z hz => ownW_len z (hp.mem_iff.mp (List.mem_of_mem_take hz)), fun z hz => ownW_c z (hp.mem_iff.mp (List.mem_of_mem_take hz))⟩
 rw [List.length_take, hp.length_eq]
 first | done | rfl
theorem words_d (Z : Dr d g l st) : ∃ n ws s, m_law_words [.ref d, .int 14] st = some (.ok (.ref n), s) ∧ s[n]? = some (.lst (ws.map D.str)) ∧ Words ws ∧ st.length ≤ n ∧ Dr d g l s ∧ Same [d, g] st s := by
 have key : Ends' (m_law_words [.ref d, .int 14]) st fun v s => ∃ n ws, v = .ref n ∧ s[n]? = some (.lst (ws.map D.str)) ∧ Words ws ∧ st.length ≤ n ∧ Dr d g l s ∧ Same [d, g] st s := by
  refine run_f rfl ?_
  show Runs b_law_words [some (.ref d), some (.int 14), none, none, none, none, none, none] st _
  refine r_seqS (r_setS (d := .ref st.length) (s := st ++ [.lst (ownA.map D.str)]) rfl ?_)
  have hA : (st ++ [Ob.lst (ownA.map D.str)] ++ [Ob.lst (ownB.map D.str)])[st.length]? = some (.lst (ownA.map D.str)) := getA getN
  have hB : (st ++ [Ob.lst (ownA.map D.str)] ++ [Ob.lst (ownB.map D.str)])[(st ++ [Ob.lst (ownA.map D.str)]).length]? = some (.lst (ownB.map D.str)) := getN
  have hAB := add_lst hA hB (by decide)
  have D0 : Dr d g l (st ++ [Ob.lst (ownA.map D.str)] ++ [Ob.lst (ownB.map D.str)] ++ [Ob.lst (ownA.map D.str ++ ownB.map D.str)]) := Z.app.app.app
  have S0 : Same [d, g] st (st ++ [Ob.lst (ownA.map D.str)] ++ [Ob.lst (ownB.map D.str)] ++ [Ob.lst (ownA.map D.str ++ ownB.map D.str)]) := (Same.app.trans .app).trans .app
  have hW : (st ++ [Ob.lst (ownA.map D.str)] ++ [Ob.lst (ownB.map D.str)] ++ [Ob.lst (ownA.map D.str ++ ownB.map D.str)])[(st ++ [Ob.lst (ownA.map D.str)] ++ [Ob.lst (ownB.map D.str)]).length]? = some (.lst (ownW.map D.str)) := by
   rw [show ownW.map D.str = ownA.map D.str ++ ownB.map D.str from List.map_append]
   exact getN
  refine r_seqS (r_setS (op2E rfl (opNE (as := ownB.map D.str) rfl (show lstD (ownB.map D.str) _ = some (.ok (.ref (st ++ [Ob.lst (ownA.map D.str)]).length), st ++ [Ob.lst (ownA.map D.str)] ++ [Ob.lst (ownB.map D.str)]) from rfl)) hAB) ?_)
  have hge : st.length ≤ (st ++ [Ob.lst (ownA.map D.str)] ++ [Ob.lst (ownB.map D.str)]).length := by simp
  generalize (st ++ [Ob.lst (ownA.map D.str)] ++ [Ob.lst (ownB.map D.str)]).length = nW at hW hge ⊢
  generalize st ++ [Ob.lst (ownA.map D.str)] ++ [Ob.lst (ownB.map D.str)] ++ [Ob.lst (ownA.map D.str ++ ownB.map D.str)] = s0 at D0 S0 hW ⊢
  show Runs _ [some (.ref d), some (.int 14), some (.ref nW), none, none, none, none, none] s0 _
  have hdg : nW ∉ [d, g] := by
   have := Z.lt
   simp only [List.mem_cons, List.not_mem_nil, or_false, not_or]
   omega
  obtain ⟨a, s1, e1, a0, a1, D1, S1⟩ := take_d (many := 25) D0 (by decide) (sm (by decide))
  refine r_seqS (r_setS (callE (args2 rfl (opNE (args1 rfl) (len_lstE hW))) e1) ?_)
  have hW1 := S1.eq _ _ hW hdg
  obtain ⟨a, rfl⟩ : ∃ k : Nat, a = k := ⟨a.toNat, by omega⟩
  obtain ⟨b, s2, e2, b0, b1, D2, S2⟩ := take_d (many := 4) D1 (by decide) (sm (by decide))
  have hW2 := S2.eq _ _ hW1 hdg
  refine r_seqS (r_ifD (truE (op2E (callE (args2 rfl rfl) e2) rfl eq_int)) (fun _ => ?_) fun _ => r_passS ?_)
  ·have ha : a ≤ (ownW.map D.str).length := by rw [List.length_map]; show a ≤ 25; omega
   have f1 := slc_any (lo := some (a : Int)) (hi := none) hW2
   rw [cut_lo ha] at f1
   have f2 := slc_any (lo := none) (hi := some (a : Int)) (getA (g := [Ob.lst ((ownW.map D.str).drop a)]) hW2)
   rw [cut_hi ha] at f2
   have f3 := add_lst (st := s2 ++ [Ob.lst ((ownW.map D.str).drop a)] ++ [Ob.lst ((ownW.map D.str).take a)]) (getA getN) getN (by rw [List.length_drop, List.length_take, List.length_map]; show 25 - a + min a 25 ≤ _; omega)
   have f4 := slc_any (lo := none) (hi := some ((14 : Nat) : Int)) (getN (st := s2 ++ [Ob.lst ((ownW.map D.str).drop a)] ++ [Ob.lst ((ownW.map D.str).take a)]) (x := Ob.lst ((ownW.map D.str).drop a ++ (ownW.map D.str).take a)))
   rw [cut_hi (by rw [List.length_append, List.length_drop, List.length_take, List.length_map]; show 14 ≤ 25 - a + min a 25; omega)] at f4
   refine r_retS (slcE2 (op2E (slcE rfl rfl rfl f1) (slcE rfl rfl rfl f2) f3) rfl rfl f4) ⟨_, (ownW.drop a ++ ownW.take a).take 14, rfl, ?_, rot_ok (by omega), ?_, D2.app.app.app.app, (((S0.trans (S1.trans S2)).trans .app).trans .app).trans (.trans .app .app)⟩
   ·rw [List.map_take, List.map_append, List.map_drop, List.map_take]
    exact getN
   ·have h3 := (S0.trans (S1.trans S2)).len
    simp only [List.length_append]
    omega
  ·refine r_seqS (r_setS (d := .str abcT) (s := s2) rfl ?_)
   refine r_seqS (r_setS (d := .ref s2.length) (s := s2 ++ [.lst (tailW.map D.str)]) rfl ?_)
   have hT : (s2 ++ [Ob.lst (tailW.map D.str)])[s2.length]? = some (.lst (tailW.map D.str)) := getN
   have hTdg : s2.length ∉ [d, g] := by
    have := D2.lt
    simp only [List.mem_cons, List.not_mem_nil, or_false, not_or]
    omega
   have D3 : Dr d g l (s2 ++ [Ob.lst (tailW.map D.str)]) := D2.app
   have S3 : Same [d, g] st (s2 ++ [Ob.lst (tailW.map D.str)]) := (S0.trans (S1.trans S2)).trans .app
   generalize s2.length = nT at hT hTdg ⊢
   generalize s2 ++ [Ob.lst (tailW.map D.str)] = s3 at hT D3 S3 ⊢
   obtain ⟨u, s4, e4, u0, u1, D4, S4⟩ := take_d (many := 7) D3 (by decide) (sm (by decide))
   obtain ⟨u, rfl⟩ : ∃ k : Nat, u = k := ⟨u.toNat, by omega⟩
   refine r_seqS (r_setS (callE (args2 rfl rfl) e4) ?_)
   have hT4 := S4.eq _ _ hT hTdg
   show Runs _ [some (.ref d), some (.int 14), some (.ref nW), some (.int a), some (.str abcT), some (.ref nT), some (.int u), none] s4 _
   have hel : ∀ k ∈ List.range 14, Pure (SI.top.wth nT (.lst (tailW.map D.str))) ((op2 addD (op2 ixD (var 4) (op2 modI (op2 addD (var 3) (op2 mulD (cst (.int 7)) (var 7))) (cst (.int 26)))) (op2 ixD (var 5) (op2 modI (op2 addD (var 6) (op2 mulD (var 7) (var 7))) (cst (.int 7))))) [some (.ref d), some (.int 14), some (.ref nW), some (.int a), some (.str abcT), some (.ref nT), some (.int u), some (.int (k : Nat))]) (.str (wrd a u k)) := by
    intro k hk
    have hk := List.mem_range.mp hk
    have hmul : ∀ i j : Nat, j < 14 → ∀ st, mulD (.int (i : Nat)) (.int (j : Nat)) st = some (.ok (.int ((i * j : Nat) : Int)), st) := fun i j hj st => by
     rw [mul_right ⟨by omega, by omega⟩]; rfl
    have hmod : ∀ (i j : Nat), 0 < j → ∀ st, modI (.int (i : Nat)) (.int (j : Nat)) st = some (.ok (.int ((i % j : Nat) : Int)), st) := fun i j hj st => by
     unfold modI intOp
     dsimp only
     rw [if_pos (decide_eq_true (by omega))]
     first | done | rfl
    have h26 : (a + 7 * k) % 26 < 26 := Nat.mod_lt _ (by decide)
    have h7 : (u + k * k) % 7 < tailW.length := Nat.mod_lt _ (by decide)
    refine p_op2 (a := .str ⟨#[97 + (a + 7 * k) % 26]⟩) (b := .str tailW[(u + k * k) % 7]) (p_op2 (b := .int (((a + 7 * k) % 26 : Nat) : Int)) (p_var rfl) (p_op2 (a := .int ((a + 7 * k : Nat) : Int)) (b := .int ((26 : Nat) : Int)) (p_op2 (b := .int ((7 * k : Nat) : Int)) (p_var rfl) (p_op2 (a := .int ((7 : Nat) : Int)) p_cst (p_var rfl) (p_of (hmul 7 k hk))) (p_of fun _ => rfl)) p_cst (p_of (hmod _ 26 (by decide)))) (p_of fun st => ?_)) (p_op2 (b := .int (((u + k * k) % 7 : Nat) : Int)) (p_var rfl) (p_op2 (a := .int ((u + k * k : Nat) : Int)) (b := .int ((7 : Nat) : Int)) (p_op2 (b := .int ((k * k : Nat) : Int)) (p_var rfl) (p_op2 (p_var rfl) (p_var rfl) (p_of (hmul k k hk))) (p_of fun _ => rfl)) p_cst (p_of (hmod _ 7 (by decide)))) (p_ofI fun st hI => ?_)) (p_of fun st => ?_)
    ·unfold ixD
     dsimp only
     rw [if_pos (by show 26 ≤ 1000000; decide), atI_nn (Int.natCast_nonneg _) (by rw [Int.toNat_natCast]; exact abcT_cps _ h26)]
     first | done | rfl
    ·exact ix_list hI.2 (Int.natCast_nonneg _) (by rw [Int.toNat_natCast, List.getElem?_map, List.getElem?_eq_getElem h7]; rfl)
    ·have ht := tailW_len _ (List.getElem_mem h7)
     rw [add_str (by show 1 + _ ≤ _; omega)]
     unfold wrd
     rw [List.getElem?_eq_getElem h7]
     first | done | rfl
   obtain ⟨gg, xx, ev⟩ := lc_all (J := SI.top.wth nT (.lst (tailW.map D.str))) (m := rng1M (var 1)) (tg := gVar 7) (vs := [7]) (env := [some (.ref d), some (.int 14), some (.ref nW), some (.int a), some (.str abcT), some (.ref nT), some (.int u), none]) (zs := List.range 14)
    (el := op2 addD (op2 ixD (var 4) (op2 modI (op2 addD (var 3) (op2 mulD (cst (.int 7)) (var 7))) (cst (.int 26)))) (op2 ixD (var 5) (op2 modI (op2 addD (var 6) (op2 mulD (var 7) (var 7))) (cst (.int 7)))))
    (fun i => D.int (i : Nat)) (fun i => [some (.ref d), some (.int 14), some (.ref nW), some (.int a), some (.str abcT), some (.ref nT), some (.int u), some (.int (i : Nat))]) (fun k => D.str (wrd a u k)) (ip_rng (p_var rfl) rfl (by decide) (by decide)) (by rw [List.length_range]; decide) (fun _ _ _ => rfl) hel s4 ⟨trivial, hT4⟩
   refine r_retS ev ⟨_, (List.range 14).map (wrd a u), rfl, ?_, wrd_ok a u, ?_, D4.app.app, ((S3.trans S4).trans .app).trans .app⟩
   ·rw [List.map_map]; simp
   ·have := (S3.trans S4).len
    simp only [List.length_append]
    omega
 obtain ⟨v, s, e, n, ws, rfl, h⟩ := key
 exact ⟨n, ws, s, e, h⟩
end
end M
namespace M
open PySem PySem.Spec PyProof.Rows L2 G
def StpB : Stp → Prop
 | .add k i => Sh k ∧ i.natAbs < 10 ^ 40
 | .put k => Sh k
 | .load k => Sh k
 | .plus i => i.natAbs < 10 ^ 40
 | .more i => i < 1000
 | .call h y i => Sh h ∧ Sh y ∧ i.natAbs < 10 ^ 40
 | _ => True
def CallOk (names : List Str) (h y : Str) : Prop := h ∈ names ∧ Sh h ∧ Sh y
structure StOk (names : List Str) (m : Nat) (s : Stp) : Prop where
 call : ∀ h x l, s = .call h x l → h ∈ names
 more : ∀ i, s = .more i → i < m
 sz : StpB s
theorem stok {names : List Str} {m : Nat} {s : Stp} (h1 : ∀ h x l, s ≠ .call h x l) (h2 : ∀ i, s ≠ .more i) (h3 : StpB s) : StOk names m s := ⟨fun h x l e => absurd e (h1 h x l), fun i e => absurd e (h2 i), h3⟩
section
variable {d g l ks cl m : Nat} {st : Sto} {kk : List Str} {cs : List M.D} {names : List Str}
theorem pick_new {xs : List M.D} (Z : Dr d g l st) (h0 : xs ≠ []) (hl : xs.length ≤ 100000) : ∃ v s, m_law_pick [.ref d, .ref st.length] (st ++ [.lst xs]) = some (.ok v, s) ∧ v ∈ xs ∧ Dr d g l s ∧ Same [d, g] st s := by
 have hg := Z.lt
 obtain ⟨v, s, e, h, Z1, S1⟩ := pick_d (Z.app (x := [.lst xs])) getN (by omega) h0 hl
 exact ⟨v, s, e, h, Z1, Same.app.trans S1⟩
theorem lt_int {a b : Int} {st : Sto} : ltI (.int a) (.int b) st = some (.ok (.bl (decide (a < b))), st) := rfl
theorem step_d (Z : Dr d g l st) (hm0 : 0 < m) (hm : m ≤ 12) (hk : st[ks]? = some (.lst (kk.map D.str))) (hkg : ks ≠ g) (hk0 : kk ≠ []) (hkl : kk.length ≤ 100) (hc : st[cl]? = some (.lst cs)) (hcg : cl ≠ g) (hcl : cs.length ≤ 1000) (hks : ∀ k ∈ kk, Sh k) (hcs : ∀ c ∈ cs, ∃ h y, c = .tup [.str h, .str y] ∧ CallOk names h y) :
  ∃ x s, m_law_step [.ref d, .int (m : Nat), .ref ks, .ref cl] st = some (.ok (Stp.d x), s) ∧ StOk names m x ∧ Dr d g l s ∧ Same [d, g] st s := by
 have key : Ends' (m_law_step [.ref d, .int (m : Nat), .ref ks, .ref cl]) st fun v s => ∃ x, v = Stp.d x ∧ StOk names m x ∧ Dr d g l s ∧ Same [d, g] st s := by
  refine run_f rfl ?_
  show Runs b_law_step [some (.ref d), some (.int (m : Nat)), some (.ref ks), some (.ref cl), none, none, none] st _
  have kdg : ks ∉ [d, g] := by
   have := Z.ne hk
   simp only [List.mem_cons, List.not_mem_nil, or_false, not_or]
   exact ⟨this, hkg⟩
  have cdg : cl ∉ [d, g] := by
   have := Z.ne hc
   simp only [List.mem_cons, List.not_mem_nil, or_false, not_or]
   exact ⟨this, hcg⟩
  have pickK : ∀ s, Dr d g l s → Same [d, g] st s → ∃ k s', m_law_pick [.ref d, .ref ks] s = some (.ok (.str k), s') ∧ Sh k ∧ Dr d g l s' ∧ Same [d, g] st s' := by
   intro s Z1 S1
   obtain ⟨v, s', e, h, Z2, S2⟩ := pick_d Z1 (S1.eq _ _ hk kdg) hkg (by simpa using hk0) (by rw [List.length_map]; omega)
   obtain ⟨k, hk, rfl⟩ := List.mem_map.mp h
   exact ⟨k, s', e, hks k hk, Z2, S1.trans S2⟩
  obtain ⟨w, s1, e1, _, _, Z1, S1⟩ := take_d (many := 12) Z (by decide) (sm (by decide))
  refine r_seqS (r_setS (callE (args2 rfl rfl) e1) ?_)
  refine r_seqS (r_ifD (truE (op2E rfl rfl lt_int)) (fun _ => ?_) fun _ => r_passS ?_)
  ·obtain ⟨k, s2, e2, hsk, Z2, S2⟩ := pickK _ Z1 S1
   obtain ⟨i, s3, e3, hib, Z3, S3⟩ := number_dB Z2
   exact r_retS (opNE (args3 rfl (callE (args2 rfl rfl) e2) (callE (args1 rfl) e3)) rfl) ⟨.add k i, rfl, stok (fun _ _ _ h => (nomatch h)) (fun _ h => (nomatch h)) ⟨hsk, hib⟩, Z3, S2.trans S3⟩
  refine r_seqS (r_ifD (truE (op2E rfl rfl eq_int)) (fun _ => ?_) fun _ => r_passS ?_)
  ·obtain ⟨k, s2, e2, hsk, Z2, S2⟩ := pickK _ Z1 S1
   exact r_retS (opNE (args2 rfl (callE (args2 rfl rfl) e2)) rfl) ⟨.put k, rfl, stok (fun _ _ _ h => (nomatch h)) (fun _ h => (nomatch h)) hsk, Z2, S2⟩
  refine r_seqS (r_ifD (truE (op2E rfl rfl eq_int)) (fun _ => ?_) fun _ => r_passS ?_)
  ·obtain ⟨k, s2, e2, hsk, Z2, S2⟩ := pickK _ Z1 S1
   exact r_retS (opNE (args2 rfl (callE (args2 rfl rfl) e2)) rfl) ⟨.load k, rfl, stok (fun _ _ _ h => (nomatch h)) (fun _ h => (nomatch h)) hsk, Z2, S2⟩
  refine r_seqS (r_ifD (truE (op2E rfl rfl eq_int)) (fun _ => ?_) fun _ => r_passS ?_)
  ·obtain ⟨i, s3, e3, hib, Z3, S3⟩ := number_dB Z1
   exact r_retS (opNE (args2 rfl (callE (args1 rfl) e3)) rfl) ⟨.plus i, rfl, stok (fun _ _ _ h => (nomatch h)) (fun _ h => (nomatch h)) hib, Z3, S1.trans S3⟩
  refine r_seqS (r_ifD (truE (op2E rfl rfl eq_int)) (fun _ => ?_) fun _ => r_passS ?_)
  ·exact r_retS (d := Stp.take.d) rfl ⟨.take, rfl, stok (fun _ _ _ h => (nomatch h)) (fun _ h => (nomatch h)) trivial, Z1, S1⟩
  refine r_seqS (r_ifD (truE (op2E rfl rfl eq_int)) (fun _ => ?_) fun _ => r_passS ?_)
  ·exact r_retS (d := Stp.give.d) rfl ⟨.give, rfl, stok (fun _ _ _ h => (nomatch h)) (fun _ h => (nomatch h)) trivial, Z1, S1⟩
  refine r_seqS (r_ifD (truE (op2E rfl rfl eq_int)) (fun _ => ?_) fun _ => r_passS ?_)
  ·obtain ⟨i, s2, e2, i0, i1, Z2, S2⟩ := take_d (many := (m : Nat)) Z1 (by omega) (sm (by omega))
   obtain ⟨i, rfl⟩ : ∃ k : Nat, i = k := ⟨i.toNat, by omega⟩
   exact r_retS (opNE (args2 rfl (callE (args2 rfl rfl) e2)) rfl) ⟨.more i, rfl, ⟨fun _ _ _ h => (nomatch h), fun j h => by cases h; omega, by show i < 1000; omega⟩, Z2, S1.trans S2⟩
  refine r_seqS (r_ifD (truE (op2E rfl rfl eq_int)) (fun _ => ?_) fun _ => r_passS ?_)
  ·exact r_retS (d := Stp.fin.d) rfl ⟨.fin, rfl, stok (fun _ _ _ h => (nomatch h)) (fun _ h => (nomatch h)) trivial, Z1, S1⟩
  have hc1 := S1.eq _ _ hc cdg
  refine r_seqS (r_ifB (truE (eqNilE rfl hc1)) (fun _ => ?_) fun hne => r_passS ?_)
  ·exact r_retS (d := (Stp.plus 1).d) rfl ⟨.plus 1, rfl, stok (fun _ _ _ h => (nomatch h)) (fun _ h => (nomatch h)) big1, Z1.app, S1.trans .app⟩
  have hne : cs ≠ [] := fun e => by rw [e] at hne; cases hne
  obtain ⟨v, s2, e2, hv, Z2, S2⟩ := pick_d (Z1.app (x := [.lst []])) (getA (g := [Ob.lst []]) hc1) hcg hne (by omega)
  obtain ⟨h, y, rfl, hh⟩ := hcs v hv
  refine r_seqS (r_asgS (env' := [some (.ref d), some (.int (m : Nat)), some (.ref ks), some (.ref cl), some (.int w), some (.str h), some (.str y)]) (callE (args2 rfl rfl) e2) (gTup2E rfl rfl) ?_)
  obtain ⟨v, s3, e3, hv, Z3, S3⟩ := pick_new (xs := [D.int 5, D.int 30, D.int 200]) Z2 (by simp) (by simp)
  obtain ⟨q, rfl, q0, q1⟩ : ∃ q : Int, v = .int q ∧ 0 < q ∧ q ≤ 200 := by
   simp only [List.mem_cons, List.not_mem_nil, or_false] at hv
   rcases hv with rfl | rfl | rfl
   ·exact ⟨5, rfl, by decide, by decide⟩
   ·exact ⟨30, rfl, by decide, by decide⟩
   ·exact ⟨200, rfl, by decide, by decide⟩
  obtain ⟨i, s4, e4, r0, r1, Z4, S4⟩ := take_d (many := q) Z3 q0 (sm (by omega))
  refine r_retS (d := (Stp.call h y (1 + i)).d) (opNE (argsC rfl (argsC rfl (argsC rfl (args1 (op2E rfl (callE (args2 rfl (callE (args2 rfl (opNE (as := [.int 5, .int 30, .int 200]) rfl rfl)) e3)) e4) rfl))))) rfl) ⟨.call h y (1 + i), rfl, ⟨fun h' x l e => by cases e; exact hh.1, fun _ h => (nomatch h), ⟨hh.2.1, hh.2.2, nb_lt (n := 1000) (by omega) (by omega)⟩⟩, Z4, ((S1.trans .app).trans (S2.trans S3)).trans S4⟩
 obtain ⟨v, s, e, x, rfl, h⟩ := key
 exact ⟨x, s, e, h⟩
theorem service_d (Z : Dr d g l st) (hk : st[ks]? = some (.lst (kk.map D.str))) (hkg : ks ≠ g) (hk0 : kk ≠ []) (hkl : kk.length ≤ 100) (hc : st[cl]? = some (.lst cs)) (hcg : cl ≠ g) (hcl : cs.length ≤ 1000) (hks : ∀ k ∈ kk, Sh k) (hcs : ∀ c ∈ cs, ∃ h y, c = .tup [.str h, .str y] ∧ CallOk names h y) :
  ∃ x s, m_law_service [.ref d, .ref ks, .ref cl] st = some (.ok (stepsD x), s) ∧ (x.length ≤ 12 ∧ ∀ y ∈ x, StOk names x.length y) ∧ Dr d g l s ∧ Same [d, g] st s := by
 have key : Ends' (m_law_service [.ref d, .ref ks, .ref cl]) st fun v s => ∃ x, v = stepsD x ∧ (x.length ≤ 12 ∧ ∀ y ∈ x, StOk names x.length y) ∧ Dr d g l s ∧ Same [d, g] st s := by
  refine run_f rfl ?_
  show Runs b_law_service [some (.ref d), some (.ref ks), some (.ref cl), none, none] st _
  have kdg : ks ∉ [d, g] := by
   have := Z.ne hk
   simp only [List.mem_cons, List.not_mem_nil, or_false, not_or]
   exact ⟨this, hkg⟩
  have cdg : cl ∉ [d, g] := by
   have := Z.ne hc
   simp only [List.mem_cons, List.not_mem_nil, or_false, not_or]
   exact ⟨this, hcg⟩
  obtain ⟨v, s1, e1, hv, Z1, S1⟩ := pick_new (xs := [D.int 2, D.int 4, D.int 7, D.int 12]) Z (by simp) (by simp)
  obtain ⟨q, rfl, q0, q1⟩ : ∃ q : Int, v = .int q ∧ 0 < q ∧ q ≤ 12 := by
   simp only [List.mem_cons, List.not_mem_nil, or_false] at hv
   rcases hv with rfl | rfl | rfl | rfl
   ·exact ⟨2, rfl, by decide, by decide⟩
   ·exact ⟨4, rfl, by decide, by decide⟩
   ·exact ⟨7, rfl, by decide, by decide⟩
   ·exact ⟨12, rfl, by decide, by decide⟩
  obtain ⟨i, s2, e2, i0, i1, Z2, S2⟩ := take_d (many := q) Z1 q0 (sm (by omega))
  obtain ⟨N, hN, hN0, hN1⟩ : ∃ N : Nat, 1 + i = N ∧ 0 < N ∧ N ≤ 12 := ⟨(1 + i).toNat, by omega, by omega, by omega⟩
  refine r_seqS (r_setS (d := .int (N : Nat)) (op2E rfl (callE (args2 rfl (callE (args2 rfl (opNE (as := [.int 2, .int 4, .int 7, .int 12]) rfl rfl)) e1)) e2) (by rw [← hN]; rfl)) ?_)
  show Runs _ [some (.ref d), some (.ref ks), some (.ref cl), some (.int (N : Nat)), none] s2 _
  have S12 := S1.trans S2
  obtain ⟨v, s3, ev, x, hx, hx2, hx3, rfl, Z3, S3, hl3⟩ := r_lcE (m := rng1M (var 3)) (g := gRng 0 N) (tg := gVar 4) (t := yesT) (el := callB (gK []) m_law_step (aCons (var 0) (aCons (var 3) (aCons (var 1) (aCons (var 2) (aNil))))) (aNil)) (vs := [4]) (env := [some (.ref d), some (.ref ks), some (.ref cl), some (.int (N : Nat)), none]) (st := s2) (s := s2)
   (R := fun v s' => ∃ x : List Stp, x.length = N ∧ (∀ y ∈ x, StOk names N y) ∧ True ∧ v = .ref s2.length ∧ Dr d g l s' ∧ Same [d, g] s2 s' ∧ s'[s2.length]? = some (.lst (x.map Stp.d))) N
   (fun i acc s' => (∃ x : List Stp, acc = x.map Stp.d ∧ x.length = i ∧ ∀ y ∈ x, StOk names N y) ∧ Dr d g l s' ∧ Same [d, g] s2 s' ∧ s'[s2.length]? = some (.lst acc))
   (rngE rfl (by omega) (by omega) (by omega)) (by omega) ⟨⟨[], rfl, rfl, fun _ h => (nomatch h)⟩, Z2.app, .app, getN⟩ (fun _ _ _ h => h.2.2.2)
   (fun acc s' ⟨⟨x, e, hl, ho⟩, z, sm, hh⟩ => ⟨gRng_end, x, hl, ho, trivial, rfl, z, sm, by rw [← e]; exact hh⟩)
   (fun i acc s' hi ⟨⟨x, e, hl, ho⟩, z, sm, hh⟩ => by
    obtain ⟨y, s4, e4, hy, Z4, S4⟩ := step_d (names := names) z hN0 hN1 (sm.eq _ _ (S12.eq _ _ hk kdg) kdg) hkg hk0 hkl (sm.eq _ _ (S12.eq _ _ hc cdg) cdg) hcg hcl hks hcs
    have hlt := z.lt
    have hlt2 := Z2.lt
    have hne : s2.length ∉ [d, g] := by
     simp only [List.mem_cons, List.not_mem_nil, or_false, not_or]
     omega
    have h5 := S4.eq _ _ hh hne
    refine ⟨.int (0 + (i : Int)), [some (.ref d), some (.ref ks), some (.ref cl), some (.int (N : Nat)), some (.int (0 + (i : Int)))], s', true, s', gRng_in hi, rfl, rfl, fun h => (nomatch h), fun _ => ⟨Stp.d y, s4, callE (argsC rfl (args3 rfl rfl rfl)) e4, h5, ⟨x ++ [y], by rw [e, List.map_append]; rfl, by rw [List.length_append, hl]; rfl, fun u hu => ?_⟩, Z4.set (by omega) (by omega) (by omega), (sm.trans S4).setN (Nat.le_refl _), getSS h5⟩⟩
    rcases List.mem_append.mp hu with hu | hu
    ·exact ho u hu
    ·rw [List.mem_singleton.mp hu]; exact hy)
  refine r_retS (d := stepsD x) (opNE (args1 ev) (tuple_lst hl3)) ⟨x, rfl, ⟨by omega, by rw [hx]; exact hx2⟩, Z3, S12.trans S3⟩
 obtain ⟨v, s, e, x, rfl, h⟩ := key
 exact ⟨x, s, e, h⟩
end
end M
namespace M
open PySem PySem.Spec PyProof.Rows L2 G
theorem slcE3 {m1 : Env → Mo D} {l h : Env → Mo (Option Int)} {env : Env} {st s1 s2 : Sto} {lo hi : Option Int} {a : D} {r : M.R D} {s : Sto} (h1 : m1 env st = some (.ok a, s1)) (h2 : l env s1 = some (.ok lo, s1)) (h3 : h env s1 = some (.ok hi, s2)) (h4 : slD a lo hi s2 = some (r, s)) : slc slD m1 l h env st = some (r, s) := by unfold slc; rw [bnd_ok h1, bnd_ok h2, bnd_ok h3, h4]
structure OwnB (b : Nat) (st : Sto) (A : List (Nat × Ob)) : Prop where
 nd : (A.map Prod.fst).Nodup
 at_ : ∀ p ∈ A, st[p.1]? = some p.2
 lo : ∀ p ∈ A, b ≤ p.1
section
variable {b : Nat} {st s : Sto} {A B : List (Nat × Ob)} {n : Nat} {o o' : Ob}
theorem OwnB.new (h : OwnB b st A) (hb : b ≤ st.length) : OwnB b (st ++ [o]) ((st.length, o) :: A) := by
 refine ⟨List.nodup_cons.mpr ⟨fun hm => ?_, h.nd⟩, fun p hp => ?_, fun p hp => ?_⟩
 ·obtain ⟨p, hp, e⟩ := List.mem_map.mp hm
  have := lt_of (h.at_ p hp)
  omega
 ·rcases List.mem_cons.mp hp with rfl | hp
  ·exact getN
  ·exact getA (h.at_ p hp)
 ·rcases List.mem_cons.mp hp with rfl | hp
  ·exact hb
  ·exact h.lo p hp
theorem OwnB.app {g : Sto} (h : OwnB b st A) : OwnB b (st ++ g) A := ⟨h.nd, fun p hp => getA (h.at_ p hp), h.lo⟩
theorem OwnB.at (h : OwnB b st (A ++ (n, o) :: B)) : st[n]? = some o := h.at_ (n, o) (List.mem_append_right _ List.mem_cons_self)
theorem OwnB.same {is : List Nat} (h : OwnB b st A) (S : Same is st s) (hi : ∀ i ∈ is, i < b) : OwnB b s A := ⟨h.nd, fun p hp => S.eq _ _ (h.at_ p hp) fun hm => by have := hi _ hm; have := h.lo p hp; omega, h.lo⟩
theorem OwnB.set (h : OwnB b st (A ++ (n, o) :: B)) : OwnB b (st.set n o') (A ++ (n, o') :: B) := by
 have hnd := h.nd
 rw [List.map_append, List.map_cons] at hnd
 have hne : ∀ p, p ∈ A ∨ p ∈ B → n ≠ p.1 := by
  intro p hp e
  obtain ⟨h1, h2, h3⟩ := List.nodup_append.mp hnd
  rcases hp with hp | hp
  ·exact h3 _ (List.mem_map.mpr ⟨p, hp, rfl⟩) _ List.mem_cons_self e.symm
  ·exact (List.nodup_cons.mp h2).1 (List.mem_map.mpr ⟨p, hp, e.symm⟩)
 refine ⟨by rw [List.map_append, List.map_cons]; exact hnd, fun p hp => ?_, fun p hp => ?_⟩
 ·rcases List.mem_append.mp hp with hp | hp
  ·exact getS (h.at_ p (List.mem_append_left _ hp)) (hne p (.inl hp))
  ·rcases List.mem_cons.mp hp with rfl | hp
   ·exact getSS h.at
   ·exact getS (h.at_ p (List.mem_append_right _ (List.mem_cons_of_mem _ hp))) (hne p (.inr hp))
 ·rcases List.mem_append.mp hp with hp | hp
  ·exact h.lo p (List.mem_append_left _ hp)
  ·rcases List.mem_cons.mp hp with rfl | hp
   ·exact h.lo (n, o) (List.mem_append_right _ List.mem_cons_self)
   ·exact h.lo p (List.mem_append_right _ (List.mem_cons_of_mem _ hp))
theorem OwnB.perm (h : OwnB b st A) (hs : B.Perm A) : OwnB b st B := ⟨((hs.map _).nodup_iff).mpr h.nd, fun p hp => h.at_ p (hs.mem_iff.mp hp), fun p hp => h.lo p (hs.mem_iff.mp hp)⟩
end
theorem svCs_app {c : Nat} {x : Str × List (Str × List Stp)} : ∀ {P : Pln} {cs : List Nat}, cs.length = P.length → svCs (cs ++ [c]) (P ++ [x]) = svCs cs P ++ [(c, .dK (kvM stepsD x.2))]
 | [], [], _ => rfl
 | [], _ :: _, h => nomatch h
 | _ :: _, [], h => nomatch h
 | m :: ns, d :: cs, h => by
  show (_, _) :: svCs (cs ++ [c]) (ns ++ [x]) = _
  rw [svCs_app (Nat.succ.inj h)]
  first | done | rfl
def SvOk (names : List Str) (x : List Stp) : Prop := x.length ≤ 12 ∧ ∀ y ∈ x, StOk names x.length y
structure PlOk (names : List Str) (P : Pln) : Prop where
 sv : ∀ p ∈ P, (∀ q ∈ p.2, SvOk names q.2) ∧ p.2 ≠ [] ∧ p.2.length ≤ 2
 nm : ∀ p ∈ P, Sh p.1 ∧ ∀ q ∈ p.2, Sh q.1
section
variable {d g l : Nat} {st : Sto}
theorem calls_d {names : List Str} {nW nN : Nat} {wD : List M.D} {w8 w9 w13 : Str} {nm : Str} {s0 : Sto} {xd x4 x6 x7 : Option M.D} {Q : Out → Env → Sto → Prop} (hW : s0[nW]? = some (.lst wD)) (hN : s0[nN]? = some (.lst (names.map M.D.str))) (h8 : wD[8]? = some (.str w8)) (h9 : wD[9]? = some (.str w9)) (h13 : wD[13]? = some (.str w13)) (hlen : names.length ≤ 4) (hsn : ∀ n ∈ names, Sh n) (z8 : Sh w8) (z9 : Sh w9) (z13 : Sh w13)
  (k : ∀ c6 cs x x7, (s0 ++ x)[c6]? = some (.lst cs) → s0.length ≤ c6 → cs.length ≤ 12 → (∀ c ∈ cs, ∃ h y, c = .tup [.str h, .str y] ∧ CallOk names h y) → Q .nx [xd, some (.int 4), some (.ref nW), some (.ref nN), x4, some (.str nm), some (.ref c6), x7] (s0 ++ x)) :
  Runs (seqS (setS 6 (opN lstD (aNil))) (forS (iterM (var 3)) (gVar 7)
  (ifS (tru (op2 neE (var 7) (var 5)))
  (setS 6 (op2 addD (var 6) (opN lstD (aCons (opN tupD (aCons (var 7) (aCons (op2 ixD (var 2) (cst (.int 8))) (aNil)))) (aCons (opN tupD (aCons (var 7) (aCons (op2 ixD (var 2) (cst (.int 9))) (aNil)))) (aCons (opN tupD (aCons (var 7) (aCons (op2 ixD (var 2) (cst (.int 13))) (aNil)))) (aNil)))))))
  (passS)))) [xd, some (.int 4), some (.ref nW), some (.ref nN), x4, some (.str nm), x6, x7] s0 Q := by
 refine r_seqS (r_setS (d := .ref s0.length) (s := s0 ++ [.lst []]) rfl ?_)
 have hN1 := getA (g := [Ob.lst []]) hN
 refine r_forS (g := gSeq (.ref nN)) names.length (fun j e s => ∃ c6 cs x x7, e = [xd, some (.int 4), some (.ref nW), some (.ref nN), x4, some (.str nm), some (.ref c6), x7] ∧ s = s0 ++ x ∧ s[c6]? = some (.lst cs) ∧ s0.length ≤ c6 ∧ cs.length ≤ 3 * j ∧ ∀ c ∈ cs, ∃ h y, c = .tup [.str h, .str y] ∧ CallOk names h y) (iterLE rfl hN1) (by omega) ⟨_, [], [.lst []], x7, rfl, rfl, getN, Nat.le_refl _, Nat.le_refl _, fun _ h => (nomatch h)⟩ ?_ ?_
 ·rintro _ _ ⟨c6, cs, x, x7, rfl, rfl, h1, h2, h3, h4⟩
  refine ⟨?_, k c6 cs x x7 h1 h2 (by omega) h4⟩
  rw [gSeqL (getA hN)]
  simp
 ·rintro j _ _ hj ⟨c6, cs, x, x7, rfl, rfl, h1, h2, h3, h4⟩
  have hx : names[j]? = some names[j] := List.getElem?_eq_getElem hj
  refine ⟨.str names[j], [xd, some (.int 4), some (.ref nW), some (.ref nN), x4, some (.str nm), some (.ref c6), some (.str names[j])], s0 ++ x, by rw [gSeqL (getA hN), List.getElem?_map, hx]; rfl, rfl, ?_⟩
  have hW1 := getA (g := x) hW
  have i8 : ixD (.ref nW) (.int 8) (s0 ++ x) = some (.ok (.str w8), s0 ++ x) := ix_list hW1 (by decide) h8
  have i9 : ixD (.ref nW) (.int 9) (s0 ++ x) = some (.ok (.str w9), s0 ++ x) := ix_list hW1 (by decide) h9
  have i13 : ixD (.ref nW) (.int 13) (s0 ++ x) = some (.ok (.str w13), s0 ++ x) := ix_list hW1 (by decide) h13
  refine r_ifB (truE (op2E rfl rfl ne_str)) (fun _ => ?_) fun _ => r_passS ⟨c6, cs, x, _, rfl, rfl, h1, h2, by omega, h4⟩
  have ha := add_lst (getA (g := [Ob.lst [.tup [.str names[j], .str w8], .tup [.str names[j], .str w9], .tup [.str names[j], .str w13]]]) h1) getN (by show cs.length + 3 ≤ _; omega)
  refine r_setS (op2E rfl (opNE (args3 (opNE (args2 rfl (op2E rfl rfl i8)) rfl) (opNE (args2 rfl (op2E rfl rfl i9)) rfl) (opNE (args2 rfl (op2E rfl rfl i13)) rfl)) rfl) ha) ⟨_, _, x ++ [Ob.lst [.tup [.str names[j], .str w8], .tup [.str names[j], .str w9], .tup [.str names[j], .str w13]]] ++ [Ob.lst (cs ++ [.tup [.str names[j], .str w8], .tup [.str names[j], .str w9], .tup [.str names[j], .str w13]])], _, rfl, by simp only [List.append_assoc], getN, by simp only [List.length_append]; omega, by rw [List.length_append]; show cs.length + 3 ≤ _; omega, fun c hc => ?_⟩
  have hm : names[j] ∈ names := List.getElem_mem hj
  rcases List.mem_append.mp hc with hc | hc
  ·exact h4 c hc
  ·simp only [List.mem_cons, List.not_mem_nil, or_false] at hc
   rcases hc with rfl | rfl | rfl
   ·exact ⟨_, _, rfl, hm, hsn _ hm, z8⟩
   ·exact ⟨_, _, rfl, hm, hsn _ hm, z9⟩
   ·exact ⟨_, _, rfl, hm, hsn _ hm, z13⟩
end
end M
namespace M
open PySem PySem.Spec PyProof.Rows L2 G
theorem r_assoc {a b c : MS} {env : Env} {st : Sto} {Q : Out → Env → Sto → Prop} (h : Runs (seqS (seqS a b) c) env st Q) : Runs (seqS a (seqS b c)) env st Q := by
 obtain ⟨o, e, s, h1, h2⟩ := h
 refine ⟨o, e, s, ?_, h2⟩
 rw [← h1]
 unfold seqS
 cases a env st with
 | none => rfl
 | some p =>
  obtain ⟨o, e, s⟩ := p
  cases o <;> rfl
theorem gt_int {a b : Int} {st : Sto} : gtI (.int a) (.int b) st = some (.ok (.bl (decide (b < a))), st) := rfl
section
variable {d g l : Nat} {st : Sto}
theorem plan_d (Z : Dr d g l st) : ∃ w P ids s, m_law_plan [.ref d, .int 4] st = some (.ok (.ref w), s) ∧ Wld s w P ids ∧ PlOk (P.map Prod.fst) P ∧ P ≠ [] ∧ (∀ n ∈ P.map Prod.fst, 1 ≤ n.length ∧ n.length ≤ 8) ∧ P.length ≤ 4 ∧ Dr d g l s ∧ w ∉ [d, g] ∧ (∀ p ∈ svCs ids P, p.1 ∉ [d, g]) := by
 have key : Ends' (m_law_plan [.ref d, .int 4]) st fun v s => ∃ w P ids, v = .ref w ∧ Wld s w P ids ∧ PlOk (P.map Prod.fst) P ∧ P ≠ [] ∧ (∀ n ∈ P.map Prod.fst, 1 ≤ n.length ∧ n.length ≤ 8) ∧ P.length ≤ 4 ∧ Dr d g l s ∧ w ∉ [d, g] ∧ (∀ p ∈ svCs ids P, p.1 ∉ [d, g]) := by
  have hlt := Z.lt
  have dgb : ∀ i ∈ [d, g], i < st.length := fun i hi => by
   simp only [List.mem_cons, List.not_mem_nil, or_false] at hi
   rcases hi with rfl | rfl <;> omega
  refine run_f rfl ?_
  show Runs b_law_plan [some (.ref d), some (.int 4), none, none, none, none, none, none] st _
  obtain ⟨nW, ws, s1, e1, hW, HW, hWb, Z1, S1⟩ := words_d Z
  refine r_seqS (r_setS (callE (args2 rfl rfl) e1) ?_)
  have hWdg : nW ∉ [d, g] := fun hm => by have := dgb _ hm; omega
  obtain ⟨k, s2, e2, k0, k1, Z2, S2⟩ := take_d (many := 4) Z1 (by decide) (sm (by decide))
  have hW2 := S2.eq _ _ hW hWdg
  obtain ⟨k, rfl⟩ : ∃ j : Nat, k = j := ⟨k.toNat, by omega⟩
  have hsl := slc_lst (a := 2) (b := 3 + k) hW2 (by omega) (by rw [List.length_map, HW.len]; omega)
  have hnm : ((ws.map M.D.str).drop 2).take (3 + k - 2) = ((ws.drop 2).take (1 + k)).map M.D.str := by
   rw [← List.map_drop, ← List.map_take, show 3 + k - 2 = 1 + k by omega]
  rw [hnm] at hsl
  refine r_seqS (r_setS (slcE3 (lo := some ((2 : Nat) : Int)) (hi := some ((3 + k : Nat) : Int)) rfl rfl (atE (op2E (a := .int 3) rfl (callE (args2 rfl rfl) e2) (show addD (.int 3) (.int (k : Nat)) s2 = some (.ok (.int ((3 + k : Nat) : Int)), s2) from rfl))) hsl) ?_)
  generalize hnames : (ws.drop 2).take (1 + k) = names at hsl ⊢
  have hsub : names.Sublist ws := by rw [← hnames]; exact (List.take_sublist ..).trans (List.drop_sublist ..)
  have hnl : names.length = 1 + k := by
   rw [← hnames, List.length_take, List.length_drop, HW.len]; omega
  have hnd : names.Nodup := HW.nd.sublist hsub
  have hSh : ∀ z ∈ ws, Sh z := fun z hz => ⟨(HW.z z hz).2, HW.c z hz⟩
  have hsn : ∀ n ∈ names, Sh n := fun n hn => hSh n (hsub.subset hn)
  have hk2 : ∀ k ∈ ws.take 2, Sh k := fun k hk => hSh k (List.mem_of_mem_take hk)
  have hnz : ∀ n ∈ names, 1 ≤ n.length ∧ n.length ≤ 8 := fun n hn => HW.z n (hsub.subset hn)
  have hN2 : (s2 ++ [Ob.lst (names.map M.D.str)])[s2.length]? = some (.lst (names.map M.D.str)) := getN
  have hWN := getA (g := [Ob.lst (names.map M.D.str)]) hW2
  have ZN : Dr d g l (s2 ++ [Ob.lst (names.map M.D.str)]) := Z2.app
  have SN : Same [d, g] st (s2 ++ [Ob.lst (names.map M.D.str)]) := (S1.trans S2).trans .app
  have hNb : st.length ≤ s2.length := (S1.trans S2).len
  clear hsl
  show Runs _ [some (.ref d), some (.int 4), some (.ref nW), some (.ref s2.length), none, none, none, none] _ _
  generalize s2.length = nN at hN2 hNb ⊢
  generalize s2 ++ [Ob.lst (names.map M.D.str)] = s3 at hN2 hWN ZN SN ⊢
  have hNdg : nN ∉ [d, g] := fun hm => by have := dgb _ hm; omega
  refine r_seqS (r_setS (d := .ref s3.length) (s := s3 ++ [.dK []]) rfl ?_)
  show Runs _ [some (.ref d), some (.int 4), some (.ref nW), some (.ref nN), some (.ref s3.length), none, none, none] _ _
  have B0 : OwnB st.length (s3 ++ [Ob.dK []]) [(s3.length, .dK [])] := OwnB.new (A := []) ⟨List.nodup_nil, fun _ h => (nomatch h), fun _ h => (nomatch h)⟩ SN.len
  have hN3 := getA (g := [Ob.dK []]) hN2
  have hW3 := getA (g := [Ob.dK []]) hWN
  have Z3 : Dr d g l (s3 ++ [Ob.dK []]) := ZN.app
  generalize s3.length = w at B0 ⊢
  generalize s3 ++ [Ob.dK []] = s4 at B0 hN3 hW3 Z3 ⊢
  have hst4 : st.length ≤ s4.length := by
   have := lt_of (OwnB.at (A := []) B0)
   have := B0.lo _ (List.mem_cons_self)
   dsimp only at this
   omega
  obtain ⟨w8, h8⟩ : ∃ z, ws[8]? = some z := ⟨ws[8]'(by rw [HW.len]; decide), List.getElem?_eq_getElem _⟩
  obtain ⟨w9, h9⟩ : ∃ z, ws[9]? = some z := ⟨ws[9]'(by rw [HW.len]; decide), List.getElem?_eq_getElem _⟩
  obtain ⟨w13, h13⟩ : ∃ z, ws[13]? = some z := ⟨ws[13]'(by rw [HW.len]; decide), List.getElem?_eq_getElem _⟩
  have z8 : Sh w8 := hSh _ (List.mem_of_getElem? h8)
  have z9 : Sh w9 := hSh _ (List.mem_of_getElem? h9)
  have z13 : Sh w13 := hSh _ (List.mem_of_getElem? h13)
  have m8 : (ws.map M.D.str)[8]? = some (.str w8) := by rw [List.getElem?_map, h8]; rfl
  have m9 : (ws.map M.D.str)[9]? = some (.str w9) := by rw [List.getElem?_map, h9]; rfl
  have m13 : (ws.map M.D.str)[13]? = some (.str w13) := by rw [List.getElem?_map, h13]; rfl
  have hws2 : cutL2 (ws.map M.D.str) none (some ((2 : Nat) : Int)) = (ws.take 2).map M.D.str := by
   rw [cut_hi (by rw [List.length_map, HW.len]; decide), List.map_take]
  have hk0 : ws.take 2 ≠ [] := by
   intro e
   have := congrArg List.length e
   rw [List.length_take, HW.len] at this
   cases this
  have hkl : (ws.take 2).length ≤ 100 := by rw [List.length_take]; omega
  refine r_seqS (r_forS (g := gSeq (.ref nN)) names.length (fun i e s => (∃ x5 x6 x7, e = [some (.ref d), some (.int 4), some (.ref nW), some (.ref nN), some (.ref w), x5, x6, x7]) ∧ Dr d g l s ∧ s[nW]? = some (.lst (ws.map M.D.str)) ∧ s[nN]? = some (.lst (names.map M.D.str)) ∧ st.length ≤ s.length ∧ ∃ P ids, P.map Prod.fst = names.take i ∧ ids.length = P.length ∧ PlOk names P ∧ OwnB st.length s ((w, .dK (nmR (P.map Prod.fst) ids)) :: svCs ids P)) (iterLE rfl hN3) (by omega) ⟨⟨_, _, _, rfl⟩, Z3, hW3, hN3, hst4, [], [], by simp, rfl, ⟨fun _ h => (nomatch h), fun _ h => (nomatch h)⟩, B0⟩ ?_ ?_)
  ·rintro _ s ⟨⟨x5, x6, x7, rfl⟩, z, _, hN, _, P, ids, hP, hl, ok, B⟩
   rw [List.take_length] at hP
   refine ⟨by rw [gSeqL hN]; simp, r_retS (d := .ref w) rfl ⟨w, P, ids, rfl, ⟨hl, OwnB.at (A := []) B, fun p hp => B.at_ p (List.mem_cons_of_mem _ hp), by unfold Ndk; rw [hP]; exact hnd⟩, by rw [hP]; exact ok, fun e => ?_, by rw [hP]; exact hnz, ?_, z, fun hm => ?_, fun p hp hm => ?_⟩⟩
   ·rw [e] at hP
    have := congrArg List.length hP
    rw [hnl] at this
    simp at this
    omega
   ·rw [← List.length_map (f := Prod.fst), hP]; omega
   ·have := dgb _ hm
    have := B.lo _ (List.mem_cons_self)
    dsimp only at this
    omega
   ·have := dgb _ hm
    have := B.lo _ (List.mem_cons_of_mem _ hp)
    omega
  ·rintro i _ s hi ⟨⟨x5, x6, x7, rfl⟩, z, hW, hN, hsl, P, ids, hP, hl, ok, B⟩
   have hx : names[i]? = some names[i] := List.getElem?_eq_getElem hi
   refine ⟨.str names[i], [some (.ref d), some (.int 4), some (.ref nW), some (.ref nN), some (.ref w), some (.str names[i]), x6, x7], s, by rw [gSeqL hN, List.getElem?_map, hx]; rfl, rfl, ?_⟩
   refine r_assoc (r_seqS (calls_d hW hN m8 m9 m13 (by omega) hsn z8 z9 z13 fun c6 cs x x7 h1 h2 h3 h4 => ?_))
   have B1 := B.app (g := x)
   have hWx := getA (g := x) hW
   have hNx := getA (g := x) hN
   have Zx : Dr d g l (s ++ x) := z.app
   have hslx : st.length ≤ (s ++ x).length := by rw [List.length_append]; omega
   have h6b : st.length ≤ c6 := by omega
   generalize s ++ x = s5 at B1 hWx hNx Zx hslx h1
   have h6dg : c6 ∉ [d, g] := fun hm => by have := dgb _ hm; omega
   -- the dict of services
   have B2 := B1.new (o := .dK []) hslx
   have hW6 := getA (g := [Ob.dK []]) hWx
   have hc6 := getA (g := [Ob.dK []]) h1
   have Z6 : Dr d g l (s5 ++ [Ob.dK []]) := Zx.app
   have f1 := slc_any (lo := none) (hi := some ((2 : Nat) : Int)) hW6
   rw [hws2] at f1
   have B3 := B2.app (g := [Ob.lst ((ws.take 2).map M.D.str)])
   have Z7 : Dr d g l (s5 ++ [Ob.dK []] ++ [Ob.lst ((ws.take 2).map M.D.str)]) := Z6.app
   have hlt5 := Zx.lt
   obtain ⟨sv, s6, e6, hsv, Z8, S8⟩ := service_d (names := names) Z7 getN (by simp; omega) hk0 hkl (getA (g := [Ob.lst ((ws.take 2).map M.D.str)]) hc6) (fun e => h6dg (by rw [e]; simp)) (by omega) hk2 h4
   have B4 := B3.same S8 dgb
   have hps : pairsM [(op2 ixD (var 2) (cst (.int 8)), callB (gK []) m_law_service (aCons (var 0) (aCons (slc slD (var 2) (pNo) (pAt (cst (.int 2)))) (aCons (var 6) (aNil)))) (aNil))] [some (.ref d), some (.int 4), some (.ref nW), some (.ref nN), some (.ref w), some (.str names[i]), some (.ref c6), x7] (s5 ++ [.dK []]) = some (.ok [(.str w8, stepsD sv)], s6) := by
    unfold pairsM
    refine (bnd_ok (op2E rfl rfl (ix_list (i := 8) hW6 (by decide) m8))).trans ((bnd_ok (callE (args3 rfl (slcE rfl rfl rfl f1) rfl) e6)).trans ?_)
    rfl
   have hd := dsp_run2 (kvs := [(.inr w8, stepsD sv)]) hps (OwnB.at (A := []) B4) rfl (Nat.le_of_ble_eq_true rfl)
   have B5 := OwnB.set (A := []) (o' := .dK (kvM stepsD [(w8, sv)])) B4
   have hd2 : dspE [(op2 ixD (var 2) (cst (.int 8)), callB (gK []) m_law_service (aCons (var 0) (aCons (slc slD (var 2) (pNo) (pAt (cst (.int 2)))) (aCons (var 6) (aNil)))) (aNil))] [some (.ref d), some (.int 4), some (.ref nW), some (.ref nN), some (.ref w), some (.str names[i]), some (.ref c6), x7] s5 = some (.ok (.ref s5.length), s6.set s5.length (.dK (kvM stepsD [(w8, sv)]))) := hd
   have S9 : Same [d, g] s5 (s6.set s5.length (.dK (kvM stepsD [(w8, sv)]))) := Same.setN ((Same.app.trans .app).trans S8) (Nat.le_refl _)
   have Z9 : Dr d g l (s6.set s5.length (.dK (kvM stepsD [(w8, sv)]))) := Z8.set (by omega) (by omega) (by omega)
   have hWdg2 : nW ∉ [d, g] := hWdg
   have hW9 := S9.eq _ _ hWx hWdg
   have hN9 := S9.eq _ _ hNx hNdg
   have hc9 := S9.eq _ _ h1 h6dg
   have hl9 := S9.len
   have hs5 := hslx
   clear hd hps
   generalize hcell : s5.length = c at hd2 B5 hs5 Z9 hW9 hN9 hc9 hl9
   generalize s6.set c (.dK (kvM stepsD [(w8, sv)])) = s7 at hd2 B5 Z9 hW9 hN9 hc9 hl9
   have htk : names.take (i + 1) = names.take i ++ [names[i]] := (List.take_append_getElem hi).symm
   have hni : names[i] ∉ names.take i := by
    intro hm
    obtain ⟨j, hj, e2⟩ := List.mem_iff_getElem.mp hm
    rw [List.getElem_take] at e2
    have hji : j < i := by rw [List.length_take] at hj; omega
    exact (List.pairwise_iff_getElem.mp hnd) j i (by omega) hi hji e2
   have hpl : (P.map Prod.fst).length ≤ 4 := by rw [hP, List.length_take]; omega
   have hnl2 : ids.length = (P.map Prod.fst).length := by rw [List.length_map]; exact hl
   have hw7 := OwnB.at (A := [_]) B5
   refine r_seqS (r_subO (.dK (nmR ((P ++ [(names[i], [(w8, sv)])]).map Prod.fst) (ids ++ [c]))) (d := .ref c) (k := names[i]) (s := s7) hd2 rfl rfl hw7 (by rw [nmR_len hnl2]; omega) (by
    rw [putD_new (fun x hx e => by
     obtain ⟨m, k1, k2⟩ := nmR_mem hx
     rw [k2] at e
     rw [hP] at k1
     exact hni (Sum.inr.inj e ▸ k1)), List.map_append, show List.map Prod.fst [(names[i], [(w8, sv)])] = [names[i]] from rfl, nmR_app hnl2]) ?_)
   have B6 := OwnB.set (A := [_]) (o' := .dK (nmR ((P ++ [(names[i], [(w8, sv)])]).map Prod.fst) (ids ++ [c]))) B5
   have hwd : w ∉ [d, g] := fun hm => by
    have := dgb _ hm
    have := B.lo _ (List.mem_cons_self)
    dsimp only at this
    omega
   have hwl := B.lo _ (List.mem_cons_self)
   dsimp only at hwl
   have hne : w ≠ nW ∧ w ≠ nN ∧ w ≠ c6 := by
    have k1 := OwnB.at (A := [_]) B5
    refine ⟨fun e => ?_, fun e => ?_, fun e => ?_⟩
    ·rw [e, hW9] at k1; cases k1
    ·rw [e, hN9] at k1; cases k1
    ·rw [e, hc9] at k1; cases k1
   have Z10 : Dr d g l (s7.set w (.dK (nmR ((P ++ [(names[i], [(w8, sv)])]).map Prod.fst) (ids ++ [c])))) := Z9.set (by omega) (by omega) (by omega)
   have hW10 := getS (x := Ob.dK (nmR ((P ++ [(names[i], [(w8, sv)])]).map Prod.fst) (ids ++ [c]))) hW9 hne.1
   have hN10 := getS (x := Ob.dK (nmR ((P ++ [(names[i], [(w8, sv)])]).map Prod.fst) (ids ++ [c]))) hN9 hne.2.1
   have hc10 := getS (x := Ob.dK (nmR ((P ++ [(names[i], [(w8, sv)])]).map Prod.fst) (ids ++ [c]))) hc9 hne.2.2
   have hl10 : c ≤ (s7.set w (.dK (nmR ((P ++ [(names[i], [(w8, sv)])]).map Prod.fst) (ids ++ [c])))).length := by rw [List.length_set]; exact hl9
   generalize s7.set w (.dK (nmR ((P ++ [(names[i], [(w8, sv)])]).map Prod.fst) (ids ++ [c]))) = s8 at B6 Z10 hW10 hN10 hc10 hl10 ⊢
   have fin : ∀ (svs : List (Str × List Stp)) s', svs ≠ [] → svs.length ≤ 2 → (∀ q ∈ svs, SvOk names q.2 ∧ Sh q.1) → OwnB st.length s' ((c, .dK (kvM stepsD svs)) :: (w, .dK (nmR ((P ++ [(names[i], [(w8, sv)])]).map Prod.fst) (ids ++ [c]))) :: svCs ids P) → ∃ P' ids', P'.map Prod.fst = names.take (i + 1) ∧ ids'.length = P'.length ∧ PlOk names P' ∧ OwnB st.length s' ((w, .dK (nmR (P'.map Prod.fst) ids')) :: svCs ids' P') := by
    intro svs s' q1 q2 q3 O
    refine ⟨P ++ [(names[i], svs)], ids ++ [c], by rw [List.map_append, hP, htk]; rfl, by rw [List.length_append, List.length_append, hl]; rfl, ⟨fun p hp => ?_, fun p hp => ?_⟩, ?_⟩
    ·rcases List.mem_append.mp hp with hp | hp
     ·exact ok.sv p hp
     ·rw [List.mem_singleton.mp hp]
      exact ⟨fun q hq => (q3 q hq).1, q1, q2⟩
    ·rcases List.mem_append.mp hp with hp | hp
     ·exact ok.nm p hp
     ·rw [List.mem_singleton.mp hp]
      exact ⟨hsn _ (List.getElem_mem hi), fun q hq => (q3 q hq).2⟩
    ·rw [svCs_app hl]
     rw [show (P ++ [(names[i], svs)]).map Prod.fst = (P ++ [(names[i], [(w8, sv)])]).map Prod.fst by rw [List.map_append, List.map_append]; rfl]
     exact O.perm (List.perm_append_comm (l₁ := (w, _) :: svCs ids P) (l₂ := [(c, _)]))
   obtain ⟨j, s9, e9, _, _, Z11, S11⟩ := take_d (many := 3) Z10 (by decide) (sm (by decide))
   have B7 := B6.same S11 dgb
   have hW11 := S11.eq _ _ hW10 hWdg
   have hN11 := S11.eq _ _ hN10 hNdg
   have hc11 := S11.eq _ _ hc10 h6dg
   have hl11 : c ≤ s9.length := Nat.le_trans hl10 S11.len
   have hsvo : SvOk names sv := hsv
   refine r_ifD (truE (op2E (callE (args2 rfl rfl) e9) rfl gt_int)) (fun _ => ?_) fun _ => r_passS ?_
   ·have f2 := slc_any (lo := none) (hi := some ((2 : Nat) : Int)) hW11
    rw [hws2] at f2
    have hlt9 := Z11.lt
    obtain ⟨sy, s10, e10, hsy, Z12, S12⟩ := service_d (names := names) (Z11.app (x := [Ob.lst ((ws.take 2).map M.D.str)])) getN (by omega) hk0 hkl (getA (g := [Ob.lst ((ws.take 2).map M.D.str)]) hc11) (fun e => h6dg (by rw [e]; simp)) (by omega) hk2 h4
    have B8 := (B7.app (g := [Ob.lst ((ws.take 2).map M.D.str)])).same S12 dgb
    have hW12 := S12.eq _ _ (getA (g := [Ob.lst ((ws.take 2).map M.D.str)]) hW11) hWdg
    have hN12 := S12.eq _ _ (getA (g := [Ob.lst ((ws.take 2).map M.D.str)]) hN11) hNdg
    have hl12 : c ≤ s10.length := by
     have := S12.len
     rw [List.length_append] at this
     omega
    have hw12 := OwnB.at (A := [_]) B8
    have hv12 := OwnB.at (A := []) B8
    have hix : ixD (.ref w) (.str names[i]) s10 = some (.ok (.ref c), s10) := by
     refine dk_ix hw12 ?_
     rw [List.map_append, show List.map Prod.fst [(names[i], [(w8, sv)])] = [names[i]] from rfl, nmR_app hnl2]
     have : ∀ (kvs : List (Key × M.D)), (∀ x ∈ kvs, x.1 ≠ .inr names[i]) → valD (kvs ++ [((.inr names[i] : Key), M.D.ref c)]) (.inr names[i]) = some (.ref c) := by
      intro kvs
      induction kvs with
      | nil => intro _; rw [List.nil_append, valD_cons, if_pos rfl]
      | cons y r ih =>
       intro hy
       obtain ⟨k', d'⟩ := y
       rw [List.cons_append, valD_cons, if_neg (hy _ List.mem_cons_self), ih fun x hx => hy x (List.mem_cons_of_mem _ hx)]
     refine this _ fun x hx e => ?_
     obtain ⟨m, k1, k2⟩ := nmR_mem hx
     rw [k2] at e
     rw [hP] at k1
     exact hni (Sum.inr.inj e ▸ k1)
    refine r_subO (.dK (kvM stepsD (kput [(w8, sv)] w9 sy))) (d := stepsD sy) (k := w9) (s := s10) (callE (args3 rfl (slcE rfl rfl rfl f2) rfl) e10) (op2E rfl rfl hix) (op2E rfl rfl (ix_list (i := 9) hW12 (by decide) m9)) hv12 (by show 1 < 1000000; decide) (congrArg Ob.dK (putD_kvM (List.nodup_cons.mpr ⟨fun h => (nomatch h), List.nodup_nil⟩))) ?_
    have hcd : c ≠ d ∧ c ≠ g ∧ c ≠ l := by omega
    have hcW : c ≠ nW ∧ c ≠ nN := by
     refine ⟨fun e => ?_, fun e => ?_⟩
     ·rw [e, hW12] at hv12; cases hv12
     ·rw [e, hN12] at hv12; cases hv12
    refine ⟨⟨_, _, _, rfl⟩, Z12.set hcd.1 hcd.2.1 hcd.2.2, getS hW12 hcW.1, getS hN12 hcW.2, by rw [List.length_set]; omega, fin (kput [(w8, sv)] w9 sy) _ ?_ (by have := kput_len (l := [(w8, sv)]) (k := w9) (v := sy); exact this) (fun q hq => ?_) (OwnB.set (A := []) B8)⟩
    ·rw [kput_cons]; split <;> exact List.cons_ne_nil _ _
    ·rw [kput_cons] at hq
     split at hq
     ·rw [List.mem_singleton.mp hq]; exact ⟨hsy, z8⟩
     ·rcases List.mem_cons.mp hq with rfl | hq
      ·exact ⟨hsvo, z8⟩
      ·rw [List.mem_singleton.mp hq]; exact ⟨hsy, z9⟩
   ·exact ⟨⟨_, _, _, rfl⟩, Z11, hW11, hN11, by omega, fin [(w8, sv)] _ (List.cons_ne_nil _ _) (by show 1 ≤ 2; decide) (fun q hq => by rw [List.mem_singleton.mp hq]; exact ⟨hsvo, z8⟩) B7⟩
 obtain ⟨v, s, e, w, P, ids, rfl, h⟩ := key
 exact ⟨w, P, ids, s, e, h⟩
end
end M
namespace M
open PySem PySem.Spec PyProof.Rows L2 G
theorem lkp_of {α : Type} {l : List (Str × α)} {k : Str} {v : α} (hn : Ndk l) (h : (k, v) ∈ l) : lkp l k = some v := by
 induction l with
 | nil => cases h
 | cons p r ih =>
  obtain ⟨n, a⟩ := p
  obtain ⟨h1, h2⟩ := List.nodup_cons.mp hn
  rw [lkp_cons]
  rcases List.mem_cons.mp h with e | h
  ·cases e
   rw [if_pos rfl]
  ·rw [if_neg, ih h2 h]
   rintro rfl
   exact h1 (List.mem_map.mpr ⟨_, h, rfl⟩)
theorem eqT_sc {n : Nat} {st : Sto} {a b : D} (h : eqSc a b = true) : eqT n st a b = true := by
 cases n with
 | zero => exact h
 | succ n => unfold eqT; rw [h]; rfl
theorem dct_d {n : Nat} {st : Sto} {ks : List (Key × D)} (h : st[n]? = some (.dK ks)) : dctOf (.ref n) st = some ks ∧ lstOf (.ref n) st = none := by
 unfold dctOf lstOf
 dsimp only
 rw [h]
 exact ⟨rfl, rfl⟩
theorem eqT_dct {n a b : Nat} {st : Sto} {ks ls : List (Key × D)} (ha : st[a]? = some (.dK ks)) (hb : st[b]? = some (.dK ls)) (hl : ks.length = ls.length) (h : ∀ p ∈ ks, ∃ u, valD ls p.1 = some u ∧ eqT n st p.2 u = true) : eqT (n + 1) st (.ref a) (.ref b) = true := by
 unfold eqT
 rw [(dct_d ha).2, (dct_d ha).1, (dct_d hb).1]
 dsimp only [tupOf]
 rw [hl, beq_self_eq_true, Bool.true_and]
 refine (Bool.or_eq_true _ _).mpr (.inr (List.all_eq_true.mpr fun p hp => ?_))
 obtain ⟨u, e1, e2⟩ := h p hp
 rw [e1]
 exact e2
theorem eqT_kv {n a b : Nat} {st : Sto} {kv : Kv} (ha : st[a]? = some (.dK (kvM .int kv))) (hb : st[b]? = some (.dK (kvM .int kv))) (hn : Ndk kv) : eqT (n + 1) st (.ref a) (.ref b) = true := by
 refine eqT_dct ha hb rfl fun p hp => ?_
 obtain ⟨q, hq, rfl⟩ := List.mem_map.mp hp
 refine ⟨.int q.2, ?_, eqT_sc (by show (q.2 == q.2) = true; exact beq_self_eq_true _)⟩
 rw [valD_kvM, lkp_of hn hq]
 first | done | rfl
theorem nmR_two : ∀ {ss : List (Str × Kv)} {c1 c2 : List Nat}, c1.length = ss.length → c2.length = ss.length → Ndk ss → ∀ p ∈ nmR (ss.map Prod.fst) c1, ∃ n kv a b, p = (.inr n, .ref a) ∧ (a, Ob.dK (kvM D.int kv)) ∈ sCs c1 ss ∧ valD (nmR (ss.map Prod.fst) c2) (.inr n) = some (.ref b) ∧ (b, Ob.dK (kvM D.int kv)) ∈ sCs c2 ss ∧ (n, kv) ∈ ss
 | [], [], _, _, _, _, p, h => nomatch h
 | [], _ :: _, _, h, _, _, _, _ => nomatch h
 | _ :: _, [], _, h, _, _, _, _ => nomatch h
 | _ :: _, _ :: _, [], _, h, _, _, _ => nomatch h
 | (n, kv) :: ss, a :: c1, b :: c2, h1, h2, hn, p, hp => by
  obtain ⟨k1, k2⟩ := List.nodup_cons.mp hn
  rcases List.mem_cons.mp (show p ∈ ((Sum.inr n : Key), D.ref a) :: nmR (ss.map Prod.fst) c1 from hp) with rfl | hp
  ·exact ⟨n, kv, a, b, rfl, List.mem_cons_self, by show valD (((Sum.inr n : Key), D.ref b) :: nmR (ss.map Prod.fst) c2) _ = _; rw [valD_cons, if_pos rfl], List.mem_cons_self, List.mem_cons_self⟩
  ·obtain ⟨m, kw, x, y, rfl, q1, q2, q3, q4⟩ := nmR_two (Nat.succ.inj h1) (Nat.succ.inj h2) k2 p hp
   refine ⟨m, kw, x, y, rfl, List.mem_cons_of_mem _ q1, ?_, List.mem_cons_of_mem _ q3, List.mem_cons_of_mem _ q4⟩
   show valD (((Sum.inr n : Key), D.ref b) :: nmR (ss.map Prod.fst) c2) _ = _
   rw [valD_cons, if_neg, q2]
   intro e
   refine k1 ?_
   rw [Sum.inr.inj e]
   exact List.mem_map.mpr ⟨_, q4, rfl⟩
theorem ints_eq {n : Nat} {st : Sto} : ∀ (xs : List Int), ((xs.map D.int).zip (xs.map D.int)).all (fun p => eqT n st p.1 p.2) = true
 | [] => rfl
 | x :: xs => by
  rw [List.map_cons, List.zip_cons_cons, List.all_cons, ints_eq xs, Bool.and_true]
  exact eqT_sc (by show (x == x) = true; exact beq_self_eq_true _)
theorem toP_dct {m n : Nat} {st : Sto} {ks : List (Key × D)} (h : st[n]? = some (.dK ks)) : toP m st (.ref n) = none := by
 cases m with
 | zero => rfl
 | succ m =>
  unfold toP
  dsimp only
  rw [h]
theorem toPs_none {st : Sto} {x : D} (h : ∀ m, toP m st x = none) : ∀ {xs : List D} (n : Nat), x ∈ xs → toPs n st xs = none
 | [], _, hm => nomatch hm
 | y :: xs, 0, _ => rfl
 | y :: xs, n + 1, hm => by
  unfold toPs
  rcases List.mem_cons.mp hm with rfl | hm
  ·rw [h]
  ·rw [toPs_none h n hm]
   cases toP n st y <;> rfl
section
variable {st : Sto} {R : Res} {sd1 sd2 : Nat} {cs1 cs2 : List Nat} {P : Pln}
theorem word_eq {a : Option (Wd × Int)} : eqSc (wordD a) (wordD a) = true := by
 cases a with
 | none => exact beq_self_eq_true _
 | some p => exact beq_self_eq_true _
theorem worth_eq {a : Option (Wd × Int)} : eqSc (worthD a) (worthD a) = true := by
 cases a with
 | none => exact beq_self_eq_true _
 | some p => exact beq_self_eq_true _
theorem res_ne (h1 : ResAt st R sd1 cs1) (h2 : ResAt st R sd2 cs2) (ok : OkR P R) (hn : Ndk P) : neX (resD R sd1) (resD R sd2) st = some (.ok (.bl false), st) := by
 have hnd : Ndk R.2.2 := by unfold Ndk; rw [ok.st]; exact hn
 have e1 : eqT 50 st (.ref sd1) (.ref sd2) = true := by
  refine eqT_dct (n := 49) h1.top h2.top (by rw [nmR_len (by rw [List.length_map]; exact h1.lc), nmR_len (by rw [List.length_map]; exact h2.lc)]) fun p hp => ?_
  obtain ⟨n, kv, a, b, rfl, q1, q2, q3, q4⟩ := nmR_two h1.lc h2.lc hnd p hp
  exact ⟨_, q2, eqT_kv (n := 48) (h1.cel _ q1) (h2.cel _ q3) (ok.nd _ q4)⟩
 have e2 : eqT 50 st (.tup (R.2.1.map .int)) (.tup (R.2.1.map .int)) = true := by
  unfold eqT
  show (eqSc _ _ || (((R.2.1.map D.int).length == (R.2.1.map D.int).length) && _)) = true
  rw [ints_eq, beq_self_eq_true]
  simp
 have ht : topT st (resD R sd1) (resD R sd2) = true := by
  show ((4 == 4) && (eqT 50 st (wordD R.1) (wordD R.1) && (eqT 50 st (worthD R.1) (worthD R.1) && (eqT 50 st (.tup (R.2.1.map .int)) (.tup (R.2.1.map .int)) && (eqT 50 st (.ref sd1) (.ref sd2) && true))))) = true
  rw [eqT_sc word_eq, eqT_sc worth_eq, e1, e2]
  first | done | rfl
 have hne : neE (resD R sd1) (resD R sd2) st = none := by
  have hd : neD (resD R sd1) (resD R sd2) st = none := by
   unfold neD
   rw [show sEq (resD R sd1) (resD R sd2) = none from rfl]
   have : toP DEEP st (resD R sd1) = none := by
    unfold resD
    have hs : ∀ n, toP (n + 1) st (.tup [wordD R.1, worthD R.1, .tup (R.2.1.map .int), .ref sd1]) = none := fun n => by
     unfold toP
     dsimp only
     rw [toPs_none (x := .ref sd1) (fun m => toP_dct h1.top) n (by simp)]
     first | done | rfl
    exact hs _
   dsimp only
   rw [this]
  unfold neE alt
  rw [show nilD true (resD R sd1) (resD R sd2) st = none from rfl]
  exact hd
 unfold neX alt
 rw [hne]
 dsimp only
 unfold eqTD
 rw [if_pos ht]
 first | done | rfl
end
end M
namespace M
open PySem PySem.Spec PyProof.Rows L2 G
theorem piled_le {m : Nat} : ∀ {ts : List Str}, (∀ t ∈ ts, t.length ≤ m) → piled ts ≤ ts.length * (m + 2)
 | [], _ => Nat.zero_le _
 | t :: r, h => by
  have h1 := h t (.head _)
  have h2 := piled_le (ts := r) fun x hx => h x (.tail _ hx)
  rw [piled_cons, List.length_cons, Nat.succ_mul]
  omega
theorem join_le (ts : List Str) : (Str.join ", " ts).length ≤ piled ts := by
 by_cases h : ts = []
 ·subst h; exact Nat.zero_le _
 ·have := join_length_add ts h
  omega
theorem tup_le (ts : List Str) : (tupleText ts).length ≤ 3 + piled ts := by
 have h1 := join_le ts
 unfold tupleText
 rw [strLen_append, strLen_append]
 have h2 : ((if ts.length == 1 then ",)" else ")" : String) : Str).length ≤ 2 := by
  by_cases h : (ts.length == 1) = true
  ·rw [if_pos h]; exact Nat.le_of_ble_eq_true rfl
  ·rw [if_neg h]; exact Nat.le_of_ble_eq_true rfl
 have h3 : (("(" : Str)).length = 1 := rfl
 omega
theorem dct_le (ts : List Str) : (dictText ts).length ≤ 2 + piled ts := by
 have h1 := join_le ts
 unfold dictText
 rw [strLen_append, strLen_append]
 have h2 : (("}" : Str)).length = 1 := rfl
 have h3 : (("{" : Str)).length = 1 := rfl
 omega
theorem shownAll_map : ∀ (l : List PyData), PyData.shownAll l = l.map PyData.shown
 | [] => by simp only [PyData.shownAll, List.map_nil]
 | x :: r => by simp only [PyData.shownAll, List.map_cons, shownAll_map r]
def Fit (dp ln : Nat) (d : PyData) : Prop := d.showable = true ∧ d.depth ≤ dp ∧ d.shown.length ≤ ln
theorem fit_str {s : Str} (h : Sh s) : Fit 0 100 (.str s) := by
 refine ⟨by simp only [PyData.showable], by simp only [PyData.depth]; omega, ?_⟩
 have hc := StrLaws.reprText_len s fun c hc => Nat.lt_trans (h.2 c hc) (by decide)
 have hz := h.1
 simp only [PyData.shown]
 omega
theorem fit_int {i : Int} (h : i.natAbs < 10 ^ 40) : Fit 0 100 (.int i) := by
 refine ⟨?_, by simp only [PyData.depth]; omega, ?_⟩
 ·simp only [PyData.showable, decide_eq_true_eq]
  exact log_big (Nat.lt_of_lt_of_le h (Nat.pow_le_pow_right (by decide) (by decide)))
 ·simp only [PyData.shown]
  have := int_text_length_le10 (a := i) (k := 40) (by decide) h
  rw [PySem.ofString_length]
  omega
theorem fit_tup {dp ln m : Nat} {xs : List PyData} (h : ∀ x ∈ xs, Fit dp ln x) (hm : xs.length ≤ m) : Fit (dp + 1) (3 + m * (ln + 2)) (.tuple xs) := by
 have key : ∀ xs : List PyData, (∀ x ∈ xs, Fit dp ln x) → PyData.showableAll xs = true ∧ PyData.depthAll xs ≤ dp := fun xs => by
  induction xs with
  | nil => intro _; exact ⟨by simp only [PyData.showableAll], by simp only [PyData.depthAll]; omega⟩
  | cons x r ih =>
   intro h
   obtain ⟨h1, h2⟩ := ih fun y hy => h y (.tail _ hy)
   obtain ⟨g1, g2, _⟩ := h x (.head _)
   exact ⟨by simp only [PyData.showableAll, g1, h1, Bool.and_self], by simp only [PyData.depthAll]; omega⟩
 obtain ⟨k1, k2⟩ := key xs h
 refine ⟨by simp only [PyData.showable, k1], by simp only [PyData.depth]; omega, ?_⟩
 simp only [PyData.shown]
 have e1 := tup_le (PyData.shownAll xs)
 have e2 := piled_le (ts := PyData.shownAll xs) (m := ln) fun t ht => by
  rw [shownAll_map] at ht
  obtain ⟨x, hx, rfl⟩ := List.mem_map.mp ht
  exact (h x hx).2.2
 have e3 : (PyData.shownAll xs).length = xs.length := by rw [shownAll_map, List.length_map]
 rw [e3] at e2
 have := Nat.mul_le_mul_right (ln + 2) hm
 omega
theorem fit_dct {dp ln m : Nat} {ps : List (PyData × PyData)} (h : ∀ x ∈ ps, Fit 0 100 x.1 ∧ Fit dp ln x.2) (hm : ps.length ≤ m) : Fit (dp + 1) (2 + m * (104 + ln)) (.dict ps) := by
 have key : ∀ ps : List (PyData × PyData), (∀ x ∈ ps, Fit 0 100 x.1 ∧ Fit dp ln x.2) → PyData.showableKv ps = true ∧ PyData.depthKv ps ≤ dp ∧ (∀ t ∈ PyData.shownKv ps, t.length ≤ 102 + ln) ∧ (PyData.shownKv ps).length = ps.length := fun ps => by
  induction ps with
  | nil => intro _; exact ⟨by simp only [PyData.showableKv], by simp only [PyData.depthKv]; omega, by simp only [PyData.shownKv]; exact (fun _ h => nomatch h), by simp only [PyData.shownKv, List.length_nil]⟩
  | cons x r ih =>
   intro h
   obtain ⟨h1, h2, h3, h4⟩ := ih fun y hy => h y (.tail _ hy)
   obtain ⟨a, b⟩ := x
   obtain ⟨⟨g1, g2, g3⟩, f1, f2, f3⟩ := h (a, b) (.head _)
   dsimp only at g1 g2 g3 f1 f2 f3
   refine ⟨by simp only [PyData.showableKv, g1, f1, h1, Bool.and_self], by simp only [PyData.depthKv]; omega, fun t ht => ?_, by simp only [PyData.shownKv, List.length_cons, h4]⟩
   simp only [PyData.shownKv] at ht
   rcases List.mem_cons.mp ht with rfl | ht
   ·rw [strLen_append, strLen_append]
    have e : ((": " : Str)).length = 2 := rfl
    omega
   ·exact h3 t ht
 obtain ⟨k1, k2, k3, k4⟩ := key ps h
 refine ⟨by simp only [PyData.showable, k1], by simp only [PyData.depth]; omega, ?_⟩
 simp only [PyData.shown]
 have e1 := dct_le (PyData.shownKv ps)
 have e2 := piled_le k3
 rw [k4] at e2
 have := Nat.mul_le_mul_right (102 + ln + 2) hm
 have e : m * (102 + ln + 2) = m * (104 + ln) := by congr 1; omega
 omega
def stpL : Stp → List PyData
 | .add k m => [.str "add", .str k, .int m]
 | .put k => [.str "put", .str k]
 | .load k => [.str "load", .str k]
 | .plus m => [.str "plus", .int m]
 | .take => [.str "take"]
 | .give => [.str "give"]
 | .more a => [.str "more", .int (a : Nat)]
 | .fin => [.str "done"]
 | .call h x l => [.str "call", .str h, .str x, .int l]
def stepsP (x : List Stp) : PyData := .tuple (x.map fun s => .tuple (stpL s))
def svP (v : List (Str × List Stp)) : PyData := .dict (v.map fun q => (.str q.1, stepsP q.2))
def worldP (P : Pln) : PyData := .dict (P.map fun p => (.str p.1, svP p.2))
theorem fit_stp {names : List Str} {m : Nat} {s : Stp} (h : StOk names m s) : Fit 1 411 (.tuple (stpL s)) := by
 have h3 := h.sz
 have w : ∀ {x : Str}, Sh x → Fit 0 100 (.str x) := fun h => fit_str h
 have wd : ∀ x ∈ (["add", "put", "load", "plus", "take", "give", "more", "done", "call"] : List Str), Sh x := by unfold Sh; decide +kernel
 have key : (∀ x ∈ stpL s, Fit 0 100 x) ∧ (stpL s).length ≤ 4 := by
  cases s with
  | add k m => exact ⟨by simpa [stpL] using ⟨w (wd _ (by simp)), w h3.1, fit_int h3.2⟩, Nat.le_of_ble_eq_true rfl⟩
  | put k => exact ⟨by simpa [stpL] using ⟨w (wd _ (by simp)), w h3⟩, Nat.le_of_ble_eq_true rfl⟩
  | load k => exact ⟨by simpa [stpL] using ⟨w (wd _ (by simp)), w h3⟩, Nat.le_of_ble_eq_true rfl⟩
  | plus m => exact ⟨by simpa [stpL] using ⟨w (wd _ (by simp)), fit_int h3⟩, Nat.le_of_ble_eq_true rfl⟩
  | take => exact ⟨by simpa [stpL] using w (wd _ (by simp)), Nat.le_of_ble_eq_true rfl⟩
  | give => exact ⟨by simpa [stpL] using w (wd _ (by simp)), Nat.le_of_ble_eq_true rfl⟩
  | more a =>
   have h3 : a < 1000 := h3
   exact ⟨by simpa [stpL] using ⟨w (wd _ (by simp)), fit_int (nb_lt (n := 1000) (by omega) (by omega))⟩, Nat.le_of_ble_eq_true rfl⟩
  | fin => exact ⟨by simpa [stpL] using w (wd _ (by simp)), Nat.le_of_ble_eq_true rfl⟩
  | call h x l => exact ⟨by simpa [stpL] using ⟨w (wd _ (by simp)), w h3.1, w h3.2.1, fit_int h3.2.2⟩, Nat.le_of_ble_eq_true rfl⟩
 exact fit_tup key.1 key.2
theorem fit_sv {names : List Str} {v : List (Str × List Stp)} (h : ∀ q ∈ v, SvOk names q.2) (hs : ∀ q ∈ v, Sh q.1) (hl : v.length ≤ 2) : Fit 3 10200 (svP v) := by
 have := fit_dct (dp := 2) (ln := 4959) (m := 2) (ps := v.map fun q => (.str q.1, stepsP q.2)) (fun x hx => by
  obtain ⟨q, hq, rfl⟩ := List.mem_map.mp hx
  refine ⟨fit_str (hs q hq), ?_⟩
  exact fit_tup (dp := 1) (ln := 411) (m := 12) (fun y hy => by
   obtain ⟨s, hs2, rfl⟩ := List.mem_map.mp hy
   exact fit_stp ((h q hq).2 s hs2)) (by rw [List.length_map]; exact (h q hq).1)) (by rw [List.length_map]; exact hl)
 exact ⟨this.1, this.2.1, Nat.le_trans this.2.2 (Nat.le_of_ble_eq_true rfl)⟩
theorem fit_world {P : Pln} (ok : PlOk (P.map Prod.fst) P) (hl : P.length ≤ 4) : Fit 4 100000 (worldP P) := by
 have := fit_dct (dp := 3) (ln := 10200) (m := 4) (ps := P.map fun p => (.str p.1, svP p.2)) (fun x hx => by
  obtain ⟨p, hp, rfl⟩ := List.mem_map.mp hx
  exact ⟨fit_str (ok.nm p hp).1, fit_sv (ok.sv p hp).1 (ok.nm p hp).2 (ok.sv p hp).2.2⟩) (by rw [List.length_map]; exact hl)
 exact ⟨this.1, this.2.1, Nat.le_trans this.2.2 (Nat.le_of_ble_eq_true rfl)⟩
theorem toQ_stp (s : Stp) (n : Nat) (st : Sto) : toQ (n + 7) st s.d = some (.tuple (stpL s)) := by
 cases s <;> rfl
theorem toQs_map {α : Type} (st : Sto) (f : α → D) (g : α → PyData) (k : Nat) : ∀ (l : List α) (n : Nat), (∀ x ∈ l, ∀ m, k ≤ m → toQ m st (f x) = some (g x)) → k + 1 + l.length ≤ n → toQs n st (l.map f) = some (l.map g)
 | [], 0, _, h => absurd h (by simp)
 | [], _ + 1, _, _ => rfl
 | _ :: _, 0, _, h => absurd h (by simp)
 | x :: r, n + 1, hx, h => by
  rw [List.length_cons] at h
  rw [List.map_cons]
  unfold toQs
  rw [hx x (.head _) n (by omega), toQs_map st f g k r n (fun y hy => hx y (.tail _ hy)) (by omega)]
  first | done | rfl
theorem toQ_steps {st : Sto} {x : List Stp} {n : Nat} (hl : x.length ≤ 12) (hn : 21 ≤ n) : toQ n st (stepsD x) = some (stepsP x) := by
 obtain ⟨n, rfl⟩ : ∃ m, n = m + 1 := ⟨n - 1, by omega⟩
 unfold stepsD toQ
 show Option.map _ (toQs n st (x.map Stp.d)) = _
 rw [toQs_map st Stp.d (fun s => .tuple (stpL s)) 7 x n (fun s _ m hm => by
  obtain ⟨m, rfl⟩ : ∃ j, m = j + 7 := ⟨m - 7, by omega⟩
  exact toQ_stp s m st) (by omega)]
 rfl
theorem zip_kv (v : List (Str × List Stp)) : ((kvM stepsD v).map fun p => kP p.1).zip (v.map fun q => stepsP q.2) = v.map fun q => ((.str q.1, stepsP q.2) : PyData × PyData) := by
 induction v with
 | nil => rfl
 | cons q r ih =>
  show (_, _) :: (((kvM stepsD r).map fun p => kP p.1).zip (r.map fun q => stepsP q.2)) = _
  rw [ih]
  first | done | rfl
theorem toQ_sv {st : Sto} {i n : Nat} {v : List (Str × List Stp)} (hi : st[i]? = some (.dK (kvM stepsD v))) (hl : v.length ≤ 2) (h : ∀ q ∈ v, q.2.length ≤ 12) (hn : 30 ≤ n) : toQ n st (.ref i) = some (svP v) := by
 obtain ⟨n, rfl⟩ : ∃ m, n = m + 1 := ⟨n - 1, by omega⟩
 unfold toQ
 dsimp only
 rw [hi]
 show Option.map _ (toQs n st ((kvM stepsD v).map fun p => p.2)) = _
 have e : (kvM stepsD v).map (fun p => p.2) = v.map fun q => stepsD q.2 := by unfold kvM; rw [List.map_map]; rfl
 rw [e, toQs_map st (fun q => stepsD q.2) (fun q => stepsP q.2) 21 v n (fun q hq m hm => toQ_steps (h q hq) hm) (by omega)]
 show some (PyData.dict _) = _
 rw [zip_kv]
 first | done | rfl
theorem nm_zip : ∀ {P : Pln} {ids : List Nat}, ids.length = P.length → ((nmR (P.map Prod.fst) ids).map fun p => kP p.1).zip (P.map fun p => svP p.2) = P.map fun p => ((.str p.1, svP p.2) : PyData × PyData)
 | [], [], _ => rfl
 | [], _ :: _, h => nomatch h
 | _ :: _, [], h => nomatch h
 | p :: P, i :: ids, h => by
  show (_, _) :: (((nmR (P.map Prod.fst) ids).map fun p => kP p.1).zip (P.map fun p => svP p.2)) = _
  rw [nm_zip (Nat.succ.inj h)]
  first | done | rfl
theorem nm_toQs {st : Sto} : ∀ {P : Pln} {ids : List Nat} {n : Nat}, ids.length = P.length → (∀ p ∈ svCs ids P, st[p.1]? = some p.2) → (∀ p ∈ P, p.2.length ≤ 2 ∧ ∀ q ∈ p.2, q.2.length ≤ 12) → 31 + P.length ≤ n → toQs n st ((nmR (P.map Prod.fst) ids).map fun p => p.2) = some (P.map fun p => svP p.2)
 | [], [], 0, _, _, _, h => absurd h (by simp)
 | [], [], _ + 1, _, _, _, _ => rfl
 | [], _ :: _, _, h, _, _, _ => nomatch h
 | _ :: _, [], _, h, _, _, _ => nomatch h
 | _ :: _, _ :: _, 0, _, _, _, h => absurd h (by simp)
 | p :: P, i :: ids, n + 1, h, hs, hp, hn => by
  rw [List.length_cons] at hn
  show toQs (n + 1) st (.ref i :: ((nmR (P.map Prod.fst) ids).map fun p => p.2)) = _
  unfold toQs
  have h1 : st[i]? = some (.dK (kvM stepsD p.2)) := hs (i, .dK (kvM stepsD p.2)) (.head _)
  rw [toQ_sv h1 (hp p (.head _)).1 (hp p (.head _)).2 (by omega), nm_toQs (Nat.succ.inj h) (fun q hq => hs q (.tail _ hq)) (fun q hq => hp q (.tail _ hq)) (by omega)]
  first | done | rfl
theorem toQ_world {st : Sto} {w : Nat} {P : Pln} {ids : List Nat} (W : Wld st w P ids) (ok : PlOk (P.map Prod.fst) P) (hl : P.length ≤ 4) : toQ DEEP st (.ref w) = some (worldP P) := by
 unfold DEEP toQ
 dsimp only
 rw [W.top]
 show Option.map _ (toQs 99999 st ((nmR (P.map Prod.fst) ids).map fun p => p.2)) = _
 rw [nm_toQs W.len W.sv (fun p hp => ⟨(ok.sv p hp).2.2, fun q hq => ((ok.sv p hp).1 q hq).1⟩) (by omega)]
 show some (PyData.dict _) = _
 rw [nm_zip W.len]
 first | done | rfl
theorem repr_world {st : Sto} {w : Nat} {P : Pln} {ids : List Nat} (W : Wld st w P ids) (ok : PlOk (P.map Prod.fst) P) (hl : P.length ≤ 4) : reprD [.ref w] st = some (.ok (.str (worldP P).shown), st) := by
 have hf := fit_world ok hl
 have e : LINE = 1000000 := rfl
 unfold reprD
 dsimp only
 rw [toQ_world W ok hl]
 dsimp only
 rw [if_pos ⟨hf.1, Nat.lt_of_le_of_lt hf.2.1 (by decide), by have := hf.2.2; omega⟩]
end M
namespace M
open PySem PySem.Spec PyProof.Rows L2 G
section
variable {st : Sto} {w : Nat} {P : Pln} {ids : List Nat} {h s : Str} {v : Int}
theorem okP_of (ok : PlOk (P.map Prod.fst) P) (nd : Ndk P) (hl : P.length ≤ 4) : OkP P := by
 refine ⟨nd, by omega, fun h v e s x e2 => ?_⟩
 obtain ⟨h1, _, _⟩ := ok.sv _ (lkp_mem e)
 obtain ⟨h2, h3⟩ := h1 _ (lkp_mem e2)
 exact ⟨fun st hst => ⟨fun h' x' l' e3 => lkp_some ((h3 st hst).call _ _ _ e3), (h3 st hst).more⟩, h2⟩
end
theorem strKeys_nmR : ∀ {ns : List Str} {cs : List Nat}, cs.length = ns.length → strKeys (nmR ns cs) = some ns
 | [], [], _ => rfl
 | [], _ :: _, h => nomatch h
 | _ :: _, [], h => nomatch h
 | n :: ns, c :: cs, h => by
  show (strKeys (nmR ns cs)).map (n :: ·) = _
  rw [strKeys_nmR (Nat.succ.inj h)]
  first | done | rfl
theorem strKeys_kvM {α : Type} {f : α → D} : ∀ {l : List (Str × α)}, strKeys (kvM f l) = some (l.map Prod.fst)
 | [] => rfl
 | (n, a) :: l => by
  show (strKeys (kvM f l)).map (n :: ·) = _
  rw [strKeys_kvM]
  first | done | rfl
theorem sort_dct {st : Sto} {w : Nat} {kvs : List (Key × D)} {ss : List Str} (h : st[w]? = some (.dK kvs)) (hs : strKeys kvs = some ss) (hl : ss.length < 64) : sortE [.ref w] st = some (.ok (.ref st.length), st ++ [.lst ((srtS ss).map D.str)]) := by
 unfold sortE altC
 have e : sortD [.ref w] st = none := by
  unfold sortD lstOf
  simp [h]
 rw [e]
 dsimp only
 unfold sortKD
 dsimp only
 rw [(dct_d h).1]
 dsimp only
 rw [hs]
 dsimp only
 rw [if_pos hl]
theorem Wld.sameB {st s : Sto} {w : Nat} {P : Pln} {ids is : List Nat} (h : Wld st w P ids) (S : Same is st s) (hw : w ∉ is) (hi : ∀ p ∈ svCs ids P, p.1 ∉ is) : Wld s w P ids := ⟨h.len, S.eq _ _ h.top hw, fun p hp => S.eq _ _ (h.sv p hp) (hi p hp), h.nd⟩
theorem callKD {ds : List D} {is : List Nat} {f : List D → Mo D} {ms mk : Env → Mo (List D)} {env : Env} {st s s1 s2 : Sto} {as bs cs : List D} {r : M.R D} (h : ms env st = some (.ok as, s)) (h1 : mk env s = some (.ok bs, s1)) (e : gKD ds is as bs = cs) (h2 : f cs s1 = some (r, s2)) : callB (gKD ds is) f ms mk env st = some (r, s2) := by
 subst e
 unfold callB
 rw [bnd_ok h, bnd_ok h1, h2]
theorem mach_plus {P : Pln} {n k : Nat} : mach0 P (n + k) = (mach0 P n).plus k := rfl
theorem word_late {R : Res} : ∃ z, wordD R.1 = .str z ∧ (decide (z = "late") = true ↔ R.1 = none) := by
 cases h : R.1 with
 | none => exact ⟨"late", rfl, ⟨fun _ => rfl, fun _ => rfl⟩⟩
 | some p =>
  obtain ⟨w, v⟩ := p
  refine ⟨w.s, rfl, ⟨fun h => ?_, fun h => (nomatch h)⟩⟩
  have hd : decide (w.s = "late") = false := by cases w <;> rfl
  rw [hd] at h
  cases h
theorem sort_dctA {st : Sto} {w : Nat} {kvs : List (Key × D)} {ss : List Str} (h : st[w]? = some (.dK kvs)) (hs : strKeys kvs = some ss) (hl : ss.length < 64) : sortA [.ref w] st = some (.ok (.ref st.length), st ++ [.lst ((srtS ss).map D.str)]) := by
 have := sort_dct h hs hl
 unfold sortA altC
 rw [this]
def gEnv (ns : List Int) (d w : Nat) (x3 : Option D) (h z : Str) (v : Int) (x5 : Option D) (pl N : Nat) (x8 x9 x10 x11 x12 : Option D) : Env := [some (.scr ns), some (.ref d), some (.ref w), x3, some (.tup [.str h, .str z, .int v]), x5, some (.ref pl), some (.int (N : Nat)), x8, x9, x10, x11, x12]
def turnB : MS := (seqS (setS 8 (opN reprD (aCons (var 2) (aNil))))
  (seqS (setS 9 (callB (gK []) m_law_plain (aCons (var 2) (aCons (op2 addD (var 4) (opN tupD (aCons (var 6) (aNil)))) (aCons (var 7) (aNil)))) (aNil)))
  (seqS (setS 10 (callB (gKD [.kt []] [0]) m_plain (aCons (var 2) (aCons (op2 ixD (var 4) (cst (.int 0))) (aCons (op2 ixD (var 4) (cst (.int 1))) (aCons (op2 ixD (var 4) (cst (.int 2))) (aCons (opN tupleD (aCons (var 6) (aNil))) (aNil)))))) (aCons (var 7) (aNil))))
  (seqS (ifS (orT (notT (tru (op1 (isiD ["tuple"] ["int", "NoneType", "bool", "str", "list", "dict"]) (var 10)))) (orT (tru (op2 neX (var 10) (var 9))) (tru (op2 neE (opN reprD (aCons (var 2) (aNil))) (var 8)))))
  (retS (cst (.bl false)))
  (passS))
  (seqS (ifS (andT (tru (op2 neE (op2 ixD (var 10) (cst (.int 0))) (cst (.str "late")))) (tru (op2 neX (callB (gKD [.kt [], .int 300] [1]) m_plain (aCons (var 2) (aCons (op2 ixD (var 4) (cst (.int 0))) (aCons (op2 ixD (var 4) (cst (.int 1))) (aCons (op2 ixD (var 4) (cst (.int 2))) (aCons (opN listE (aCons (var 6) (aNil))) (aNil)))))) (aNil)) (var 9))))
  (retS (cst (.bl false)))
  (passS))
  (seqS (setS 11 (callB (gKD [.kt []] [2, 4, 3, 1, 5, 0]) m_plain (aNil) (aCons (var 7) (aCons (op2 ixD (var 4) (cst (.int 2))) (aCons (var 2) (aCons (op2 ixD (var 4) (cst (.int 1))) (aCons (op2 ixD (var 4) (cst (.int 0))) (aNil))))))))
  (ifS (andT (tru (op2 eqE (var 6) (opN lstD (aNil)))) (tru (op2 neX (var 11) (var 9))))
  (retS (cst (.bl false)))
  (passS))))))))
theorem list_lst {n : Nat} {xs : List D} {st : Sto} (h : st[n]? = some (.lst xs)) : listE [.ref n] st = some (.ok (.ref st.length), st ++ [.lst xs]) := by
 have hq : seqOf (.ref n) st = some xs := by
  unfold seqOf lstOf
  rw [show tupOf (.ref n) = none from rfl]
  dsimp only
  rw [h]
 unfold listE altC listD
 dsimp only
 rw [hq]
theorem turn_p {P : Pln} {ids : List Nat} {ns ps : List Int} {d w pl N : Nat} {h z : Str} {v : Int} {v' : List (Str × List Stp)} {x3 x5 x8 x9 x10 x11 x12 : Option D} {s : Sto} (W : Wld s w P ids) (OP : OkP P) (pok : PlOk (P.map Prod.fst) P) (hPl : P.length ≤ 4) (hh : lkp P h = some v') (hpl : s[pl]? = some (.lst (ps.map .int))) (hps : ps.length ≤ 400) (hN : N ≤ 300) {Q : Out → Env → Sto → Prop}
  (k : ∀ s' x8 x9 x10 x11, Same [] s s' → Q .nx (gEnv ns d w x3 h z v x5 pl N x8 x9 x10 x11 x12) s') : Runs turnB (gEnv ns d w x3 h z v x5 pl N x8 x9 x10 x11 x12) s Q := by
 have i0 : ∀ s, ixD (.tup [.str h, .str z, .int v]) (.int 0) s = some (.ok (.str h), s) := fun s => tup_ix (by decide) rfl
 have i1 : ∀ s, ixD (.tup [.str h, .str z, .int v]) (.int 1) s = some (.ok (.str z), s) := fun s => tup_ix (by decide) rfl
 have i2 : ∀ s, ixD (.tup [.str h, .str z, .int v]) (.int 2) s = some (.ok (.int v), s) := fun s => tup_ix (by decide) rfl
 have atP : ∀ {s'}, Same [] s s' → s'[pl]? = some (.lst (ps.map .int)) := fun S => S.eq _ _ hpl (fun h => nomatch h)
 unfold turnB
 refine r_seqS (r_setS (opNE (args1 rfl) (repr_world W pok hPl)) ?_)
 obtain ⟨d2, s2, e2, R, sd2, cs2, rfl, f2, r2, ok2, S2⟩ := (law_plain_p (rt := .ref pl) (s := z) (v := v) (root := ps) (fun s' S => list_lst (atP S)) W OP hh hps hN).to
 refine r_seqS (r_setS (callE (args3 rfl (op2E rfl (opNE (args1 rfl) rfl) (add_tup (by simp))) rfl) e2) ?_)
 obtain ⟨d1, s3, e1, R1, sd, cs, rfl, f1, r1, ok1, S3⟩ := (plain_p (pd := .tup (ps.map .int)) (s := z) (v := v) (root := ps) (fun s' S => listE_tup) (W.same S2) OP hh hps hN).to
 have hR := f2.det f1
 subst hR
 refine r_seqS (r_setS (callKD (argsC rfl (argsC (op2E rfl rfl (i0 s2)) (argsC (op2E rfl rfl (i1 s2)) (argsC (op2E rfl rfl (i2 s2)) (args1 (opNE (args1 rfl) (tuple_lst (atP S2)))))))) (args1 rfl) rfl e1) ?_)
 have S23 := S2.trans S3
 have r2' := r2.same S3
 have hne := res_ne r1 r2' ok1 OP.nd
 have W3 := W.same S23
 show Runs _ (gEnv ns d w x3 h z v x5 pl N (some (.str (worldP P).shown)) (some (resD R sd2)) (some (resD R sd)) x11 x12) s3 Q
 refine r_seqS (r_ifF (s := s3) (orF (s := s3) (notE (k := true) (truE (op1E (a := resD R sd) (s := s3) rfl rfl))) (orF (truE (op2E rfl rfl hne)) (truE (op2E (opNE (args1 rfl) (repr_world W3 pok hPl)) rfl (ne_str.trans (by rw [decide_eq_true rfl]; rfl)))))) (r_passS ?_))
 obtain ⟨wz, hw1, hw2⟩ := word_late (R := R)
 have jb : ∀ s, ixD (resD R sd) (.int 0) s = some (.ok (wordD R.1), s) := fun s => tup_ix (by decide) rfl
 have c3 : tru (op2 neE (op2 ixD (var 10) (cst (.int 0))) (cst (.str "late"))) (gEnv ns d w x3 h z v x5 pl N (some (.str (worldP P).shown)) (some (resD R sd2)) (some (resD R sd)) x11 x12) s3 = some (.ok (!decide (wz = "late")), s3) := truE (op2E (op2E rfl rfl (by rw [jb, hw1])) rfl ne_str)
 -- the rest
 have rest : ∀ s4, Same [] s s4 → ResAt s4 R sd2 cs2 → Runs (seqS (setS 11 (callB (gKD [.kt []] [2, 4, 3, 1, 5, 0]) m_plain (aNil) (aCons (var 7) (aCons (op2 ixD (var 4) (cst (.int 2))) (aCons (var 2) (aCons (op2 ixD (var 4) (cst (.int 1))) (aCons (op2 ixD (var 4) (cst (.int 0))) (aNil))))))))
  (ifS (andT (tru (op2 eqE (var 6) (opN lstD (aNil)))) (tru (op2 neX (var 11) (var 9))))
  (retS (cst (.bl false)))
  (passS))) (gEnv ns d w x3 h z v x5 pl N (some (.str (worldP P).shown)) (some (resD R sd2)) (some (resD R sd)) x11 x12) s4 Q := fun s4 S4 q2 => by
  obtain ⟨d4, s5, e4, R4, sd4, cs4, rfl, f4, r4, ok4, S5⟩ := (plain_p (pd := .kt []) (s := z) (v := v) (root := []) (fun s' S => rfl) (W.same S4) OP hh (Nat.zero_le _) hN).to
  refine r_seqS (r_setS (callKD args0 (argsC rfl (argsC (op2E rfl rfl (i2 s4)) (argsC rfl (argsC (op2E rfl rfl (i1 s4)) (args1 (op2E rfl rfl (i0 s4))))))) rfl e4) ?_)
  have S45 := S4.trans S5
  have he := eqNilE (m := var 6) (env := gEnv ns d w x3 h z v x5 pl N (some (.str (worldP P).shown)) (some (resD R sd2)) (some (resD R sd)) (some (resD R4 sd4)) x12) rfl (atP S45)
  have S6 := S45.trans (Same.app (g := [Ob.lst []]))
  by_cases hp : ps = []
  ·subst hp
   have hR := f4.det f1
   subst hR
   exact r_ifF (andE (truE he) (truE (op2E rfl rfl (res_ne (r4.same .app) ((q2.same S5).same .app) ok4 OP.nd)))) (r_passS (k _ _ _ _ _ S6))
  ·have hem : ((ps.map D.int).isEmpty) = false := by cases ps with
    | nil => exact absurd rfl hp
    | cons a r => rfl
   rw [hem] at he
   exact r_ifF (andF (truE he)) (r_passS (k _ _ _ _ _ S6))
 refine r_seqS (?_ : Runs _ _ _ _)
 cases hd : decide (wz = "late") with
 | true =>
  rw [hd] at c3
  exact r_ifF (andF c3) (r_passS (rest s3 S23 r2'))
 | false =>
  rw [hd] at c3
  obtain ⟨l, hl⟩ : ∃ l, R.1 = some l := by
   cases hr : R.1 with
   | none => rw [hw2.mpr hr] at hd; cases hd
   | some l => exact ⟨l, rfl⟩
  have hls := list_lst (atP S23)
  have S7 : Same [] s (s3 ++ [.lst (ps.map .int)]) := S23.trans .app
  obtain ⟨d5, s6, e5, R5, sd5, cs5, rfl, f5, r5, ok5, S8⟩ := (plain_p (pd := .ref s3.length) (n := 300) (s := z) (v := v) (root := ps) (fun s' S => list_lst (S.eq _ _ getN (fun h => nomatch h))) (W.same S7) OP hh hps (Nat.le_refl _)).to
  have hR5 : R = R5 := by
   have hk : (300 : Nat) = N + (300 - N) := by omega
   rw [hk, mach_plus, begin_plus] at f5
   exact ((f2.plus (k := 300 - N)).1 l hl).det f5
  subst hR5
  have r25 := (r2'.same .app).same S8
  exact r_ifF (andE c3 (truE (op2E (callKD (argsC rfl (argsC (op2E rfl rfl (i0 s3)) (argsC (op2E rfl rfl (i1 s3)) (argsC (op2E rfl rfl (i2 s3)) (args1 (opNE (args1 rfl) hls)))))) args0 rfl e5) rfl (res_ne r5 r25 ok5 OP.nd)))) (r_passS (rest s6 (S7.trans S8) r25))
end M
namespace M
open PySem PySem.Spec PyProof.Rows L2 G
theorem insS_perm' {l : List Str} {z : Str} (h : z ∈ srtS l) : z ∈ l := srtS_perm.mem_iff.mp h
def contB : MS := (seqS (setS 6 (lcE (rng1M (callB (gK []) m_law_take (aCons (var 1) (aCons (cst (.int 7)) (aNil))) (aNil))) (gVar 12) (yesT) (callB (gK []) m_law_number (aCons (var 1) (aNil)) (aNil)) [12]))
  (seqS (setS 7 (callB (gK []) m_law_take (aCons (var 1) (aCons (callB (gK []) m_law_pick (aCons (var 1) (aCons (opN lstD (aCons (cst (.int 4)) (aCons (cst (.int 40)) (aCons (cst (.int 120)) (aNil))))) (aNil))) (aNil)) (aNil))) (aNil)))
  turnB))
section
variable {P : Pln} {ids : List Nat} {ns : List Int} {d g l w : Nat} {h z : Str} {x : Int} {v' : List (Str × List Stp)}
theorem cont_p {x3 x5 x6 x7 x8 x9 x10 x11 x12 : Option D} {s5 : Sto} (Z5 : Dr d g l s5) (W : Wld s5 w P ids) (hwd : w ∉ [d, g]) (hid : ∀ p ∈ svCs ids P, p.1 ∉ [d, g]) (OP : OkP P) (pok : PlOk (P.map Prod.fst) P) (hPl : P.length ≤ 4) (hh : lkp P h = some v') {Q : Out → Env → Sto → Prop}
  (k : ∀ s' x3 x5 x6 x7 x8 x9 x10 x11 x12, Dr d g l s' → Wld s' w P ids → Q .nx [some (.scr ns), some (.ref d), some (.ref w), x3, some (.tup [.str h, .str z, .int x]), x5, x6, x7, x8, x9, x10, x11, x12] s') :
  Runs contB [some (.scr ns), some (.ref d), some (.ref w), x3, some (.tup [.str h, .str z, .int x]), x5, x6, x7, x8, x9, x10, x11, x12] s5 Q := by
 unfold contB
 obtain ⟨k0, s6, e6, k1, k2, Z6, S6⟩ := take_d (many := 7) Z5 (by decide) (sm (by decide))
 obtain ⟨N, rfl⟩ : ∃ N : Nat, k0 = N := ⟨k0.toNat, by omega⟩
 obtain ⟨v, s7, ev, ps, hps, rfl, Z7, S7, hl7⟩ := r_lcE (m := rng1M (callB (gK []) m_law_take (aCons (var 1) (aCons (cst (.int 7)) (aNil))) (aNil))) (g := gRng 0 N) (tg := gVar 12) (t := yesT) (el := callB (gK []) m_law_number (aCons (var 1) (aNil)) (aNil)) (vs := [12]) (env := [some (.scr ns), some (.ref d), some (.ref w), x3, some (.tup [.str h, .str z, .int x]), x5, x6, x7, x8, x9, x10, x11, x12]) (st := s5) (s := s6)
  (R := fun v s' => ∃ ps : List Int, ps.length = N ∧ v = .ref s6.length ∧ Dr d g l s' ∧ Same [d, g] s6 s' ∧ s'[s6.length]? = some (.lst (ps.map D.int))) N
  (fun i acc s' => (∃ ps : List Int, acc = ps.map D.int ∧ ps.length = i) ∧ Dr d g l s' ∧ Same [d, g] s6 s' ∧ s'[s6.length]? = some (.lst acc))
  (rngE (callE (args2 rfl rfl) e6) rfl (by omega) (by omega)) (by omega) ⟨⟨[], rfl, rfl⟩, Z6.app, .app, getN⟩ (fun _ _ _ h => h.2.2.2)
  (fun acc s' ⟨⟨ps, e, hl⟩, z, sm, hh⟩ => ⟨gRng_end, ps, hl, rfl, z, sm, by rw [← e]; exact hh⟩)
  (fun i acc s' hi ⟨⟨ps, e, hl⟩, z', sm, hh⟩ => by
   obtain ⟨y, s8, e8, Z8, S8⟩ := number_d z'
   have hlt := Z6.lt
   have hne : s6.length ∉ [d, g] := by
    simp only [List.mem_cons, List.not_mem_nil, or_false, not_or]
    omega
   have h5 := S8.eq _ _ hh hne
   exact ⟨.int (0 + (i : Int)), [some (.scr ns), some (.ref d), some (.ref w), x3, some (.tup [.str h, .str z, .int x]), x5, x6, x7, x8, x9, x10, x11, some (.int (0 + (i : Int)))], s', true, s', gRng_in hi, rfl, rfl, fun h => (nomatch h), fun _ => ⟨.int y, s8, callE (args1 rfl) e8, h5, ⟨ps ++ [y], by rw [e, List.map_append]; rfl, by rw [List.length_append, hl]; rfl⟩, Z8.set (by omega) (by omega) (by omega), (sm.trans S8).setN (Nat.le_refl _), getSS h5⟩⟩)
 refine r_seqS (r_setS ev ?_)
 have hlt := Z6.lt
 have hpn : s6.length ∉ [d, g] := by
  simp only [List.mem_cons, List.not_mem_nil, or_false, not_or]
  omega
 generalize s6.length = pl at hl7 hpn ⊢
 obtain ⟨q, s8, e8, hq, Z8, S8⟩ := pick_new (xs := [D.int 4, D.int 40, D.int 120]) Z7 (by simp) (by simp)
 obtain ⟨M0, rfl, m0, m1⟩ : ∃ M0 : Nat, q = .int (M0 : Nat) ∧ 0 < M0 ∧ M0 ≤ 120 := by
  simp only [List.mem_cons, List.not_mem_nil, or_false] at hq
  rcases hq with rfl | rfl | rfl
  ·exact ⟨4, rfl, by decide, by decide⟩
  ·exact ⟨40, rfl, by decide, by decide⟩
  ·exact ⟨120, rfl, by decide, by decide⟩
 obtain ⟨n, s9, e9, n0, n1, Z9, S9⟩ := take_d (many := (M0 : Nat)) Z8 (by omega) (sm (by omega))
 obtain ⟨n, rfl⟩ : ∃ N : Nat, n = N := ⟨n.toNat, by omega⟩
 refine r_seqS (r_setS (callE (args2 rfl (callE (args2 rfl (opNE (as := [.int 4, .int 40, .int 120]) rfl rfl)) e8)) e9) ?_)
 have S59 := (S6.trans S7).trans (S8.trans S9)
 have W9 := W.sameB S59 hwd hid
 have hpl := (S8.trans S9).eq _ _ hl7 hpn
 exact turn_p W9 OP pok hPl hh hpl (by omega) (by omega) fun s' y8 y9 y10 y11 S => k s' _ _ _ _ _ _ _ _ _ (Z9.same S (by simp) (by simp) (by simp)) (W9.same S)
end
theorem law_ok {ns : List Int} (hl : ns.length ≤ 63) : ∃ st', m_law [.scr ns] [] = some (.ok (.bl true), st') := by
 have key : Ends' (m_law [.scr ns]) [] fun v s => v = .bl true := by
  refine run_f rfl ?_
  show Runs b_law [some (.scr ns), none, none, none, none, none, none, none, none, none, none, none, none] [] _
  obtain ⟨d, g, l, s1, e1, Z1⟩ := begun_scr (st := []) hl
  refine r_seqS (r_setS (callE (args1 rfl) e1) ?_)
  obtain ⟨w, P, ids, s2, e2, W2, pok, hP0, hPz, hPl, Z2, hwd, hid⟩ := plan_d Z1
  refine r_seqS (r_setS (callE (args2 rfl rfl) e2) ?_)
  have hnl : ids.length = (P.map Prod.fst).length := by rw [List.length_map]; exact W2.len
  have OP := okP_of pok W2.nd hPl
  have hPl2 : (P.map Prod.fst).length ≤ 4 := by rw [List.length_map]; exact hPl
  refine r_seqS (r_forS (g := gRng 0 4) (s := s2) 4 (fun i e s => ∃ x3 x4 x5 x6 x7 x8 x9 x10 x11 x12, e = [some (.scr ns), some (.ref d), some (.ref w), x3, x4, x5, x6, x7, x8, x9, x10, x11, x12] ∧ Dr d g l s ∧ Wld s w P ids) (rngE rfl rfl (by decide) (by decide)) (by decide) ⟨_, _, _, _, _, _, _, _, _, _, rfl, Z2, W2⟩ ?_ ?_)
  ·rintro _ s ⟨x3, x4, x5, x6, x7, x8, x9, x10, x11, x12, rfl, Z, W⟩
   exact ⟨gRng_end, r_retS (d := .bl true) rfl rfl⟩
  ·rintro i _ s hi ⟨x3, x4, x5, x6, x7, x8, x9, x10, x11, x12, rfl, Z2, W2⟩
   refine ⟨.int (0 + (i : Int)), [some (.scr ns), some (.ref d), some (.ref w), some (.int (0 + (i : Int))), x4, x5, x6, x7, x8, x9, x10, x11, x12], s, gRng_in hi, rfl, ?_⟩
   have hs1 := sort_dctA W2.top (strKeys_nmR hnl) (by omega)
   have hne : (srtS (P.map Prod.fst)).map D.str ≠ [] := by
    intro e
    have := congrArg List.length e
    rw [List.length_map, srtS_perm.length_eq, List.length_map] at this
    exact hP0 (List.length_eq_zero_iff.mp this)
   obtain ⟨v, s3, e3, hv, Z3, S3⟩ := pick_new (xs := (srtS (P.map Prod.fst)).map D.str) Z2 hne (by rw [List.length_map, srtS_perm.length_eq]; omega)
   obtain ⟨h, hh, rfl⟩ := List.mem_map.mp hv
   have hh := insS_perm' hh
   obtain ⟨v', hv'⟩ := lkp_some hh
   have W3 := W2.sameB S3 hwd hid
   obtain ⟨x, s4, e4, Z4, S4⟩ := number_d Z3
   refine r_seqS (r_setS (d := .tup [.str h, .str "nobody", .int x]) (opNE (args3 (callE (args2 rfl (opNE (args1 rfl) hs1)) e3) rfl (callE (args1 rfl) e4)) rfl) ?_)
   have W4 := W3.sameB S4 hwd hid
   obtain ⟨j, q1, q2⟩ := W4.home hv'
   obtain ⟨hsv, hsv0, hsv2⟩ := pok.sv _ (lkp_mem hv')
   dsimp only at hsv2
   have hs2 := sort_dctA q2 strKeys_kvM (by rw [List.length_map]; omega)
   have i0 : ∀ s, ixD (.tup [.str h, .str "nobody", .int x]) (.int 0) s = some (.ok (.str h), s) := fun s => tup_ix (by decide) rfl
   have i2 : ∀ s, ixD (.tup [.str h, .str "nobody", .int x]) (.int 2) s = some (.ok (.int x), s) := fun s => tup_ix (by decide) rfl
   refine r_seqS (r_setS (opNE (args1 (op2E rfl (op2E rfl rfl (i0 s4)) q1)) hs2) ?_)
   have Z5 : Dr d g l (s4 ++ [.lst ((srtS (v'.map Prod.fst)).map D.str)]) := Z4.app
   have W5 : Wld (s4 ++ [.lst ((srtS (v'.map Prod.fst)).map D.str)]) w P ids := W4.same .app
   have h5 : (s4 ++ [Ob.lst ((srtS (v'.map Prod.fst)).map D.str)])[s4.length]? = some (.lst ((srtS (v'.map Prod.fst)).map D.str)) := getN
   have hlt := Z4.lt
   have hpn : s4.length ∉ [d, g] := by
    simp only [List.mem_cons, List.not_mem_nil, or_false, not_or]
    omega
   generalize s4.length = q5 at h5 hpn ⊢
   generalize s4 ++ [Ob.lst ((srtS (v'.map Prod.fst)).map D.str)] = s5 at Z5 W5 h5 ⊢
   obtain ⟨t, s6, e6, _, _, Z6, S6⟩ := take_d (many := 8) Z5 (by decide) (sm (by decide))
   have W6 := W5.sameB S6 hwd hid
   have h6 := S6.eq _ _ h5 hpn
   refine r_seqS (r_ifD (truE (op2E (callE (args2 rfl rfl) e6) rfl gt_int)) (fun _ => ?_) fun _ => r_passS ?_)
   ·have hne2 : (srtS (v'.map Prod.fst)).map D.str ≠ [] := by
     intro e
     have := congrArg List.length e
     rw [List.length_map, srtS_perm.length_eq, List.length_map] at this
     exact hsv0 (List.length_eq_zero_iff.mp this)
    obtain ⟨v, s7, e7, hv, Z7, S7⟩ := pick_d Z6 h6 (fun e => hpn (by rw [e]; simp)) hne2 (by rw [List.length_map, srtS_perm.length_eq, List.length_map]; omega)
    obtain ⟨z, hz, rfl⟩ := List.mem_map.mp hv
    refine r_setS (d := .tup [.str h, .str z, .int x]) (opNE (args3 (op2E rfl rfl (i0 s6)) (callE (args2 rfl rfl) e7) (op2E rfl rfl (i2 s7))) rfl) ?_
    show Runs contB _ _ _
    exact cont_p Z7 (W6.sameB S7 hwd hid) hwd hid OP pok hPl hv' fun s' y3 y5 y6 y7 y8 y9 y10 y11 y12 Zs Ws => ⟨_, _, _, _, _, _, _, _, _, _, rfl, Zs, Ws⟩
   ·show Runs contB _ _ _
    exact cont_p Z6 W6 hwd hid OP pok hPl hv' fun s' y3 y5 y6 y7 y8 y9 y10 y11 y12 Zs Ws => ⟨_, _, _, _, _, _, _, _, _, _, rfl, Zs, Ws⟩
 obtain ⟨v, s, e, rfl⟩ := key
 exact ⟨s, e⟩
end M
namespace M
open PySem PySem.Spec PyProof.Rows L2 G
theorem fun_of {K : PySem.W.Frag} {x qual : Str} {st : Stmt} {f : Addr} {fd : FuncData} (F : FunD K x qual (defArgs st) (defBody st) (defScope st) [] [] f fd) : L2.Fun K x qual st f fd := by
 obtain ⟨oc, od, dV, kV, doc, pm, an, cdv, ct, osl, rfl, lk, hcd, hD, hK⟩ := F.ex
 rcases hD with ⟨_, rfl⟩ | ⟨e, _⟩
 ·exact ⟨⟨oc, od, kV, doc, pm, an, cdv, ct, osl, rfl, lk, hcd⟩, F.kp⟩
 ·exact absurd rfl e
section
variable {K : PySem.W.Frag} {w : World}
theorem tupA_ok {a : Addr} {vs : List V} (h : tupA K a vs = true) : KTup K a vs := by
 unfold tupA at h
 cases q : K.lookup a with
 | none => rw [q] at h; cases h
 | some o =>
  obtain ⟨oc, od, dt, osl⟩ := o
  rw [q] at h
  cases oc with
  | type c =>
   cases dt with
   | seq its n =>
    obtain ⟨h1, h2⟩ := He.ba (show (decide (c = "tuple") && (decide (its.size ≤ sizeLine) && He.relAll vs its.toList)) = true from h)
    obtain ⟨h3, h4⟩ := He.ba h2
    exact ⟨_, its, n, q, congrArg Value.type (of_decide_eq_true h1), rfl, of_decide_eq_true h3, He.relAll_ok h4⟩
   | _ => cases h
  | _ => cases dt <;> cases h
theorem staB_ok (h : staB K = true) : StatK K := by
 unfold staB at h
 cases q : K.lookup cStatics with
 | none => rw [q] at h; cases h
 | some o =>
  obtain ⟨oc, od, dt, osl⟩ := o
  rw [q] at h
  cases dt with
  | dict es n =>
   obtain ⟨h1, h2⟩ := He.ba h
   refine ⟨oc, od, es, n, osl, q, fun e he => ?_, He.eqO_ok h2⟩
   have h3 := List.all_eq_true.mp h1 e he
   cases hk : e.key with
   | str x t => exact ⟨x, t, rfl⟩
   | _ => rw [hk] at h3; cases h3
  | _ => cases h
theorem exc_of {h : Heap} {mg : Str → Option Value} (X : K.In h) (G : h.Ns mainGlobals mg) {x : Str} (c1 : (He.Fa.glo x).ok K = true) (c2 : (He.Fa.exc x).ok K = true) : ExcC K mg x (He.ga K x) := by
 obtain ⟨h1, h2, h3, h4⟩ := He.exc_ok c2
 exact ⟨He.glo_ok X G c1, h1, h2, h3, h4⟩
end
end M
namespace M
open PySem PySem.Spec PyProof.Rows L2 G
section
variable {P : Program} {w : World} {K : PySem.W.Frag} {mg mb : Str → Option Value} {base : Heap} {CX : CXT} {k : Nat} {f : Addr} {fd : FuncData} {ps : List Str} {sp sp' : Sp}
def scrH (K : PySem.W.Frag) (a : Addr) (o : Obj) (ns : List Int) : Hp := fun b => if b = a ∧ (K.lookup a).isNone = true then some (.frz o (.lst (ns.map V.int))) else none
theorem scrH_or {a : Addr} {o : Obj} {ns : List Int} (b : Addr) : scrH K a o ns b = none ∨ (b = a ∧ K.lookup a = none ∧ scrH K a o ns b = some (.frz o (.lst (ns.map V.int)))) := by
 unfold scrH
 by_cases h : b = a ∧ (K.lookup a).isNone = true
 ·exact .inr ⟨h.1, Option.isNone_iff_eq_none.mp h.2, if_pos h⟩
 ·exact .inl (if_neg h)
theorem law_callG {fa a : Addr} {x : Str} {s₁ : Shared} {vs : List Value} {ns : List Int}
  (KX : K.In s₁.heap) (hns : s₁.heap.Ns mainGlobals mg) (hb : s₁.heap.Ns builtinsNs mb) (hbb : ∀ x : Str, x ≠ "__name__" → mb x = bootBuiltins x) (hlim : s₁.heap.NoLimit) (hg : s₁.gens = #[])
  (ha : s₁.heap.get? a = some { cls := .type "list", data := .seq vs.toArray }) (hi : IntsAre vs ns) (hl : ns.length ≤ sizeLine) (hr : Room k callerA)
  (F : ∀ base : Heap, K.In base → base.Ns mainGlobals mg → FnG P w K mg base CX k fa fd [x] sp) (hbind : ∀ (s : Shared) (u : Value), BindsTo s fd ⟨[u], []⟩ [(x, u)])
  (hsp : ∀ H : Hp, Only H → SqL K H a (ns.map V.int) → sp [.ref a] H (fun v _ => v = .bl true) fun _ _ _ => False)
  (hCX : ∀ H e s', CX [] H s₁ (fun _ _ _ => False) e s' → False) :
  codeAny (model P w) callerA (.call (.ref fa) ⟨[.ref a], []⟩) (fun r s' => r = .ok (.ret (.bool true)) ∧ OldK s₁.heap s'.heap ∧ s'.os = s₁.os ∧ AllBare s'.gens) s₁ := by
 generalize ho : ({ cls := .type "list", data := .seq vs.toArray } : Obj) = o at ha
 have or_ := scrH_or (K := K) (a := a) (o := o) (ns := ns)
 generalize hH : scrH K a o ns = H at or_
 have hO : Only H := fun b => (or_ b).imp id fun h => ⟨_, _, h.2.2⟩
 have hok : HOk P w H s₁.heap := fun b u e => by
  rcases or_ b with z | ⟨rfl, _, z⟩
  ·rw [z] at e; cases e
  ·rw [z] at e; cases e
   exact ⟨ha, by rw [List.length_map]; exact hl, vs, _, vals_ints hi, by rw [ha, ← ho]⟩
 have hS : SqL K H a (ns.map V.int) := by
  cases hk : K.lookup a with
  | none => exact .inl (.inr ⟨o, by rw [← hH]; exact if_pos ⟨rfl, by rw [hk]; rfl⟩⟩)
  | some u =>
   have e := KX a u hk
   rw [ha] at e
   cases e
   subst ho
   exact .inr ⟨_, vs.toArray, _, hk, rfl, rfl, rfl, by rw [List.size_toArray, hi.length]; exact hl, by simpa using vals_ints hi⟩
 have free : ∀ {b : Addr} {u : Obj}, s₁.heap.get? b = some u → (∀ (q : Array Value) (n : Nat), u.data ≠ .seq q n) → H b = none := fun {b u} e hd => by
  rcases or_ b with z | ⟨rfl, _, _⟩
  ·exact z
  ·rw [ha] at e; cases e; subst ho; exact absurd rfl (hd _ _)
 have ns_ : ∀ {b : Addr} {m : Str → Option Value}, s₁.heap.Ns b m → (hidT s₁.heap H).Ns b m := fun {b m} ⟨u, es, ep, e, d, r⟩ => ⟨u, es, ep, hidT_get e (free e fun q n z => by rw [d] at z; cases z), d, r⟩
 have kin : K.In (hidT s₁.heap H) := fun b u e => hidT_get (KX b u e) (by
  rcases or_ b with z | ⟨rfl, z, _⟩
  ·exact z
  ·rw [z] at e; cases e)
 have mod : Mod K mg (hidT s₁.heap H) := ⟨kin, ns_ hns, ⟨mb, ns_ hb, hbb⟩, let ⟨mc, h1, h2⟩ := hlim; ⟨mc, ns_ h1, h2⟩⟩
 have e0 : Env0 P w K mg (hidT s₁.heap H) callerA [] s₁ H := ⟨rfl, mod, fun b u e => of_hidT e, Nat.le_of_eq (hidT_size _ _), trivial, fun b hb => absurd (show b ∈ ([] : List Addr) from hb) (by simp), hok, AllBare.of_eq hg⟩
 refine codeAny_mono ((F _ kin (ns_ hns)).run s₁ H [.ref a] [.ref a] _ _ hr e0 (hbind s₁ (.ref a)) (.cons rfl .nil) (hsp H hO hS)) fun r s' h => ?_
 cases r with
 | error e => exact (hCX H e s' h).elim
 | ok fl =>
  cases fl with
  | ret u =>
   obtain ⟨v, H', os, bare, un, hok', r', rfl⟩ := h
   obtain rfl : u = Value.bool true := r'
   refine ⟨rfl, OldK.of_keep fun b u e => ?_, os, bare⟩
   rcases or_ b with z | ⟨rfl, _, z⟩
   ·exact un.keep b u e z (fun z => absurd (show b ∈ ([] : List Addr) from z) (by simp)) (fun z => absurd (show b ∈ ([] : List Addr) from z) (by simp))
   ·have z2 := un.frzs b o _ z
    rw [ha] at e; cases e
    exact (hok' b _ z2).1
  | _ => exact False.elim h
end
theorem walk_ofG {l : PySem.W.OpenLaw} {n k : Nat} {q : Program} {loose : List Str} {XP : (Str → Option Value) → Heap → Prop} {YP : World → Heap → Prop} {d : DefRec} {CX : World → CXT} {x : Str}
  (hn : l.most = some n) (hn2 : n ≤ sizeLine) (hdf : d.params.defaults = []) (hr : Room k callerA)
  (F : ∀ (w : World) (mg : Str → Option Value) (fa : Addr) (h : Heap), YP w h → h.Ns mainGlobals mg → mg d.name = some (.ref fa) →
   ∃ (K : PySem.W.Frag) (fd : FuncData) (sp : Sp), K.In h ∧ (∀ (s : Shared) (u : Value), BindsTo s fd ⟨[u], []⟩ [(x, u)]) ∧
    (∀ (H : Hp) (a : Addr) (ns : List Int), ns.length ≤ n → Only H → SqL K H a (ns.map V.int) → sp [.ref a] H (fun v _ => v = .bl true) fun _ _ _ => False) ∧
    ∀ base : Heap, K.In base → base.Ns mainGlobals mg → FnG l.prog w K mg base (CX w) k fa fd [x] sp)
  (hCX : ∀ (w : World) (H : Hp) (s : Shared) (e : Value) (s' : Shared), CX w [] H s (fun _ _ _ => False) e s' → False) :
  PySem.W.WalkO q loose XP YP l.row.toRowW d [] (fun f vs => PySem.call f vs) := by
 refine Att.attach_call hn hdf fun w s₀ s₁ mg mb fa o pm cd doc a vs ns G Y ho hd hcd hmg hobj hints hlen hg => ?_
 obtain ⟨K, fd, sp, KX, hb, hsp, hF⟩ := F w mg fa _ Y G.T.g hmg
 exact law_callG KX G.T.g G.T.b G.T.builtins G.T.nolimit hg hobj hints (Nat.le_trans hlen hn2) hr hF hb (fun H hO hS => hsp H a ns hlen hO hS) fun H e s' => hCX w H s₁ e s'
end M
namespace G
open PySem PySem.Spec PyProof.Rows L2
def spLaw (K : PySem.W.Frag) : Sp := fun vs H Q _ => ∃ (a : Addr) (ns : List Int), vs = [.ref a] ∧ SqL K H a (ns.map V.int) ∧ ns.length ≤ 63 ∧ ∀ H', Q (.bl true) H'
end G
namespace M
open PySem PySem.Spec PyProof.Rows L2 G
theorem sp_lawK {c : MC} {f : List D → Mo D} (h : ∀ ns : List Int, ns.length ≤ 63 → ∃ st', f [.scr ns] [] = some (.ok (.bl true), st')) : ∀ vs H Q E, G.spLaw c.K vs H Q E → spM c 1 f vs H Q E := sp_law h
end M
namespace G
open PySem PySem.Spec PyProof.Rows L2
abbrev s_PlainTask__init : Stmt := M.s_PlainTask__init
abbrev s_PlainTask_is_through : Stmt := M.s_PlainTask_is_through
abbrev s_PlainRun__init : Stmt := M.s_PlainRun__init
abbrev s_PlainRun_begin : Stmt := M.s_PlainRun_begin
abbrev s_PlainRun_finish_top : Stmt := M.s_PlainRun_finish_top
abbrev s_PlainRun_come_back : Stmt := M.s_PlainRun_come_back
abbrev s_PlainRun_do_step : Stmt := M.s_PlainRun_do_step
abbrev s_PlainRun_go_on : Stmt := M.s_PlainRun_go_on
abbrev s_PlainRun_is_spent : Stmt := M.s_PlainRun_is_spent
abbrev s_plain : Stmt := M.s_plain
abbrev s_law_begun : Stmt := M.s_law_begun
abbrev s_law_take : Stmt := M.s_law_take
abbrev s_law_pick : Stmt := M.s_law_pick
abbrev s_law_words : Stmt := M.s_law_words
abbrev s_law_number : Stmt := M.s_law_number
abbrev s_law_step : Stmt := M.s_law_step
abbrev s_law_service : Stmt := M.s_law_service
abbrev s_law_plan : Stmt := M.s_law_plan
abbrev s_law_came_back : Stmt := M.s_law_came_back
abbrev s_law_goes : Stmt := M.s_law_goes
abbrev s_law_plain : Stmt := M.s_law_plain
abbrev s_law : Stmt := M.s_law
def mkC (K : PySem.W.Frag) (w : World) (C_PlainTask : Addr) (C_PlainRun : Addr) (E_NoHouse : Addr) : M.MC := { K := K, w := w, ca := fun i => match i with | 18 => C_PlainTask | 19 => C_PlainRun | 8 => E_NoHouse | _ => 0, fa := fun i => match i with | _ => 0, nm := M.nmOf M.FN, inj := M.nmOf_inj (by decide +kernel) (by decide +kernel) }
theorem all_mk {l : PySem.W.OpenLaw} {w : World} {K : PySem.W.Frag} {h : Heap} {mg : Str → Option Value} {C_PlainTask f1 f2 C_PlainRun f3 f4 f5 f6 f7 f8 f9 f10 p10_pieces f11 f12 f13 f14 f15 f16 f17 f18 f19 f20 f21 f22 E_NoHouse : Addr} (X : K.In h) (G : h.Ns mainGlobals mg)
  (cl_PlainTask : Cls K C_PlainTask)
  (gC_PlainTask : mg "PlainTask" = some (.ref C_PlainTask))
  (na_PlainTask_home : NoAttr K C_PlainTask "home")
  (na_PlainTask_steps : NoAttr K C_PlainTask "steps")
  (na_PlainTask_worth : NoAttr K C_PlainTask "worth")
  (na_PlainTask_pieces : NoAttr K C_PlainTask "pieces")
  (na_PlainTask_place : NoAttr K C_PlainTask "place")
  (D1 : ∃ fd, L2.FunD K "__init__" "PlainTask.__init__" (defArgs s_PlainTask__init) (defBody s_PlainTask__init) (defScope s_PlainTask__init) [] [] f1 fd)
  (M_PlainTask : Mk K C_PlainTask f1)
  (D2 : ∃ fd, L2.FunD K "is_through" "PlainTask.is_through" (defArgs s_PlainTask_is_through) (defBody s_PlainTask_is_through) (defScope s_PlainTask_is_through) [] [] f2 fd)
  (me_PlainTask_is_through : L2.Meth K C_PlainTask "is_through" f2)
  (cl_PlainRun : Cls K C_PlainRun)
  (gC_PlainRun : mg "PlainRun" = some (.ref C_PlainRun))
  (na_PlainRun_plan : NoAttr K C_PlainRun "plan")
  (na_PlainRun_pieces : NoAttr K C_PlainRun "pieces")
  (na_PlainRun_left : NoAttr K C_PlainRun "left")
  (na_PlainRun_stores : NoAttr K C_PlainRun "stores")
  (na_PlainRun_given : NoAttr K C_PlainRun "given")
  (na_PlainRun_pile : NoAttr K C_PlainRun "pile")
  (na_PlainRun_last : NoAttr K C_PlainRun "last")
  (D3 : ∃ fd, L2.FunD K "__init__" "PlainRun.__init__" (defArgs s_PlainRun__init) (defBody s_PlainRun__init) (defScope s_PlainRun__init) [] [] f3 fd)
  (M_PlainRun : Mk K C_PlainRun f3)
  (D4 : ∃ fd, L2.FunD K "begin" "PlainRun.begin" (defArgs s_PlainRun_begin) (defBody s_PlainRun_begin) (defScope s_PlainRun_begin) [] [] f4 fd)
  (me_PlainRun_begin : L2.Meth K C_PlainRun "begin" f4)
  (D5 : ∃ fd, L2.FunD K "finish_top" "PlainRun.finish_top" (defArgs s_PlainRun_finish_top) (defBody s_PlainRun_finish_top) (defScope s_PlainRun_finish_top) [] [] f5 fd)
  (me_PlainRun_finish_top : L2.Meth K C_PlainRun "finish_top" f5)
  (D6 : ∃ fd, L2.FunD K "come_back" "PlainRun.come_back" (defArgs s_PlainRun_come_back) (defBody s_PlainRun_come_back) (defScope s_PlainRun_come_back) [] [] f6 fd)
  (me_PlainRun_come_back : L2.Meth K C_PlainRun "come_back" f6)
  (D7 : ∃ fd, L2.FunD K "do_step" "PlainRun.do_step" (defArgs s_PlainRun_do_step) (defBody s_PlainRun_do_step) (defScope s_PlainRun_do_step) [] [] f7 fd)
  (me_PlainRun_do_step : L2.Meth K C_PlainRun "do_step" f7)
  (D8 : ∃ fd, L2.FunD K "go_on" "PlainRun.go_on" (defArgs s_PlainRun_go_on) (defBody s_PlainRun_go_on) (defScope s_PlainRun_go_on) [] [] f8 fd)
  (me_PlainRun_go_on : L2.Meth K C_PlainRun "go_on" f8)
  (D9 : ∃ fd, L2.FunD K "is_spent" "PlainRun.is_spent" (defArgs s_PlainRun_is_spent) (defBody s_PlainRun_is_spent) (defScope s_PlainRun_is_spent) [] [] f9 fd)
  (me_PlainRun_is_spent : L2.Meth K C_PlainRun "is_spent" f9)
  (hp10_pieces : KTup K p10_pieces ([] : List V))
  (D10 : ∃ fd, L2.FunD K "plain" "plain" (defArgs s_plain) (defBody s_plain) (defScope s_plain) [.ref p10_pieces] [("most", .int 300)] f10 fd)
  (g_plain : mg "plain" = some (.ref f10))
  (D11 : ∃ fd, L2.FunD K "_law_begun" "_law_begun" (defArgs s_law_begun) (defBody s_law_begun) (defScope s_law_begun) [] [] f11 fd)
  (g_law_begun : mg "_law_begun" = some (.ref f11))
  (D12 : ∃ fd, L2.FunD K "_law_take" "_law_take" (defArgs s_law_take) (defBody s_law_take) (defScope s_law_take) [] [] f12 fd)
  (g_law_take : mg "_law_take" = some (.ref f12))
  (D13 : ∃ fd, L2.FunD K "_law_pick" "_law_pick" (defArgs s_law_pick) (defBody s_law_pick) (defScope s_law_pick) [] [] f13 fd)
  (g_law_pick : mg "_law_pick" = some (.ref f13))
  (D14 : ∃ fd, L2.FunD K "_law_words" "_law_words" (defArgs s_law_words) (defBody s_law_words) (defScope s_law_words) [] [] f14 fd)
  (g_law_words : mg "_law_words" = some (.ref f14))
  (D15 : ∃ fd, L2.FunD K "_law_number" "_law_number" (defArgs s_law_number) (defBody s_law_number) (defScope s_law_number) [] [] f15 fd)
  (g_law_number : mg "_law_number" = some (.ref f15))
  (D16 : ∃ fd, L2.FunD K "_law_step" "_law_step" (defArgs s_law_step) (defBody s_law_step) (defScope s_law_step) [] [] f16 fd)
  (g_law_step : mg "_law_step" = some (.ref f16))
  (D17 : ∃ fd, L2.FunD K "_law_service" "_law_service" (defArgs s_law_service) (defBody s_law_service) (defScope s_law_service) [] [] f17 fd)
  (g_law_service : mg "_law_service" = some (.ref f17))
  (D18 : ∃ fd, L2.FunD K "_law_plan" "_law_plan" (defArgs s_law_plan) (defBody s_law_plan) (defScope s_law_plan) [] [] f18 fd)
  (g_law_plan : mg "_law_plan" = some (.ref f18))
  (D19 : ∃ fd, L2.FunD K "_law_came_back" "_law_came_back" (defArgs s_law_came_back) (defBody s_law_came_back) (defScope s_law_came_back) [] [] f19 fd)
  (g_law_came_back : mg "_law_came_back" = some (.ref f19))
  (D20 : ∃ fd, L2.FunD K "_law_goes" "_law_goes" (defArgs s_law_goes) (defBody s_law_goes) (defScope s_law_goes) [] [] f20 fd)
  (g_law_goes : mg "_law_goes" = some (.ref f20))
  (D21 : ∃ fd, L2.FunD K "_law_plain" "_law_plain" (defArgs s_law_plain) (defBody s_law_plain) (defScope s_law_plain) [] [] f21 fd)
  (g_law_plain : mg "_law_plain" = some (.ref f21))
  (D22 : ∃ fd, L2.FunD K "law" "law" (defArgs s_law) (defBody s_law) (defScope s_law) [] [] f22 fd)
  (g_law : mg "law" = some (.ref f22))
  (z_STAT : StatK K)
  (z_abs : mg "abs" = none)
  (z_int : mg "int" = none)
  (z_isinstance : mg "isinstance" = none)
  (z_len : mg "len" = none)
  (z_list : mg "list" = none)
  (z_range : mg "range" = none)
  (z_repr : mg "repr" = none)
  (z_sorted : mg "sorted" = none)
  (z_tuple : mg "tuple" = none)
  (e_NoHouse : ExcC K mg "NoHouse" E_NoHouse)
  : ∃ fd : FuncData, (∀ (s : Shared) (v : Value), BindsTo s fd ⟨[v], []⟩ [("_law_script", v)]) ∧ ∀ base : Heap, K.In base → base.Ns mainGlobals mg → M.FnG l.prog w K mg base (L2.CX l.prog w) 6 f22 fd ["_law_script"] (spLaw K) := by
 obtain ⟨fd1, D1⟩ := D1
 have k1 : PySem.W.keepIn K (.ref f1) = true := D1.kp
 have F_PlainTask__init := M.fun_of D1
 obtain ⟨fd2, D2⟩ := D2
 have k2 : PySem.W.keepIn K (.ref f2) = true := D2.kp
 have F_PlainTask_is_through := M.fun_of D2
 obtain ⟨fd3, D3⟩ := D3
 have k3 : PySem.W.keepIn K (.ref f3) = true := D3.kp
 have F_PlainRun__init := M.fun_of D3
 obtain ⟨fd4, D4⟩ := D4
 have k4 : PySem.W.keepIn K (.ref f4) = true := D4.kp
 have F_PlainRun_begin := M.fun_of D4
 obtain ⟨fd5, D5⟩ := D5
 have k5 : PySem.W.keepIn K (.ref f5) = true := D5.kp
 have F_PlainRun_finish_top := M.fun_of D5
 obtain ⟨fd6, D6⟩ := D6
 have k6 : PySem.W.keepIn K (.ref f6) = true := D6.kp
 have F_PlainRun_come_back := M.fun_of D6
 obtain ⟨fd7, D7⟩ := D7
 have k7 : PySem.W.keepIn K (.ref f7) = true := D7.kp
 have F_PlainRun_do_step := M.fun_of D7
 obtain ⟨fd8, D8⟩ := D8
 have k8 : PySem.W.keepIn K (.ref f8) = true := D8.kp
 have F_PlainRun_go_on := M.fun_of D8
 obtain ⟨fd9, D9⟩ := D9
 have k9 : PySem.W.keepIn K (.ref f9) = true := D9.kp
 have F_PlainRun_is_spent := M.fun_of D9
 obtain ⟨fd10, D10⟩ := D10
 have k10 : PySem.W.keepIn K (.ref f10) = true := D10.kp
 have F_plain := D10
 obtain ⟨fd11, D11⟩ := D11
 have k11 : PySem.W.keepIn K (.ref f11) = true := D11.kp
 have F_law_begun := M.fun_of D11
 obtain ⟨fd12, D12⟩ := D12
 have k12 : PySem.W.keepIn K (.ref f12) = true := D12.kp
 have F_law_take := M.fun_of D12
 obtain ⟨fd13, D13⟩ := D13
 have k13 : PySem.W.keepIn K (.ref f13) = true := D13.kp
 have F_law_pick := M.fun_of D13
 obtain ⟨fd14, D14⟩ := D14
 have k14 : PySem.W.keepIn K (.ref f14) = true := D14.kp
 have F_law_words := M.fun_of D14
 obtain ⟨fd15, D15⟩ := D15
 have k15 : PySem.W.keepIn K (.ref f15) = true := D15.kp
 have F_law_number := M.fun_of D15
 obtain ⟨fd16, D16⟩ := D16
 have k16 : PySem.W.keepIn K (.ref f16) = true := D16.kp
 have F_law_step := M.fun_of D16
 obtain ⟨fd17, D17⟩ := D17
 have k17 : PySem.W.keepIn K (.ref f17) = true := D17.kp
 have F_law_service := M.fun_of D17
 obtain ⟨fd18, D18⟩ := D18
 have k18 : PySem.W.keepIn K (.ref f18) = true := D18.kp
 have F_law_plan := M.fun_of D18
 obtain ⟨fd19, D19⟩ := D19
 have k19 : PySem.W.keepIn K (.ref f19) = true := D19.kp
 have F_law_came_back := M.fun_of D19
 obtain ⟨fd20, D20⟩ := D20
 have k20 : PySem.W.keepIn K (.ref f20) = true := D20.kp
 have F_law_goes := M.fun_of D20
 obtain ⟨fd21, D21⟩ := D21
 have k21 : PySem.W.keepIn K (.ref f21) = true := D21.kp
 have F_law_plain := M.fun_of D21
 obtain ⟨fd22, D22⟩ := D22
 have k22 : PySem.W.keepIn K (.ref f22) = true := D22.kp
 have F_law := M.fun_of D22
 have bL := FunD.bindsA (ps := ["_law_script"]) D22 fun _ _ _ _ _ _ us hl => match us, hl with | [_], _ => rfl
 refine ⟨fd22, fun s v => bL s [v] rfl, fun base _ _ => ?_⟩
 let c0 : M.MC := mkC K w C_PlainTask C_PlainRun E_NoHouse
 have h_PlainTask__init := M.ok_PlainTask__init (c := c0) (P := l.prog) (w := w) (mg := mg) (base := base) ⟨cl_PlainTask, na_PlainTask_home⟩ rfl ⟨cl_PlainTask, na_PlainTask_steps⟩ ⟨cl_PlainTask, na_PlainTask_worth⟩ z_list ⟨cl_PlainTask, na_PlainTask_pieces⟩ ⟨cl_PlainRun, na_PlainRun_pieces⟩ ⟨cl_PlainTask, na_PlainTask_place⟩ rfl F_PlainTask__init
 have q_PlainTask__init_4 : M.MakB (c0) l.prog w K mg base 1 "PlainTask" 18 5 [] (M.gK []) M.m_PlainTask__init := ⟨⟨_, _, _, M_PlainTask, h_PlainTask__init, gC_PlainTask, M.bnd_kw F_PlainTask__init 5 [] [] (fun _ _ _ _ _ _ us ws h1 h2 => match us, ws, h1, h2 with | [_, _, _, _, _], [], _, _ => rfl), M.runF_len⟩⟩
 have h_PlainTask_is_through := M.ok_PlainTask_is_through (c := c0) (P := l.prog) (w := w) (mg := mg) (base := base) ⟨cl_PlainTask, na_PlainTask_place⟩ rfl ⟨cl_PlainTask, na_PlainTask_steps⟩ z_len rfl F_PlainTask_is_through
 have q_PlainTask_is_through_0 : M.MetB (c0) l.prog w K mg base 1 18 "is_through" 1 [] (M.gK []) M.m_PlainTask_is_through := ⟨⟨_, _, _, cl_PlainTask, me_PlainTask_is_through, h_PlainTask_is_through, M.bnd_kw F_PlainTask_is_through 1 [] [] (fun _ _ _ _ _ _ us ws h1 h2 => match us, ws, h1, h2 with | [_], [], _, _ => rfl), M.runF_len⟩⟩
 have h_PlainRun__init := M.ok_PlainRun__init (c := c0) (P := l.prog) (w := w) (mg := mg) (base := base) ⟨cl_PlainRun, na_PlainRun_plan⟩ rfl ⟨cl_PlainTask, na_PlainTask_pieces⟩ ⟨cl_PlainRun, na_PlainRun_pieces⟩ ⟨cl_PlainRun, na_PlainRun_left⟩ ⟨cl_PlainRun, na_PlainRun_stores⟩ ⟨cl_PlainRun, na_PlainRun_given⟩ ⟨cl_PlainRun, na_PlainRun_pile⟩ ⟨cl_PlainRun, na_PlainRun_last⟩ rfl F_PlainRun__init
 have q_PlainRun__init_3 : M.MakB (c0) l.prog w K mg base 1 "PlainRun" 19 4 [] (M.gK []) M.m_PlainRun__init := ⟨⟨_, _, _, M_PlainRun, h_PlainRun__init, gC_PlainRun, M.bnd_kw F_PlainRun__init 4 [] [] (fun _ _ _ _ _ _ us ws h1 h2 => match us, ws, h1, h2 with | [_, _, _, _], [], _, _ => rfl), M.runF_len⟩⟩
 have h_PlainRun_begin := M.ok_PlainRun_begin (c := c0) (P := l.prog) (w := w) (mg := mg) (base := base) ⟨cl_PlainRun, na_PlainRun_plan⟩ rfl ⟨cl_PlainRun, na_PlainRun_last⟩ ⟨cl_PlainRun, na_PlainRun_pile⟩ ⟨cl_PlainTask, na_PlainTask_pieces⟩ ⟨cl_PlainRun, na_PlainRun_pieces⟩ q_PlainTask__init_4 rfl F_PlainRun_begin
 have q_PlainRun_begin_3 : M.MetB (c0) l.prog w K mg base 3 19 "begin" 4 [] (M.gK []) M.m_PlainRun_begin := ⟨⟨_, _, _, cl_PlainRun, me_PlainRun_begin, h_PlainRun_begin, M.bnd_kw F_PlainRun_begin 4 [] [] (fun _ _ _ _ _ _ us ws h1 h2 => match us, ws, h1, h2 with | [_, _, _, _], [], _, _ => rfl), M.runF_len⟩⟩
 have h_PlainRun_finish_top := M.ok_PlainRun_finish_top (c := c0) (P := l.prog) (w := w) (mg := mg) (base := base) ⟨cl_PlainRun, na_PlainRun_pile⟩ rfl ⟨cl_PlainRun, na_PlainRun_last⟩ rfl F_PlainRun_finish_top
 have q_PlainRun_finish_top_2 : M.MetB (c0) l.prog w K mg base 1 19 "finish_top" 3 [] (M.gK []) M.m_PlainRun_finish_top := ⟨⟨_, _, _, cl_PlainRun, me_PlainRun_finish_top, h_PlainRun_finish_top, M.bnd_kw F_PlainRun_finish_top 3 [] [] (fun _ _ _ _ _ _ us ws h1 h2 => match us, ws, h1, h2 with | [_, _, _], [], _, _ => rfl), M.runF_len⟩⟩
 have h_PlainRun_come_back := M.ok_PlainRun_come_back (c := c0) (P := l.prog) (w := w) (mg := mg) (base := base) ⟨cl_PlainRun, na_PlainRun_last⟩ rfl q_PlainRun_finish_top_2 ⟨cl_PlainTask, na_PlainTask_worth⟩ ⟨cl_PlainTask, na_PlainTask_place⟩ rfl F_PlainRun_come_back
 have q_PlainRun_come_back_1 : M.MetB (c0) l.prog w K mg base 2 19 "come_back" 2 [] (M.gK []) M.m_PlainRun_come_back := ⟨⟨_, _, _, cl_PlainRun, me_PlainRun_come_back, h_PlainRun_come_back, M.bnd_kw F_PlainRun_come_back 2 [] [] (fun _ _ _ _ _ _ us ws h1 h2 => match us, ws, h1, h2 with | [_, _], [], _, _ => rfl), M.runF_len⟩⟩
 have h_PlainRun_do_step := M.ok_PlainRun_do_step (c := c0) (P := l.prog) (w := w) (mg := mg) (base := base) ⟨cl_PlainRun, na_PlainRun_stores⟩ rfl ⟨cl_PlainTask, na_PlainTask_home⟩ ⟨cl_PlainTask, na_PlainTask_worth⟩ ⟨cl_PlainTask, na_PlainTask_pieces⟩ ⟨cl_PlainRun, na_PlainRun_pieces⟩ z_STAT z_int ⟨cl_PlainRun, na_PlainRun_pile⟩ z_len ⟨cl_PlainRun, na_PlainRun_given⟩ ⟨cl_PlainTask, na_PlainTask_place⟩ ⟨cl_PlainTask, na_PlainTask_steps⟩ rfl F_PlainRun_do_step
 have q_PlainRun_do_step_2 : M.MetB (c0) l.prog w K mg base 1 19 "do_step" 3 [] (M.gK []) M.m_PlainRun_do_step := ⟨⟨_, _, _, cl_PlainRun, me_PlainRun_do_step, h_PlainRun_do_step, M.bnd_kw F_PlainRun_do_step 3 [] [] (fun _ _ _ _ _ _ us ws h1 h2 => match us, ws, h1, h2 with | [_, _, _], [], _, _ => rfl), M.runF_len⟩⟩
 have h_PlainRun_go_on := M.ok_PlainRun_go_on (c := c0) (P := l.prog) (w := w) (mg := mg) (base := base) ⟨cl_PlainRun, na_PlainRun_pile⟩ rfl ⟨cl_PlainRun, na_PlainRun_last⟩ q_PlainRun_come_back_1 q_PlainTask_is_through_0 q_PlainRun_finish_top_2 ⟨cl_PlainTask, na_PlainTask_worth⟩ ⟨cl_PlainRun, na_PlainRun_left⟩ ⟨cl_PlainTask, na_PlainTask_steps⟩ ⟨cl_PlainTask, na_PlainTask_place⟩ q_PlainRun_begin_3 q_PlainRun_do_step_2 rfl F_PlainRun_go_on
 have q_PlainRun_go_on_0 : M.MetB (c0) l.prog w K mg base 4 19 "go_on" 1 [] (M.gK []) M.m_PlainRun_go_on := ⟨⟨_, _, _, cl_PlainRun, me_PlainRun_go_on, h_PlainRun_go_on, M.bnd_kw F_PlainRun_go_on 1 [] [] (fun _ _ _ _ _ _ us ws h1 h2 => match us, ws, h1, h2 with | [_], [], _, _ => rfl), M.runF_len⟩⟩
 have h_PlainRun_is_spent := M.ok_PlainRun_is_spent (c := c0) (P := l.prog) (w := w) (mg := mg) (base := base) ⟨cl_PlainRun, na_PlainRun_left⟩ rfl ⟨cl_PlainRun, na_PlainRun_last⟩ ⟨cl_PlainRun, na_PlainRun_pile⟩ q_PlainTask_is_through_0 rfl F_PlainRun_is_spent
 have q_PlainRun_is_spent_0 : M.MetB (c0) l.prog w K mg base 2 19 "is_spent" 1 [] (M.gK []) M.m_PlainRun_is_spent := ⟨⟨_, _, _, cl_PlainRun, me_PlainRun_is_spent, h_PlainRun_is_spent, M.bnd_kw F_PlainRun_is_spent 1 [] [] (fun _ _ _ _ _ _ us ws h1 h2 => match us, ws, h1, h2 with | [_], [], _, _ => rfl), M.runF_len⟩⟩
 have h_plain := M.ok_plain (c := c0) (P := l.prog) (w := w) (mg := mg) (base := base) e_NoHouse q_PlainRun__init_3 q_PlainRun_begin_3 rfl ⟨cl_PlainRun, na_PlainRun_pile⟩ q_PlainRun_is_spent_0 ⟨cl_PlainRun, na_PlainRun_given⟩ z_tuple ⟨cl_PlainRun, na_PlainRun_stores⟩ q_PlainRun_go_on_0 ⟨cl_PlainRun, na_PlainRun_last⟩ rfl F_plain
 have q_plain_5_most : M.CalB (c0) l.prog w K mg base 5 "plain" 5 ["most"] (M.gKD [.kt []] [0]) M.m_plain := ⟨⟨_, _, _, h_plain, g_plain, k10, M.bnd_dk F_plain 5 ["most"] [] [0] [.kt []] (List.cons_ne_nil _ _) (List.cons_ne_nil _ _) (fun q h => nomatch h) (fun _ _ => .cons (.kt hp10_pieces (.nil)) (.nil)) (fun _ _ _ _ _ _ _ us its mv ws h1 h2 h3 h4 => match us, its, mv, ws, h1, h2, h3, h4 with | [_, _, _, _, _], [_], [], [_], _, _, _, _ => by exact ⟨_, rfl, (M.kwc_nil rfl)⟩), M.runF_len⟩⟩
 have q_plain_5 : M.CalB (c0) l.prog w K mg base 5 "plain" 5 [] (M.gKD [.kt [], .int 300] [1]) M.m_plain := ⟨⟨_, _, _, h_plain, g_plain, k10, M.bnd_dk F_plain 5 [] [("most", .int 300)] [1] [.kt [], .int 300] (List.cons_ne_nil _ _) (List.cons_ne_nil _ _) (fun q h => by simp at h ⊢; first | exact h | (rcases h with h | h <;> simp [h]; done) | (rcases h with h | h | h <;> simp [h]; done) | (simp [h]; done)) (fun _ _ => .cons (.kt hp10_pieces (.nil)) (.cons (.int _) (.nil))) (fun _ _ _ _ _ _ _ us its mv ws h1 h2 h3 h4 => match us, its, mv, ws, h1, h2, h3, h4 with | [_, _, _, _, _], [_], [_], [], _, _, _, _ => by exact ⟨_, rfl, (M.kwc_cons rfl rfl (M.kwc_nil rfl))⟩), M.runF_len⟩⟩
 have q_plain_0_most_value_plan_service_house : M.CalB (c0) l.prog w K mg base 5 "plain" 0 ["most", "value", "plan", "service", "house"] (M.gKD [.kt []] [2, 4, 3, 1, 5, 0]) M.m_plain := ⟨⟨_, _, _, h_plain, g_plain, k10, M.bnd_dk F_plain 0 ["most", "value", "plan", "service", "house"] [] [2, 4, 3, 1, 5, 0] [.kt []] (List.cons_ne_nil _ _) (List.cons_ne_nil _ _) (fun q h => nomatch h) (fun _ _ => .cons (.kt hp10_pieces (.nil)) (.nil)) (fun _ _ _ _ _ _ _ us its mv ws h1 h2 h3 h4 => match us, its, mv, ws, h1, h2, h3, h4 with | [], [_], [], [_, _, _, _, _], _, _, _, _ => by exact ⟨_, rfl, (M.kwc_nil rfl)⟩), M.runF_len⟩⟩
 have h_law_begun := M.ok_law_begun (c := c0) (P := l.prog) (w := w) (mg := mg) (base := base) z_abs rfl F_law_begun
 have q_law_begun_1 : M.CalB (c0) l.prog w K mg base 1 "_law_begun" 1 [] (M.gK []) M.m_law_begun := ⟨⟨_, _, _, h_law_begun, g_law_begun, k11, M.bnd_kw F_law_begun 1 [] [] (fun _ _ _ _ _ _ us ws h1 h2 => match us, ws, h1, h2 with | [_], [], _, _ => rfl), M.runF_len⟩⟩
 have h_law_take := M.ok_law_take (c := c0) (P := l.prog) (w := w) (mg := mg) (base := base) z_len rfl F_law_take
 have q_law_take_2 : M.CalB (c0) l.prog w K mg base 1 "_law_take" 2 [] (M.gK []) M.m_law_take := ⟨⟨_, _, _, h_law_take, g_law_take, k12, M.bnd_kw F_law_take 2 [] [] (fun _ _ _ _ _ _ us ws h1 h2 => match us, ws, h1, h2 with | [_, _], [], _, _ => rfl), M.runF_len⟩⟩
 have h_law_pick := M.ok_law_pick (c := c0) (P := l.prog) (w := w) (mg := mg) (base := base) q_law_take_2 z_len rfl F_law_pick
 have q_law_pick_2 : M.CalB (c0) l.prog w K mg base 2 "_law_pick" 2 [] (M.gK []) M.m_law_pick := ⟨⟨_, _, _, h_law_pick, g_law_pick, k13, M.bnd_kw F_law_pick 2 [] [] (fun _ _ _ _ _ _ us ws h1 h2 => match us, ws, h1, h2 with | [_, _], [], _, _ => rfl), M.runF_len⟩⟩
 have h_law_words := M.ok_law_words (c := c0) (P := l.prog) (w := w) (mg := mg) (base := base) q_law_take_2 z_len z_range rfl F_law_words
 have q_law_words_2 : M.CalB (c0) l.prog w K mg base 2 "_law_words" 2 [] (M.gK []) M.m_law_words := ⟨⟨_, _, _, h_law_words, g_law_words, k14, M.bnd_kw F_law_words 2 [] [] (fun _ _ _ _ _ _ us ws h1 h2 => match us, ws, h1, h2 with | [_, _], [], _, _ => rfl), M.runF_len⟩⟩
 have h_law_number := M.ok_law_number (c := c0) (P := l.prog) (w := w) (mg := mg) (base := base) q_law_take_2 rfl F_law_number
 have q_law_number_1 : M.CalB (c0) l.prog w K mg base 2 "_law_number" 1 [] (M.gK []) M.m_law_number := ⟨⟨_, _, _, h_law_number, g_law_number, k15, M.bnd_kw F_law_number 1 [] [] (fun _ _ _ _ _ _ us ws h1 h2 => match us, ws, h1, h2 with | [_], [], _, _ => rfl), M.runF_len⟩⟩
 have h_law_step := M.ok_law_step (c := c0) (P := l.prog) (w := w) (mg := mg) (base := base) q_law_take_2 q_law_pick_2 q_law_number_1 rfl F_law_step
 have q_law_step_4 : M.CalB (c0) l.prog w K mg base 3 "_law_step" 4 [] (M.gK []) M.m_law_step := ⟨⟨_, _, _, h_law_step, g_law_step, k16, M.bnd_kw F_law_step 4 [] [] (fun _ _ _ _ _ _ us ws h1 h2 => match us, ws, h1, h2 with | [_, _, _, _], [], _, _ => rfl), M.runF_len⟩⟩
 have h_law_service := M.ok_law_service (c := c0) (P := l.prog) (w := w) (mg := mg) (base := base) q_law_take_2 q_law_pick_2 z_range q_law_step_4 z_tuple rfl F_law_service
 have q_law_service_3 : M.CalB (c0) l.prog w K mg base 4 "_law_service" 3 [] (M.gK []) M.m_law_service := ⟨⟨_, _, _, h_law_service, g_law_service, k17, M.bnd_kw F_law_service 3 [] [] (fun _ _ _ _ _ _ us ws h1 h2 => match us, ws, h1, h2 with | [_, _, _], [], _, _ => rfl), M.runF_len⟩⟩
 have h_law_plan := M.ok_law_plan (c := c0) (P := l.prog) (w := w) (mg := mg) (base := base) q_law_words_2 q_law_take_2 q_law_service_3 rfl F_law_plan
 have q_law_plan_2 : M.CalB (c0) l.prog w K mg base 5 "_law_plan" 2 [] (M.gK []) M.m_law_plan := ⟨⟨_, _, _, h_law_plan, g_law_plan, k18, M.bnd_kw F_law_plan 2 [] [] (fun _ _ _ _ _ _ us ws h1 h2 => match us, ws, h1, h2 with | [_, _], [], _, _ => rfl), M.runF_len⟩⟩
 have h_law_came_back := M.ok_law_came_back (c := c0) (P := l.prog) (w := w) (mg := mg) (base := base)  rfl F_law_came_back
 have q_law_came_back_2 : M.CalB (c0) l.prog w K mg base 1 "_law_came_back" 2 [] (M.gK []) M.m_law_came_back := ⟨⟨_, _, _, h_law_came_back, g_law_came_back, k19, M.bnd_kw F_law_came_back 2 [] [] (fun _ _ _ _ _ _ us ws h1 h2 => match us, ws, h1, h2 with | [_, _], [], _, _ => rfl), M.runF_len⟩⟩
 have h_law_goes := M.ok_law_goes (c := c0) (P := l.prog) (w := w) (mg := mg) (base := base)  rfl F_law_goes
 have q_law_goes_4 : M.CalB (c0) l.prog w K mg base 1 "_law_goes" 4 [] (M.gK []) M.m_law_goes := ⟨⟨_, _, _, h_law_goes, g_law_goes, k20, M.bnd_kw F_law_goes 4 [] [] (fun _ _ _ _ _ _ us ws h1 h2 => match us, ws, h1, h2 with | [_, _, _, _], [], _, _ => rfl), M.runF_len⟩⟩
 have h_law_plain := M.ok_law_plain (c := c0) (P := l.prog) (w := w) (mg := mg) (base := base) z_list q_law_came_back_2 z_len z_tuple q_law_goes_4 rfl F_law_plain
 have q_law_plain_3 : M.CalB (c0) l.prog w K mg base 2 "_law_plain" 3 [] (M.gK []) M.m_law_plain := ⟨⟨_, _, _, h_law_plain, g_law_plain, k21, M.bnd_kw F_law_plain 3 [] [] (fun _ _ _ _ _ _ us ws h1 h2 => match us, ws, h1, h2 with | [_, _, _], [], _, _ => rfl), M.runF_len⟩⟩
 have h_law := M.ok_law (c := c0) (P := l.prog) (w := w) (mg := mg) (base := base) q_law_begun_1 q_law_plan_2 z_range q_law_pick_2 z_sorted q_law_number_1 q_law_take_2 z_repr q_law_plain_3 q_plain_5_most z_tuple z_isinstance q_plain_5 z_list q_plain_0_most_value_plan_service_house rfl F_law
 exact h_law.imp (M.sp_lawK (c := c0) (f := M.m_law) fun ns hl => M.law_ok hl)
end G
namespace Hd
open PySem PySem.Spec PyProof.Rows L2 G
theorem facts {l : PySem.W.OpenLaw} {w : World} {K : PySem.W.Frag} {h : Heap} {mg : Str → Option Value} {fa : Addr} (X : K.In h) (GN : h.Ns mainGlobals mg) (hfa : mg "law" = some (.ref fa)) (c : M.SaysH hx fn ts w K) :
  ∃ fd : FuncData, (∀ (s : Shared) (v : Value), BindsTo s fd ⟨[v], []⟩ [("_law_script", v)]) ∧ ∀ base : Heap, K.In base → base.Ns mainGlobals mg → M.FnG l.prog w K mg base (L2.CX l.prog w) 6 fa fd ["_law_script"] (G.spLaw K) := by
 have e := hfa.symm.trans (He.glo_ok X GN (x := "law") (c.fact 1 13 rfl rfl))
 cases e
 exact G.all_mk (l := l) (w := w) (K := K) (h := h) (mg := mg) (C_PlainTask := He.ga K "PlainTask") (f1 := He.fAd K ("PlainTask", some "__init__")) (f2 := He.fAd K ("PlainTask", some "is_through")) (C_PlainRun := He.ga K "PlainRun") (f3 := He.fAd K ("PlainRun", some "__init__")) (f4 := He.fAd K ("PlainRun", some "begin")) (f5 := He.fAd K ("PlainRun", some "finish_top")) (f6 := He.fAd K ("PlainRun", some "come_back")) (f7 := He.fAd K ("PlainRun", some "do_step")) (f8 := He.fAd K ("PlainRun", some "go_on")) (f9 := He.fAd K ("PlainRun", some "is_spent")) (f10 := He.fAd K ("plain", none)) (p10_pieces := He.dflAt ("plain", none) 0 K) (f11 := He.fAd K ("_law_begun", none)) (f12 := He.fAd K ("_law_take", none)) (f13 := He.fAd K ("_law_pick", none)) (f14 := He.fAd K ("_law_words", none)) (f15 := He.fAd K ("_law_number", none)) (f16 := He.fAd K ("_law_step", none)) (f17 := He.fAd K ("_law_service", none)) (f18 := He.fAd K ("_law_plan", none)) (f19 := He.fAd K ("_law_came_back", none)) (f20 := He.fAd K ("_law_goes", none)) (f21 := He.fAd K ("_law_plain", none)) (f22 := He.fAd K ("law", none)) (E_NoHouse := He.ga K "NoHouse") X GN
  (He.cls_ok (x := "PlainTask") (c.fact 0 0 rfl rfl))
  (He.glo_ok X GN (x := "PlainTask") (c.fact 0 1 rfl rfl))
  (He.noat_ok (x := "PlainTask") (f := "home") (c.fact 0 2 rfl rfl))
  (He.noat_ok (x := "PlainTask") (f := "steps") (c.fact 0 3 rfl rfl))
  (He.noat_ok (x := "PlainTask") (f := "worth") (c.fact 0 4 rfl rfl))
  (He.noat_ok (x := "PlainTask") (f := "pieces") (c.fact 0 5 rfl rfl))
  (He.noat_ok (x := "PlainTask") (f := "place") (c.fact 0 6 rfl rfl))
  (c.def_ 0 rfl)
  (He.mkr_ok (x := "PlainTask") (c.fact 0 7 rfl rfl))
  (c.def_ 1 rfl)
  (He.meth_ok (x := "PlainTask") (m := "is_through") (c.fact 0 8 rfl rfl))
  (He.cls_ok (x := "PlainRun") (c.fact 0 9 rfl rfl))
  (He.glo_ok X GN (x := "PlainRun") (c.fact 0 10 rfl rfl))
  (He.noat_ok (x := "PlainRun") (f := "plan") (c.fact 0 11 rfl rfl))
  (He.noat_ok (x := "PlainRun") (f := "pieces") (c.fact 0 12 rfl rfl))
  (He.noat_ok (x := "PlainRun") (f := "left") (c.fact 0 13 rfl rfl))
  (He.noat_ok (x := "PlainRun") (f := "stores") (c.fact 0 14 rfl rfl))
  (He.noat_ok (x := "PlainRun") (f := "given") (c.fact 0 15 rfl rfl))
  (He.noat_ok (x := "PlainRun") (f := "pile") (c.fact 0 16 rfl rfl))
  (He.noat_ok (x := "PlainRun") (f := "last") (c.fact 0 17 rfl rfl))
  (c.def_ 2 rfl)
  (He.mkr_ok (x := "PlainRun") (c.fact 0 18 rfl rfl))
  (c.def_ 3 rfl)
  (He.meth_ok (x := "PlainRun") (m := "begin") (c.fact 0 19 rfl rfl))
  (c.def_ 4 rfl)
  (He.meth_ok (x := "PlainRun") (m := "finish_top") (c.fact 0 20 rfl rfl))
  (c.def_ 5 rfl)
  (He.meth_ok (x := "PlainRun") (m := "come_back") (c.fact 0 21 rfl rfl))
  (c.def_ 6 rfl)
  (He.meth_ok (x := "PlainRun") (m := "do_step") (c.fact 0 22 rfl rfl))
  (c.def_ 7 rfl)
  (He.meth_ok (x := "PlainRun") (m := "go_on") (c.fact 0 23 rfl rfl))
  (c.def_ 8 rfl)
  (He.meth_ok (x := "PlainRun") (m := "is_spent") (c.fact 0 24 rfl rfl))
  (M.tupA_ok (c.fact 1 0 rfl rfl))
  (c.def_ 9 rfl)
  (He.glo_ok X GN (x := "plain") (c.fact 1 1 rfl rfl))
  (c.def_ 10 rfl)
  (He.glo_ok X GN (x := "_law_begun") (c.fact 1 2 rfl rfl))
  (c.def_ 11 rfl)
  (He.glo_ok X GN (x := "_law_take") (c.fact 1 3 rfl rfl))
  (c.def_ 12 rfl)
  (He.glo_ok X GN (x := "_law_pick") (c.fact 1 4 rfl rfl))
  (c.def_ 13 rfl)
  (He.glo_ok X GN (x := "_law_words") (c.fact 1 5 rfl rfl))
  (c.def_ 14 rfl)
  (He.glo_ok X GN (x := "_law_number") (c.fact 1 6 rfl rfl))
  (c.def_ 15 rfl)
  (He.glo_ok X GN (x := "_law_step") (c.fact 1 7 rfl rfl))
  (c.def_ 16 rfl)
  (He.glo_ok X GN (x := "_law_service") (c.fact 1 8 rfl rfl))
  (c.def_ 17 rfl)
  (He.glo_ok X GN (x := "_law_plan") (c.fact 1 9 rfl rfl))
  (c.def_ 18 rfl)
  (He.glo_ok X GN (x := "_law_came_back") (c.fact 1 10 rfl rfl))
  (c.def_ 19 rfl)
  (He.glo_ok X GN (x := "_law_goes") (c.fact 1 11 rfl rfl))
  (c.def_ 20 rfl)
  (He.glo_ok X GN (x := "_law_plain") (c.fact 1 12 rfl rfl))
  (c.def_ 21 rfl)
  (He.glo_ok X GN (x := "law") (c.fact 1 13 rfl rfl))
  (M.staB_ok (c.fact 1 14 rfl rfl))
  (He.free_ok X GN (x := "abs") (c.fact 1 15 rfl rfl))
  (He.free_ok X GN (x := "int") (c.fact 1 16 rfl rfl))
  (He.free_ok X GN (x := "isinstance") (c.fact 1 17 rfl rfl))
  (He.free_ok X GN (x := "len") (c.fact 1 18 rfl rfl))
  (He.free_ok X GN (x := "list") (c.fact 1 19 rfl rfl))
  (He.free_ok X GN (x := "range") (c.fact 1 20 rfl rfl))
  (He.free_ok X GN (x := "repr") (c.fact 1 21 rfl rfl))
  (He.free_ok X GN (x := "sorted") (c.fact 1 22 rfl rfl))
  (He.free_ok X GN (x := "tuple") (c.fact 1 23 rfl rfl))
  (M.exc_of X GN (c.fact 1 24 rfl rfl) (c.fact 2 0 rfl rfl))
end Hd
open PySem PySem.W PySem.Calls PyProof.Rows
set_option maxRecDepth 100000 in
set_option maxHeartbeats 0 in
theorem PySem.Challenge.cw_farasked_k23_plainly_done_holds : PySem.Challenge.rw_farasked_k23_plainly_done.Holds := by
 refine Hd.closes ?_
 refine M.walk_ofG (l := PySem.Challenge.rw_farasked_k23_plainly_done) (n := 63) (k := 6) (x := "_law_script") (CX := fun w => L2.CX PySem.Challenge.rw_farasked_k23_plainly_done.prog w) rfl (by decide) (by kernel_rfl) ⟨rfl, by decide, by decide⟩ ?F (fun _ _ _ _ _ ⟨_, _, _, _, _, _, _, _, _, _, _, _, h⟩ => h)
 intro w mg fa h Y GN hmg0
 obtain ⟨K, KX, c⟩ := Y
 have hmg : mg ("law" : PySem.Str) = some (.ref fa) := by
  have e : (HandSHeadRun.topDef (OpenLaw.row PySem.Challenge.rw_farasked_k23_plainly_done).prog 19).name = ("law" : PySem.Str) := by kernel_rfl
  rw [← e]
  exact hmg0
 obtain ⟨fd, hb, hF⟩ := Hd.facts (l := PySem.Challenge.rw_farasked_k23_plainly_done) KX GN hmg c
 exact ⟨K, fd, G.spLaw K, KX, hb, fun H a ns hl _ hS => ⟨a, ns, rfl, hS, hl, fun _ => rfl⟩, hF⟩

