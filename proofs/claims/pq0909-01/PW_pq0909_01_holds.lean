import PyProof.Rows.All
import Wide.All
import OpenK.AllK
import Wide.FinOn
import PyProof.Methods
import PyProof.SliceList
import PyProof.SumWalk
import OpenK.ZTabs
import OpenK.XOpen
import OpenK.ZHead
import PySem.Challenge.RW_pq0909_01
set_option Elab.async false
set_option maxRecDepth 100000
section
open PySem PySem.W PySem.Calls PyProof.Rows
set_option maxHeartbeats 4000000
namespace M9
noncomputable abbrev P9 : Program := PySem.Challenge.pw_pq0909_01
noncomputable abbrev L9 : OpenLaw := PySem.Challenge.rw_pq0909_01
theorem road_app (lk : Look) : ∀ a b : List Stmt, noRoadLSs lk (a ++ b) = (noRoadLSs lk a && noRoadLSs lk b)
  | [], b => by simp [noRoadLSs]
  | s :: a, b => by simp [noRoadLSs, road_app lk a b, Bool.and_assoc]
theorem road_cut (lk : Look) (n : Nat) (l : List Stmt) (h₁ : noRoadLSs lk (l.take n) = true) (h₂ : noRoadLSs lk (l.drop n) = true) : noRoadLSs lk l = true := by
  rw [← List.take_append_drop n l, road_app, h₁, h₂]; rfl
theorem reads_no {n : Str} (h : namesMeet P9 P9.main.body (fun sc x => x != n || !(sc.names.lookup x == some .globalImplicit || sc.names.lookup x == some .globalExplicit)) = true) : readsOut P9 P9.main.body n = false := by
  unfold readsOut; rw [h]; rfl
theorem look1 : sreFenced P9.main = true := by kernel_rfl
theorem look2 : ((moduleNames P9.main.body).isEmpty || lookedIntoSs (moduleNames P9.main.body) P9.main.body) = true := by kernel_rfl
theorem look3 : namesResolve P9 = true := by rw [PySem.W.Fast.te8377067652309620493]; kernel_rfl
theorem look4 : P9.boundNames.all (fun n => !worldNames.contains n) = true := by kernel_rfl
theorem no_vars : readsOut P9 P9.main.body "vars" = false := reads_no (by kernel_rfl)
theorem no_dir : readsOut P9 P9.main.body "dir" = false := reads_no (by kernel_rfl)
theorem no_locals : readsOut P9 P9.main.body "locals" = false := reads_no (by kernel_rfl)
theorem none3 {α : Type} (p : α → Bool) (a b c : α) (h₁ : p a = false) (h₂ : p b = false) (h₃ : p c = false) : [a, b, c].filter p = [] := by
  simp [List.filter, h₁, h₂, h₃]
theorem bare9 : (["vars", "dir", "locals"] : List Str).filter (readsOut P9 P9.main.body) = [] := none3 _ _ _ _ no_vars no_dir no_locals
theorem strict9 : (!(importedModules P9.main.body).all cThrough.contains) = false := by kernel_rfl
noncomputable abbrev lk9 : Look := { strict := false, foot := none, bare := [] }
theorem road0 : noRoadLSs lk9 (P9.main.body.take 20) = true := by rw [PySem.W.Fast.te8326940854005059898]; kernel_rfl
theorem road1 : noRoadLSs lk9 ((P9.main.body.drop 20).take 12) = true := by rw [PySem.W.Fast.te8326940854005059898]; kernel_rfl
theorem road2 : noRoadLSs lk9 (((P9.main.body.drop 20).drop 12).take 15) = true := by rw [PySem.W.Fast.te8326940854005059898]; kernel_rfl
theorem road3 : noRoadLSs lk9 (((P9.main.body.drop 20).drop 12).drop 15) = true := by rw [PySem.W.Fast.te8326940854005059898]; kernel_rfl
theorem look5 : noRoadLSs { strict := !(importedModules P9.main.body).all cThrough.contains, foot := none, bare := (["vars", "dir", "locals"] : List Str).filter (readsOut P9 P9.main.body) } P9.main.body = true := by
  rw [bare9, strict9]
  exact road_cut _ 20 _ road0 (road_cut _ 12 _ road1 (road_cut _ 15 _ road2 road3))
theorem look6 : namesMeet P9 P9.main.body (fun _ n => attrL n) = true := by rw [PySem.W.Fast.te17119622794617984870, PySem.W.Fast.te17868728402115742887]; kernel_rfl
theorem look9 : looksOpen P9 = true := by
  delta looksOpen
  refine look_both (look_both (look_both (look_both (look_both ?_ ?_) ?_) ?_) ?_) ?_
  · exact look1
  · exact look2
  · exact look3
  · exact look4
  · exact look5
  · exact look6
theorem part9 : L9.row.partSaid = true := by
  delta OpenRow.partSaid
  refine look_both (look_both (look_both (look_both (look_both (look_both (look_both (look_both (look_both (look_both (look_both (look_both (look_both ?_ ?_) ?_) ?_) ?_) ?_) ?_) ?_) ?_) ?_) ?_) ?_) ?_) ?_
  · exact look9
  all_goals kernel_rfl
theorem row9 : L9.row.wellSaid = true := by
  delta OpenRow.wellSaid
  refine look_both (look_both ?_ ?_) ?_
  · exact part9
  all_goals kernel_rfl
theorem foot0 : L9.footing.all footLine = true := by kernel_rfl
theorem foot1 : noClassBlock L9.prog L9.footing = true := by kernel_rfl
theorem foot2 : noRoadLSs { strict := true, foot := some L9.bound', writes := L9.writes, may := L9.may } L9.footing = true := by rw [PySem.W.Fast.te8326940854005059898]; kernel_rfl
theorem foot3 : namesMeet L9.prog L9.above (fun _ n => !L9.own.contains n) = true := by kernel_rfl
theorem said9 : PySem.Challenge.rw_pq0909_01.wellSaid = true := by
  delta OpenLaw.wellSaid
  refine look_both (look_both (look_both (look_both (look_both (look_both (look_both (look_both (look_both (look_both (look_both (look_both (look_both (look_both (look_both (look_both (look_both (look_both ?r ?_) ?f0) ?f1) ?_) ?_) ?f2) ?_) ?_) ?_) ?_) ?_) ?_) ?_) ?_) ?_) ?_) ?f3) ?_
  case r => exact row9
  case f0 => exact foot0
  case f1 => exact foot1
  case f2 => exact foot2
  case f3 => exact foot3
  all_goals kernel_rfl
theorem tabs_app (top : Scope) (cx : TablesWhole.Ctx) (sc : Scope) : ∀ a b : List Stmt, TablesWhole.wSs TablesWhole.holds top cx sc (a ++ b) = (TablesWhole.wSs TablesWhole.holds top cx sc a && TablesWhole.wSs TablesWhole.holds top cx sc b)
  | [], b => by unfold TablesWhole.wSs; rfl
  | s :: a, b => by
    show TablesWhole.wSs TablesWhole.holds top cx sc (s :: (a ++ b)) = _
    rw [TablesWhole.wSs, TablesWhole.wSs, tabs_app top cx sc a b]
    show (_ && (_ && _)) = ((_ && _) && _)
    rw [Bool.and_assoc]
theorem tabs_cut {top : Scope} {cx : TablesWhole.Ctx} {sc : Scope} (n : Nat) (l : List Stmt) (h₁ : TablesWhole.wSs TablesWhole.holds top cx sc (l.take n) = true) (h₂ : TablesWhole.wSs TablesWhole.holds top cx sc (l.drop n) = true) : TablesWhole.wSs TablesWhole.holds top cx sc l = true := by
  rw [← List.take_append_drop n l, tabs_app, h₁, h₂]; rfl
theorem tabs_mod {m : Module} {told : List Str} (h₀ : TablesWhole.wSs TablesWhole.gather m.scope ⟨m.scope, [], [], [], none⟩ m.scope m.body = told) (h₁ : TablesWhole.noTwice m.scope = true)
    (h₂ : TablesWhole.wSs TablesWhole.holds m.scope ⟨m.scope, [], told, [], none⟩ m.scope m.body = true) : TablesWhole.wModule TablesWhole.holds m = true := by
  subst h₀
  show (true && (TablesWhole.noTwice m.scope && (TablesWhole.wSs TablesWhole.holds m.scope ⟨m.scope, [], TablesWhole.wSs TablesWhole.gather m.scope ⟨m.scope, [], [], [], none⟩ m.scope m.body, [], none⟩ m.scope m.body && true))) = true
  rw [h₁, h₂]; rfl
theorem tabs_prog {p : Program} (h : TablesWhole.wModule TablesWhole.holds p.main = true) (hm : p.modules = []) (hp : p.parses = []) (hh : p.harvested = []) : p.tablesWhole = true := by
  unfold Program.tablesWhole TablesWhole.wProgram
  rw [hm, hp, hh]
  show (TablesWhole.wModule TablesWhole.holds p.main && (true && (true && (true && true)))) = true
  rw [h]; rfl
theorem told9 : TablesWhole.wSs TablesWhole.gather P9.main.scope ⟨P9.main.scope, [], [], [], none⟩ P9.main.scope P9.main.body = [] := by rw [PySem.W.Fast.te16421684217811934046]; kernel_rfl
noncomputable abbrev Tabs9 (l : List Stmt) : Prop := TablesWhole.wSs TablesWhole.holds P9.main.scope ⟨P9.main.scope, [], [], [], none⟩ P9.main.scope l = true
theorem tabs0 : Tabs9 (P9.main.body.take 20) := by delta Tabs9; rw [PySem.W.Fast.te16421684217811934046]; kernel_rfl
theorem tabs1 : Tabs9 ((P9.main.body.drop 20).take 12) := by delta Tabs9; rw [PySem.W.Fast.te16421684217811934046]; kernel_rfl
theorem tabs2 : Tabs9 (((P9.main.body.drop 20).drop 12).take 15) := by delta Tabs9; rw [PySem.W.Fast.te16421684217811934046]; kernel_rfl
theorem tabs3 : Tabs9 (((P9.main.body.drop 20).drop 12).drop 15) := by delta Tabs9; rw [PySem.W.Fast.te16421684217811934046]; kernel_rfl
theorem two9 : TablesWhole.noTwice P9.main.scope = true := by kernel_rfl
theorem tabsL : Tabs9 P9.main.body := tabs_cut 20 _ tabs0 (tabs_cut 12 _ tabs1 (tabs_cut 15 _ tabs2 tabs3))
theorem tabs9 : P9.tablesWhole = true := tabs_prog (tabs_mod told9 two9 tabsL) rfl rfl rfl
theorem bare_9 : PySem.Challenge.rw_pq0909_01.row.prog.bare := ⟨rfl, rfl, rfl, rfl, rfl, tabs9⟩
theorem prom9 : PySem.Challenge.rw_pq0909_01.row.toRowW.promised := by
  refine ⟨[.list [.int 0]], ?_, ?_⟩ <;> decide +kernel
end M9
end
section
open PySem PySem.W PyProof.Rows
namespace M9
noncomputable abbrev tw : Program := PySem.Challenge.pw_pq0909_01
theorem tw_eq : PySem.Challenge.pw_pq0909_01 = tw := rfl
noncomputable def tk {α : Type} : Nat → List α → List α
  | 0, _ => []
  | _ + 1, [] => []
  | n + 1, x :: l => x :: tk n l
noncomputable def dr {α : Type} : Nat → List α → List α
  | 0, l => l
  | _ + 1, [] => []
  | n + 1, _ :: l => dr n l
noncomputable def nth : List Stmt → Nat → Stmt
  | [], _ => .Pass ⟨0, 0, 0, 0⟩
  | x :: _, 0 => x
  | _ :: l, n + 1 => nth l n
noncomputable def meth (p : Program) (i j : Nat) : Stmt := match nth p.main.body i with
  | .ClassDef _ _ _ b _ _ _ _ _ _ _ => nth b j
  | s => s
noncomputable def e (P : Params) (x : Str) (t : Nat) (v : Value) : DictEntry := ⟨PyData.keyHash P x, .str x t, v⟩
noncomputable def dO (es : List DictEntry) (n : Nat) : Obj := ⟨.type PySem.W.SL.s14018661285674007319x4, none, .dict ⟨es⟩ n, ⟨[]⟩⟩
noncomputable def tO (vs : List Value) : Obj := ⟨.type PySem.W.SL.s2766695959194262286x5, none, .seq ⟨vs⟩ 0, ⟨[]⟩⟩
noncomputable def nO (vs : List Value) : Obj := ⟨.none, none, .fields ⟨vs⟩, ⟨[]⟩⟩
noncomputable def cO (n q f : Str) (t u : Nat) (l argc fl : Int) (fr : Nat) (b : Bool) (tb : Nat) (lt ct tm : Value) : Obj :=
  ⟨.type PySem.W.SL.s5856160107412720595x4, none, .fields ⟨[.str n t, .str q (t + 1), .str f (t + 2), .int l 0, .int argc 0, .int 0 0, .int 0 0, .int fl 0, .ref fr, .bool b, .int 181 0, .ref tb, .none, lt, ct, tm, .int (Int.ofNat u) 0, .int l 0, .str f (u + 1)]⟩, ⟨[]⟩⟩
noncomputable def fD (st : Stmt) (q : Str) (d k c m : Value) (g : Nat) : Data := match st with
  | .FunctionDef n ps b _ _ _ sc _ _ _ => .func { name := n, qualname := q, params := ps, body := .stmts b, scope := sc, globals := g, closure := [], defaults := d, kwdefaults := k, doc := .none, pyModule := m, annotations := none, code := c, closureTuple := .none, builtins := 0 }
  | _ => .plain
noncomputable def kD (n : Str) (bs mro : List Value) (ns : Nat) (q : Str) (hd : Bool) (sl : List Str) (sc : List Value) (ab : Bool) (co : Option Bool) (del : Bool) : Data :=
  .cls { name := n, bases := bs, mro := mro, ns := ns, qualname := q, hasDict := hd, slotNames := sl, subclasses := sc, abstract := ab, collection := co, hasDel := del }
noncomputable def s0 : Str := ⟨⟨[95, 95, 110, 97, 109, 101, 95, 95]⟩⟩
noncomputable def s1 : Str := ⟨⟨[98, 117, 105, 108, 116, 105, 110, 115]⟩⟩
noncomputable def s2 : Str := ⟨⟨[95, 95, 100, 111, 99, 95, 95]⟩⟩
noncomputable def s3 : Str := ⟨⟨[95, 95, 112, 97, 99, 107, 97, 103, 101, 95, 95]⟩⟩
noncomputable def s4 : Str := ⟨⟨[95, 95, 108, 111, 97, 100, 101, 114, 95, 95]⟩⟩
noncomputable def s5 : Str := ⟨⟨[95, 95, 115, 112, 101, 99, 95, 95]⟩⟩
noncomputable def s6 : Str := ⟨⟨[95, 95, 98, 117, 105, 108, 100, 95, 99, 108, 97, 115, 115, 95, 95]⟩⟩
noncomputable def s7 : Str := ⟨⟨[95, 95, 105, 109, 112, 111, 114, 116, 95, 95]⟩⟩
noncomputable def s8 : Str := ⟨⟨[97, 98, 115]⟩⟩
noncomputable def s9 : Str := ⟨⟨[97, 108, 108]⟩⟩
noncomputable def s10 : Str := ⟨⟨[97, 110, 121]⟩⟩
noncomputable def s11 : Str := ⟨⟨[97, 115, 99, 105, 105]⟩⟩
noncomputable def s12 : Str := ⟨⟨[98, 105, 110]⟩⟩
noncomputable def s13 : Str := ⟨⟨[98, 114, 101, 97, 107, 112, 111, 105, 110, 116]⟩⟩
noncomputable def s14 : Str := ⟨⟨[99, 97, 108, 108, 97, 98, 108, 101]⟩⟩
noncomputable def s15 : Str := ⟨⟨[99, 104, 114]⟩⟩
noncomputable def s16 : Str := ⟨⟨[99, 111, 109, 112, 105, 108, 101]⟩⟩
noncomputable def s17 : Str := ⟨⟨[100, 101, 108, 97, 116, 116, 114]⟩⟩
noncomputable def s18 : Str := ⟨⟨[100, 105, 114]⟩⟩
noncomputable def s19 : Str := ⟨⟨[100, 105, 118, 109, 111, 100]⟩⟩
noncomputable def s20 : Str := ⟨⟨[101, 118, 97, 108]⟩⟩
noncomputable def s21 : Str := ⟨⟨[101, 120, 101, 99]⟩⟩
noncomputable def s22 : Str := ⟨⟨[102, 111, 114, 109, 97, 116]⟩⟩
noncomputable def s23 : Str := ⟨⟨[103, 101, 116, 97, 116, 116, 114]⟩⟩
noncomputable def s24 : Str := ⟨⟨[103, 108, 111, 98, 97, 108, 115]⟩⟩
noncomputable def s25 : Str := ⟨⟨[104, 97, 115, 97, 116, 116, 114]⟩⟩
noncomputable def s26 : Str := ⟨⟨[104, 97, 115, 104]⟩⟩
noncomputable def s27 : Str := ⟨⟨[104, 101, 120]⟩⟩
noncomputable def s28 : Str := ⟨⟨[105, 100]⟩⟩
noncomputable def s29 : Str := ⟨⟨[105, 110, 112, 117, 116]⟩⟩
noncomputable def s30 : Str := ⟨⟨[105, 115, 105, 110, 115, 116, 97, 110, 99, 101]⟩⟩
noncomputable def s31 : Str := ⟨⟨[105, 115, 115, 117, 98, 99, 108, 97, 115, 115]⟩⟩
noncomputable def s32 : Str := ⟨⟨[105, 116, 101, 114]⟩⟩
noncomputable def s33 : Str := ⟨⟨[97, 105, 116, 101, 114]⟩⟩
noncomputable def s34 : Str := ⟨⟨[108, 101, 110]⟩⟩
noncomputable def s35 : Str := ⟨⟨[108, 111, 99, 97, 108, 115]⟩⟩
noncomputable def s36 : Str := ⟨⟨[109, 97, 120]⟩⟩
noncomputable def s37 : Str := ⟨⟨[109, 105, 110]⟩⟩
noncomputable def s38 : Str := ⟨⟨[110, 101, 120, 116]⟩⟩
noncomputable def s39 : Str := ⟨⟨[97, 110, 101, 120, 116]⟩⟩
noncomputable def s40 : Str := ⟨⟨[111, 99, 116]⟩⟩
noncomputable def s41 : Str := ⟨⟨[111, 114, 100]⟩⟩
noncomputable def s42 : Str := ⟨⟨[112, 111, 119]⟩⟩
noncomputable def s43 : Str := ⟨⟨[112, 114, 105, 110, 116]⟩⟩
noncomputable def s44 : Str := ⟨⟨[114, 101, 112, 114]⟩⟩
noncomputable def s45 : Str := ⟨⟨[114, 111, 117, 110, 100]⟩⟩
noncomputable def s46 : Str := ⟨⟨[115, 101, 116, 97, 116, 116, 114]⟩⟩
noncomputable def s47 : Str := ⟨⟨[115, 111, 114, 116, 101, 100]⟩⟩
noncomputable def s48 : Str := ⟨⟨[115, 117, 109]⟩⟩
noncomputable def s49 : Str := ⟨⟨[118, 97, 114, 115]⟩⟩
noncomputable def s50 : Str := ⟨⟨[78, 111, 110, 101]⟩⟩
noncomputable def s51 : Str := ⟨⟨[69, 108, 108, 105, 112, 115, 105, 115]⟩⟩
noncomputable def s52 : Str := ⟨⟨[78, 111, 116, 73, 109, 112, 108, 101, 109, 101, 110, 116, 101, 100]⟩⟩
noncomputable def s53 : Str := ⟨⟨[70, 97, 108, 115, 101]⟩⟩
noncomputable def s54 : Str := ⟨⟨[84, 114, 117, 101]⟩⟩
noncomputable def s55 : Str := ⟨⟨[98, 111, 111, 108]⟩⟩
noncomputable def s56 : Str := ⟨⟨[109, 101, 109, 111, 114, 121, 118, 105, 101, 119]⟩⟩
noncomputable def s57 : Str := ⟨⟨[98, 121, 116, 101, 97, 114, 114, 97, 121]⟩⟩
noncomputable def s58 : Str := ⟨⟨[98, 121, 116, 101, 115]⟩⟩
noncomputable def s59 : Str := ⟨⟨[99, 108, 97, 115, 115, 109, 101, 116, 104, 111, 100]⟩⟩
noncomputable def s60 : Str := ⟨⟨[99, 111, 109, 112, 108, 101, 120]⟩⟩
noncomputable def s61 : Str := ⟨⟨[100, 105, 99, 116]⟩⟩
noncomputable def s62 : Str := ⟨⟨[101, 110, 117, 109, 101, 114, 97, 116, 101]⟩⟩
noncomputable def s63 : Str := ⟨⟨[102, 105, 108, 116, 101, 114]⟩⟩
noncomputable def s64 : Str := ⟨⟨[102, 108, 111, 97, 116]⟩⟩
noncomputable def s65 : Str := ⟨⟨[102, 114, 111, 122, 101, 110, 115, 101, 116]⟩⟩
noncomputable def s66 : Str := ⟨⟨[112, 114, 111, 112, 101, 114, 116, 121]⟩⟩
noncomputable def s67 : Str := ⟨⟨[105, 110, 116]⟩⟩
noncomputable def s68 : Str := ⟨⟨[108, 105, 115, 116]⟩⟩
noncomputable def s69 : Str := ⟨⟨[109, 97, 112]⟩⟩
noncomputable def s70 : Str := ⟨⟨[111, 98, 106, 101, 99, 116]⟩⟩
noncomputable def s71 : Str := ⟨⟨[114, 97, 110, 103, 101]⟩⟩
noncomputable def s72 : Str := ⟨⟨[114, 101, 118, 101, 114, 115, 101, 100]⟩⟩
noncomputable def s73 : Str := ⟨⟨[115, 101, 116]⟩⟩
noncomputable def s74 : Str := ⟨⟨[115, 108, 105, 99, 101]⟩⟩
noncomputable def s75 : Str := ⟨⟨[115, 116, 97, 116, 105, 99, 109, 101, 116, 104, 111, 100]⟩⟩
noncomputable def s76 : Str := ⟨⟨[115, 116, 114]⟩⟩
noncomputable def s77 : Str := ⟨⟨[115, 117, 112, 101, 114]⟩⟩
noncomputable def s78 : Str := ⟨⟨[116, 117, 112, 108, 101]⟩⟩
noncomputable def s79 : Str := ⟨⟨[116, 121, 112, 101]⟩⟩
noncomputable def s80 : Str := ⟨⟨[122, 105, 112]⟩⟩
noncomputable def s81 : Str := ⟨⟨[95, 95, 100, 101, 98, 117, 103, 95, 95]⟩⟩
noncomputable def s82 : Str := ⟨⟨[66, 97, 115, 101, 69, 120, 99, 101, 112, 116, 105, 111, 110]⟩⟩
noncomputable def s83 : Str := ⟨⟨[66, 97, 115, 101, 69, 120, 99, 101, 112, 116, 105, 111, 110, 71, 114, 111, 117, 112]⟩⟩
noncomputable def s84 : Str := ⟨⟨[69, 120, 99, 101, 112, 116, 105, 111, 110]⟩⟩
noncomputable def s85 : Str := ⟨⟨[71, 101, 110, 101, 114, 97, 116, 111, 114, 69, 120, 105, 116]⟩⟩
noncomputable def s86 : Str := ⟨⟨[75, 101, 121, 98, 111, 97, 114, 100, 73, 110, 116, 101, 114, 114, 117, 112, 116]⟩⟩
noncomputable def s87 : Str := ⟨⟨[83, 121, 115, 116, 101, 109, 69, 120, 105, 116]⟩⟩
noncomputable def s88 : Str := ⟨⟨[65, 114, 105, 116, 104, 109, 101, 116, 105, 99, 69, 114, 114, 111, 114]⟩⟩
noncomputable def s89 : Str := ⟨⟨[65, 115, 115, 101, 114, 116, 105, 111, 110, 69, 114, 114, 111, 114]⟩⟩
noncomputable def s90 : Str := ⟨⟨[65, 116, 116, 114, 105, 98, 117, 116, 101, 69, 114, 114, 111, 114]⟩⟩
noncomputable def s91 : Str := ⟨⟨[66, 117, 102, 102, 101, 114, 69, 114, 114, 111, 114]⟩⟩
noncomputable def s92 : Str := ⟨⟨[69, 79, 70, 69, 114, 114, 111, 114]⟩⟩
noncomputable def s93 : Str := ⟨⟨[73, 109, 112, 111, 114, 116, 69, 114, 114, 111, 114]⟩⟩
noncomputable def s94 : Str := ⟨⟨[76, 111, 111, 107, 117, 112, 69, 114, 114, 111, 114]⟩⟩
noncomputable def s95 : Str := ⟨⟨[77, 101, 109, 111, 114, 121, 69, 114, 114, 111, 114]⟩⟩
noncomputable def s96 : Str := ⟨⟨[78, 97, 109, 101, 69, 114, 114, 111, 114]⟩⟩
noncomputable def s97 : Str := ⟨⟨[79, 83, 69, 114, 114, 111, 114]⟩⟩
noncomputable def s98 : Str := ⟨⟨[82, 101, 102, 101, 114, 101, 110, 99, 101, 69, 114, 114, 111, 114]⟩⟩
noncomputable def s99 : Str := ⟨⟨[82, 117, 110, 116, 105, 109, 101, 69, 114, 114, 111, 114]⟩⟩
noncomputable def s100 : Str := ⟨⟨[83, 116, 111, 112, 65, 115, 121, 110, 99, 73, 116, 101, 114, 97, 116, 105, 111, 110]⟩⟩
noncomputable def s101 : Str := ⟨⟨[83, 116, 111, 112, 73, 116, 101, 114, 97, 116, 105, 111, 110]⟩⟩
noncomputable def s102 : Str := ⟨⟨[83, 121, 110, 116, 97, 120, 69, 114, 114, 111, 114]⟩⟩
noncomputable def s103 : Str := ⟨⟨[83, 121, 115, 116, 101, 109, 69, 114, 114, 111, 114]⟩⟩
noncomputable def s104 : Str := ⟨⟨[84, 121, 112, 101, 69, 114, 114, 111, 114]⟩⟩
noncomputable def s105 : Str := ⟨⟨[86, 97, 108, 117, 101, 69, 114, 114, 111, 114]⟩⟩
noncomputable def s106 : Str := ⟨⟨[87, 97, 114, 110, 105, 110, 103]⟩⟩
noncomputable def s107 : Str := ⟨⟨[70, 108, 111, 97, 116, 105, 110, 103, 80, 111, 105, 110, 116, 69, 114, 114, 111, 114]⟩⟩
noncomputable def s108 : Str := ⟨⟨[79, 118, 101, 114, 102, 108, 111, 119, 69, 114, 114, 111, 114]⟩⟩
noncomputable def s109 : Str := ⟨⟨[90, 101, 114, 111, 68, 105, 118, 105, 115, 105, 111, 110, 69, 114, 114, 111, 114]⟩⟩
noncomputable def s110 : Str := ⟨⟨[66, 121, 116, 101, 115, 87, 97, 114, 110, 105, 110, 103]⟩⟩
noncomputable def s111 : Str := ⟨⟨[68, 101, 112, 114, 101, 99, 97, 116, 105, 111, 110, 87, 97, 114, 110, 105, 110, 103]⟩⟩
noncomputable def s112 : Str := ⟨⟨[69, 110, 99, 111, 100, 105, 110, 103, 87, 97, 114, 110, 105, 110, 103]⟩⟩
noncomputable def s113 : Str := ⟨⟨[70, 117, 116, 117, 114, 101, 87, 97, 114, 110, 105, 110, 103]⟩⟩
noncomputable def s114 : Str := ⟨⟨[73, 109, 112, 111, 114, 116, 87, 97, 114, 110, 105, 110, 103]⟩⟩
noncomputable def s115 : Str := ⟨⟨[80, 101, 110, 100, 105, 110, 103, 68, 101, 112, 114, 101, 99, 97, 116, 105, 111, 110, 87, 97, 114, 110, 105, 110, 103]⟩⟩
noncomputable def s116 : Str := ⟨⟨[82, 101, 115, 111, 117, 114, 99, 101, 87, 97, 114, 110, 105, 110, 103]⟩⟩
noncomputable def s117 : Str := ⟨⟨[82, 117, 110, 116, 105, 109, 101, 87, 97, 114, 110, 105, 110, 103]⟩⟩
noncomputable def s118 : Str := ⟨⟨[83, 121, 110, 116, 97, 120, 87, 97, 114, 110, 105, 110, 103]⟩⟩
noncomputable def s119 : Str := ⟨⟨[85, 110, 105, 99, 111, 100, 101, 87, 97, 114, 110, 105, 110, 103]⟩⟩
noncomputable def s120 : Str := ⟨⟨[85, 115, 101, 114, 87, 97, 114, 110, 105, 110, 103]⟩⟩
noncomputable def s121 : Str := ⟨⟨[66, 108, 111, 99, 107, 105, 110, 103, 73, 79, 69, 114, 114, 111, 114]⟩⟩
noncomputable def s122 : Str := ⟨⟨[67, 104, 105, 108, 100, 80, 114, 111, 99, 101, 115, 115, 69, 114, 114, 111, 114]⟩⟩
noncomputable def s123 : Str := ⟨⟨[67, 111, 110, 110, 101, 99, 116, 105, 111, 110, 69, 114, 114, 111, 114]⟩⟩
noncomputable def s124 : Str := ⟨⟨[70, 105, 108, 101, 69, 120, 105, 115, 116, 115, 69, 114, 114, 111, 114]⟩⟩
noncomputable def s125 : Str := ⟨⟨[70, 105, 108, 101, 78, 111, 116, 70, 111, 117, 110, 100, 69, 114, 114, 111, 114]⟩⟩
noncomputable def s126 : Str := ⟨⟨[73, 110, 116, 101, 114, 114, 117, 112, 116, 101, 100, 69, 114, 114, 111, 114]⟩⟩
noncomputable def s127 : Str := ⟨⟨[73, 115, 65, 68, 105, 114, 101, 99, 116, 111, 114, 121, 69, 114, 114, 111, 114]⟩⟩
noncomputable def s128 : Str := ⟨⟨[78, 111, 116, 65, 68, 105, 114, 101, 99, 116, 111, 114, 121, 69, 114, 114, 111, 114]⟩⟩
noncomputable def s129 : Str := ⟨⟨[80, 101, 114, 109, 105, 115, 115, 105, 111, 110, 69, 114, 114, 111, 114]⟩⟩
noncomputable def s130 : Str := ⟨⟨[80, 114, 111, 99, 101, 115, 115, 76, 111, 111, 107, 117, 112, 69, 114, 114, 111, 114]⟩⟩
noncomputable def s131 : Str := ⟨⟨[84, 105, 109, 101, 111, 117, 116, 69, 114, 114, 111, 114]⟩⟩
noncomputable def s132 : Str := ⟨⟨[73, 110, 100, 101, 110, 116, 97, 116, 105, 111, 110, 69, 114, 114, 111, 114]⟩⟩
noncomputable def s133 : Str := ⟨⟨[95, 73, 110, 99, 111, 109, 112, 108, 101, 116, 101, 73, 110, 112, 117, 116, 69, 114, 114, 111, 114]⟩⟩
noncomputable def s134 : Str := ⟨⟨[73, 110, 100, 101, 120, 69, 114, 114, 111, 114]⟩⟩
noncomputable def s135 : Str := ⟨⟨[75, 101, 121, 69, 114, 114, 111, 114]⟩⟩
noncomputable def s136 : Str := ⟨⟨[77, 111, 100, 117, 108, 101, 78, 111, 116, 70, 111, 117, 110, 100, 69, 114, 114, 111, 114]⟩⟩
noncomputable def s137 : Str := ⟨⟨[78, 111, 116, 73, 109, 112, 108, 101, 109, 101, 110, 116, 101, 100, 69, 114, 114, 111, 114]⟩⟩
noncomputable def s138 : Str := ⟨⟨[80, 121, 116, 104, 111, 110, 70, 105, 110, 97, 108, 105, 122, 97, 116, 105, 111, 110, 69, 114, 114, 111, 114]⟩⟩
noncomputable def s139 : Str := ⟨⟨[82, 101, 99, 117, 114, 115, 105, 111, 110, 69, 114, 114, 111, 114]⟩⟩
noncomputable def s140 : Str := ⟨⟨[85, 110, 98, 111, 117, 110, 100, 76, 111, 99, 97, 108, 69, 114, 114, 111, 114]⟩⟩
noncomputable def s141 : Str := ⟨⟨[85, 110, 105, 99, 111, 100, 101, 69, 114, 114, 111, 114]⟩⟩
noncomputable def s142 : Str := ⟨⟨[66, 114, 111, 107, 101, 110, 80, 105, 112, 101, 69, 114, 114, 111, 114]⟩⟩
noncomputable def s143 : Str := ⟨⟨[67, 111, 110, 110, 101, 99, 116, 105, 111, 110, 65, 98, 111, 114, 116, 101, 100, 69, 114, 114, 111, 114]⟩⟩
noncomputable def s144 : Str := ⟨⟨[67, 111, 110, 110, 101, 99, 116, 105, 111, 110, 82, 101, 102, 117, 115, 101, 100, 69, 114, 114, 111, 114]⟩⟩
noncomputable def s145 : Str := ⟨⟨[67, 111, 110, 110, 101, 99, 116, 105, 111, 110, 82, 101, 115, 101, 116, 69, 114, 114, 111, 114]⟩⟩
noncomputable def s146 : Str := ⟨⟨[84, 97, 98, 69, 114, 114, 111, 114]⟩⟩
noncomputable def s147 : Str := ⟨⟨[85, 110, 105, 99, 111, 100, 101, 68, 101, 99, 111, 100, 101, 69, 114, 114, 111, 114]⟩⟩
noncomputable def s148 : Str := ⟨⟨[85, 110, 105, 99, 111, 100, 101, 69, 110, 99, 111, 100, 101, 69, 114, 114, 111, 114]⟩⟩
noncomputable def s149 : Str := ⟨⟨[85, 110, 105, 99, 111, 100, 101, 84, 114, 97, 110, 115, 108, 97, 116, 101, 69, 114, 114, 111, 114]⟩⟩
noncomputable def s150 : Str := ⟨⟨[69, 120, 99, 101, 112, 116, 105, 111, 110, 71, 114, 111, 117, 112]⟩⟩
noncomputable def s151 : Str := ⟨⟨[69, 110, 118, 105, 114, 111, 110, 109, 101, 110, 116, 69, 114, 114, 111, 114]⟩⟩
noncomputable def s152 : Str := ⟨⟨[73, 79, 69, 114, 114, 111, 114]⟩⟩
noncomputable def s153 : Str := ⟨⟨[111, 112, 101, 110]⟩⟩
noncomputable def s154 : Str := ⟨⟨[113, 117, 105, 116]⟩⟩
noncomputable def s155 : Str := ⟨⟨[101, 120, 105, 116]⟩⟩
noncomputable def s156 : Str := ⟨⟨[99, 111, 112, 121, 114, 105, 103, 104, 116]⟩⟩
noncomputable def s157 : Str := ⟨⟨[99, 114, 101, 100, 105, 116, 115]⟩⟩
noncomputable def s158 : Str := ⟨⟨[108, 105, 99, 101, 110, 115, 101]⟩⟩
noncomputable def s159 : Str := ⟨⟨[104, 101, 108, 112]⟩⟩
noncomputable def s160 : Str := ⟨⟨[95, 95, 97, 110, 110, 111, 116, 97, 116, 105, 111, 110, 115, 95, 95]⟩⟩
noncomputable def s161 : Str := ⟨⟨[95, 95, 98, 117, 105, 108, 116, 105, 110, 115, 95, 95]⟩⟩
noncomputable def s162 : Str := ⟨⟨[95, 95, 102, 105, 108, 101, 95, 95]⟩⟩
noncomputable def s163 : Str := ⟨⟨[47, 99, 108, 97, 105, 109, 47, 99, 117, 116, 46, 112, 121]⟩⟩
noncomputable def s164 : Str := ⟨⟨[95, 95, 99, 97, 99, 104, 101, 100, 95, 95]⟩⟩
noncomputable def s165 : Str := ⟨⟨[95, 119, 97, 108, 108]⟩⟩
noncomputable def s166 : Str := ⟨⟨[66, 111, 97, 114, 100, 69, 114, 114, 111, 114]⟩⟩
noncomputable def s167 : Str := ⟨⟨[66, 97, 100, 65, 114, 103, 117, 109, 101, 110, 116]⟩⟩
noncomputable def s168 : Str := ⟨⟨[66, 97, 100, 68, 105, 115, 107]⟩⟩
noncomputable def s169 : Str := ⟨⟨[78, 111, 82, 111, 111, 109]⟩⟩
noncomputable def s170 : Str := ⟨⟨[66, 97, 100, 67, 97, 108, 108]⟩⟩
noncomputable def s171 : Str := ⟨⟨[83, 116, 117, 99, 107]⟩⟩
noncomputable def s172 : Str := ⟨⟨[67, 114, 97, 115, 104]⟩⟩
noncomputable def s173 : Str := ⟨⟨[68, 79, 78, 69]⟩⟩
noncomputable def s174 : Str := ⟨⟨[83, 76, 69, 69, 80]⟩⟩
noncomputable def s175 : Str := ⟨⟨[66, 82, 79, 75, 69, 78]⟩⟩
noncomputable def s176 : Str := ⟨⟨[82, 69, 65, 68, 95, 67, 72, 65, 78, 78, 69, 76]⟩⟩
noncomputable def s177 : Str := ⟨⟨[87, 82, 73, 84, 69, 95, 67, 72, 65, 78, 78, 69, 76]⟩⟩
noncomputable def s178 : Str := ⟨⟨[80, 105, 112, 101]⟩⟩
noncomputable def s179 : Str := ⟨⟨[80, 105, 112, 101, 84, 97, 98, 108, 101]⟩⟩
noncomputable def s180 : Str := ⟨⟨[84, 73, 67, 75, 83]⟩⟩
noncomputable def s181 : Str := ⟨⟨[111, 99, 116, 101, 116, 115, 95, 111, 102]⟩⟩
noncomputable def s182 : Str := ⟨⟨[80, 97, 114, 116, 115]⟩⟩
noncomputable def s183 : Str := ⟨⟨[80, 114, 111, 99, 101, 115, 115, 67, 97, 108, 108, 115]⟩⟩
noncomputable def s184 : Str := ⟨⟨[66, 117, 102, 102, 101, 114]⟩⟩
noncomputable def s185 : Str := ⟨⟨[67, 97, 99, 104, 101]⟩⟩
noncomputable def s186 : Str := ⟨⟨[68, 105, 115, 107]⟩⟩
noncomputable def s187 : Str := ⟨⟨[111, 99, 116, 101, 116, 115, 95, 105, 110]⟩⟩
noncomputable def s188 : Str := ⟨⟨[80, 73, 80, 69]⟩⟩
noncomputable def s189 : Str := ⟨⟨[112, 105, 112, 101]⟩⟩
noncomputable def s190 : Str := ⟨⟨[78, 79, 68, 69]⟩⟩
noncomputable def s191 : Str := ⟨⟨[110, 111, 100, 101]⟩⟩
noncomputable def s192 : Str := ⟨⟨[68, 69, 86, 73, 67, 69]⟩⟩
noncomputable def s193 : Str := ⟨⟨[100, 101, 118, 105, 99, 101]⟩⟩
noncomputable def s194 : Str := ⟨⟨[79, 112, 101, 110, 70, 105, 108, 101]⟩⟩
noncomputable def s195 : Str := ⟨⟨[70, 105, 108, 101, 84, 97, 98, 108, 101]⟩⟩
noncomputable def s196 : Str := ⟨⟨[68, 101, 115, 99, 114, 105, 112, 116, 111, 114, 115]⟩⟩
noncomputable def s197 : Str := ⟨⟨[78, 85, 77, 66, 69, 82]⟩⟩
noncomputable def s198 : Str := ⟨⟨[77, 79, 83, 84, 95, 69, 65, 67, 72]⟩⟩
noncomputable def s199 : Str := ⟨⟨[83, 80, 65, 82, 69]⟩⟩
noncomputable def s200 : Str := ⟨⟨[112, 97, 99, 107, 101, 100, 95, 104, 101, 97, 100]⟩⟩
noncomputable def s201 : Str := ⟨⟨[74, 111, 117, 114, 110, 97, 108]⟩⟩
noncomputable def s202 : Str := ⟨⟨[85, 78, 85, 83, 69, 68]⟩⟩
noncomputable def s203 : Str := ⟨⟨[117, 110, 117, 115, 101, 100]⟩⟩
noncomputable def s204 : Str := ⟨⟨[70, 82, 69, 83, 72]⟩⟩
noncomputable def s205 : Str := ⟨⟨[102, 114, 101, 115, 104]⟩⟩
noncomputable def s206 : Str := ⟨⟨[82, 69, 65, 68, 89]⟩⟩
noncomputable def s207 : Str := ⟨⟨[114, 101, 97, 100, 121]⟩⟩
noncomputable def s208 : Str := ⟨⟨[82, 85, 78, 78, 73, 78, 71]⟩⟩
noncomputable def s209 : Str := ⟨⟨[114, 117, 110, 110, 105, 110, 103]⟩⟩
noncomputable def s210 : Str := ⟨⟨[83, 76, 69, 69, 80, 73, 78, 71]⟩⟩
noncomputable def s211 : Str := ⟨⟨[115, 108, 101, 101, 112, 105, 110, 103]⟩⟩
noncomputable def s212 : Str := ⟨⟨[90, 79, 77, 66, 73, 69]⟩⟩
noncomputable def s213 : Str := ⟨⟨[122, 111, 109, 98, 105, 101]⟩⟩
noncomputable def s214 : Str := ⟨⟨[80, 114, 111, 99, 101, 115, 115]⟩⟩
noncomputable def s215 : Str := ⟨⟨[84, 97, 98, 108, 101]⟩⟩
noncomputable def s216 : Str := ⟨⟨[95, 108, 97, 119, 95, 116, 97, 107, 101]⟩⟩
noncomputable def s217 : Str := ⟨⟨[95, 108, 97, 119, 95, 119, 111, 114, 108, 100]⟩⟩
noncomputable def s218 : Str := ⟨⟨[95, 108, 97, 119, 95, 116, 111, 108, 100]⟩⟩
noncomputable def s219 : Str := ⟨⟨[95, 108, 97, 119, 95, 109, 101, 116]⟩⟩
noncomputable def s220 : Str := ⟨⟨[95, 108, 97, 119, 95, 99, 97, 108, 108, 101, 100]⟩⟩
noncomputable def s221 : Str := ⟨⟨[95, 108, 97, 119, 95, 119, 114, 105, 116, 116, 101, 110]⟩⟩
noncomputable def s222 : Str := ⟨⟨[95, 108, 97, 119, 95, 101, 110, 100, 101, 100]⟩⟩
noncomputable def s223 : Str := ⟨⟨[95, 108, 97, 119, 95, 115, 104, 117, 116]⟩⟩
noncomputable def s224 : Str := ⟨⟨[95, 108, 97, 119, 95, 100, 101, 101, 100]⟩⟩
noncomputable def s225 : Str := ⟨⟨[95, 108, 97, 119, 95, 115, 116, 97, 110, 100, 115]⟩⟩
noncomputable def s226 : Str := ⟨⟨[108, 97, 119]⟩⟩
noncomputable def s227 : Str := ⟨⟨[60, 109, 111, 100, 117, 108, 101, 62]⟩⟩
noncomputable def s228 : Str := ⟨⟨[95, 95, 109, 97, 105, 110, 95, 95]⟩⟩
noncomputable def s229 : Str := ⟨⟨[107]⟩⟩
noncomputable def s230 : Str := ⟨⟨[95, 95, 109, 111, 100, 117, 108, 101, 95, 95]⟩⟩
noncomputable def s231 : Str := ⟨⟨[112, 105, 112, 101, 98, 111, 97, 114, 100, 46, 101, 114, 114, 111, 114, 115]⟩⟩
noncomputable def s232 : Str := ⟨⟨[95, 95, 113, 117, 97, 108, 110, 97, 109, 101, 95, 95]⟩⟩
noncomputable def s233 : Str := ⟨⟨[95, 95, 102, 105, 114, 115, 116, 108, 105, 110, 101, 110, 111, 95, 95]⟩⟩
noncomputable def s234 : Str := ⟨⟨[95, 95, 105, 110, 105, 116, 95, 95]⟩⟩
noncomputable def s235 : Str := ⟨⟨[95, 95, 115, 116, 97, 116, 105, 99, 95, 97, 116, 116, 114, 105, 98, 117, 116, 101, 115, 95, 95]⟩⟩
noncomputable def s236 : Str := ⟨⟨[]⟩⟩
noncomputable def s237 : Str := ⟨⟨[115, 101, 108, 102]⟩⟩
noncomputable def s238 : Str := ⟨⟨[114, 101, 97, 115, 111, 110]⟩⟩
noncomputable def s239 : Str := ⟨⟨[66, 111, 97, 114, 100, 69, 114, 114, 111, 114, 46, 95, 95, 105, 110, 105, 116, 95, 95]⟩⟩
noncomputable def s240 : Str := ⟨⟨[95, 95, 119, 101, 97, 107, 114, 101, 102, 95, 95]⟩⟩
noncomputable def s241 : Str := ⟨⟨[119, 114, 105, 116, 101, 115]⟩⟩
noncomputable def s242 : Str := ⟨⟨[67, 114, 97, 115, 104, 46, 95, 95, 105, 110, 105, 116, 95, 95]⟩⟩
noncomputable def s243 : Str := ⟨⟨[112, 105, 112, 101, 98, 111, 97, 114, 100, 46, 112, 105, 112, 101, 115]⟩⟩
noncomputable def s244 : Str := ⟨⟨[119, 97, 105, 116, 105, 110, 103]⟩⟩
noncomputable def s245 : Str := ⟨⟨[114, 111, 111, 109]⟩⟩
noncomputable def s246 : Str := ⟨⟨[99, 104, 97, 110, 110, 101, 108]⟩⟩
noncomputable def s247 : Str := ⟨⟨[119, 114, 105, 116, 101]⟩⟩
noncomputable def s248 : Str := ⟨⟨[114, 101, 97, 100]⟩⟩
noncomputable def s249 : Str := ⟨⟨[99, 108, 111, 115, 101]⟩⟩
noncomputable def s250 : Str := ⟨⟨[105, 100, 101, 110, 116]⟩⟩
noncomputable def s251 : Str := ⟨⟨[115, 105, 122, 101]⟩⟩
noncomputable def s252 : Str := ⟨⟨[80, 105, 112, 101, 46, 95, 95, 105, 110, 105, 116, 95, 95]⟩⟩
noncomputable def s253 : Str := ⟨⟨[80, 105, 112, 101, 46, 119, 97, 105, 116, 105, 110, 103]⟩⟩
noncomputable def s254 : Str := ⟨⟨[80, 105, 112, 101, 46, 114, 111, 111, 109]⟩⟩
noncomputable def s255 : Str := ⟨⟨[115, 105, 100, 101]⟩⟩
noncomputable def s256 : Str := ⟨⟨[80, 105, 112, 101, 46, 99, 104, 97, 110, 110, 101, 108]⟩⟩
noncomputable def s257 : Str := ⟨⟨[111, 99, 116, 101, 116, 115]⟩⟩
noncomputable def s258 : Str := ⟨⟨[116, 97, 107, 101, 110]⟩⟩
noncomputable def s259 : Str := ⟨⟨[111, 99, 116, 101, 116]⟩⟩
noncomputable def s260 : Str := ⟨⟨[80, 105, 112, 101, 46, 119, 114, 105, 116, 101]⟩⟩
noncomputable def s261 : Str := ⟨⟨[99, 111, 117, 110, 116]⟩⟩
noncomputable def s262 : Str := ⟨⟨[103, 105, 118, 101, 110]⟩⟩
noncomputable def s263 : Str := ⟨⟨[80, 105, 112, 101, 46, 114, 101, 97, 100]⟩⟩
noncomputable def s264 : Str := ⟨⟨[80, 105, 112, 101, 46, 99, 108, 111, 115, 101]⟩⟩
noncomputable def s265 : Str := ⟨⟨[114, 101, 97, 100, 95, 99, 111, 117, 110, 116]⟩⟩
noncomputable def s266 : Str := ⟨⟨[114, 101, 97, 100, 95, 111, 112, 101, 110]⟩⟩
noncomputable def s267 : Str := ⟨⟨[114, 105, 110, 103]⟩⟩
noncomputable def s268 : Str := ⟨⟨[119, 114, 105, 116, 101, 95, 99, 111, 117, 110, 116]⟩⟩
noncomputable def s269 : Str := ⟨⟨[119, 114, 105, 116, 101, 95, 111, 112, 101, 110]⟩⟩
noncomputable def s270 : Str := ⟨⟨[95, 95, 100, 105, 99, 116, 95, 95]⟩⟩
noncomputable def s271 : Str := ⟨⟨[109, 97, 107, 101]⟩⟩
noncomputable def s272 : Str := ⟨⟨[80, 105, 112, 101, 84, 97, 98, 108, 101, 46, 95, 95, 105, 110, 105, 116, 95, 95]⟩⟩
noncomputable def s273 : Str := ⟨⟨[80, 105, 112, 101, 84, 97, 98, 108, 101, 46, 109, 97, 107, 101]⟩⟩
noncomputable def s274 : Str := ⟨⟨[80, 105, 112, 101, 84, 97, 98, 108, 101, 46, 99, 108, 111, 115, 101]⟩⟩
noncomputable def s275 : Str := ⟨⟨[80, 105, 112, 101, 84, 97, 98, 108, 101, 46, 99, 111, 117, 110, 116]⟩⟩
noncomputable def s276 : Str := ⟨⟨[109, 97, 100, 101]⟩⟩
noncomputable def s277 : Str := ⟨⟨[112, 105, 112, 101, 115]⟩⟩
noncomputable def s278 : Str := ⟨⟨[116, 105, 99, 107, 115]⟩⟩
noncomputable def s279 : Str := ⟨⟨[112, 105, 112, 101, 98, 111, 97, 114, 100, 46, 99, 97, 108, 108, 115]⟩⟩
noncomputable def s280 : Str := ⟨⟨[116, 97, 98, 108, 101]⟩⟩
noncomputable def s281 : Str := ⟨⟨[102, 105, 108, 101, 115]⟩⟩
noncomputable def s282 : Str := ⟨⟨[110, 111, 100, 101, 115]⟩⟩
noncomputable def s283 : Str := ⟨⟨[112, 97, 116, 104, 115]⟩⟩
noncomputable def s284 : Str := ⟨⟨[106, 111, 117, 114, 110, 97, 108]⟩⟩
noncomputable def s285 : Str := ⟨⟨[100, 101, 118, 105, 99, 101, 115]⟩⟩
noncomputable def s286 : Str := ⟨⟨[80, 97, 114, 116, 115, 46, 95, 95, 105, 110, 105, 116, 95, 95]⟩⟩
noncomputable def s287 : Str := ⟨⟨[112, 114, 111, 99, 101, 115, 115]⟩⟩
noncomputable def s288 : Str := ⟨⟨[115, 108, 101, 101, 112, 95, 111, 110]⟩⟩
noncomputable def s289 : Str := ⟨⟨[106, 111, 117, 114, 110, 97, 108, 101, 100]⟩⟩
noncomputable def s290 : Str := ⟨⟨[103, 101, 116, 112, 105, 100]⟩⟩
noncomputable def s291 : Str := ⟨⟨[102, 111, 114, 107]⟩⟩
noncomputable def s292 : Str := ⟨⟨[108, 101, 116, 95, 103, 111]⟩⟩
noncomputable def s293 : Str := ⟨⟨[119, 97, 105, 116]⟩⟩
noncomputable def s294 : Str := ⟨⟨[107, 105, 108, 108]⟩⟩
noncomputable def s295 : Str := ⟨⟨[117, 112, 116, 105, 109, 101]⟩⟩
noncomputable def s296 : Str := ⟨⟨[115, 108, 101, 101, 112]⟩⟩
noncomputable def s297 : Str := ⟨⟨[108, 101, 116, 95, 99, 108, 111, 115, 101]⟩⟩
noncomputable def s298 : Str := ⟨⟨[100, 117, 112]⟩⟩
noncomputable def s299 : Str := ⟨⟨[102, 115, 116, 97, 116]⟩⟩
noncomputable def s300 : Str := ⟨⟨[107, 101, 114, 110, 101, 108]⟩⟩
noncomputable def s301 : Str := ⟨⟨[80, 114, 111, 99, 101, 115, 115, 67, 97, 108, 108, 115, 46, 95, 95, 105, 110, 105, 116, 95, 95]⟩⟩
noncomputable def s302 : Str := ⟨⟨[112, 105, 100]⟩⟩
noncomputable def s303 : Str := ⟨⟨[102, 111, 117, 110, 100]⟩⟩
noncomputable def s304 : Str := ⟨⟨[80, 114, 111, 99, 101, 115, 115, 67, 97, 108, 108, 115, 46, 112, 114, 111, 99, 101, 115, 115]⟩⟩
noncomputable def s305 : Str := ⟨⟨[80, 114, 111, 99, 101, 115, 115, 67, 97, 108, 108, 115, 46, 115, 108, 101, 101, 112, 95, 111, 110]⟩⟩
noncomputable def s306 : Str := ⟨⟨[100, 101, 101, 100]⟩⟩
noncomputable def s307 : Str := ⟨⟨[80, 114, 111, 99, 101, 115, 115, 67, 97, 108, 108, 115, 46, 106, 111, 117, 114, 110, 97, 108, 101, 100]⟩⟩
noncomputable def s308 : Str := ⟨⟨[80, 114, 111, 99, 101, 115, 115, 67, 97, 108, 108, 115, 46, 103, 101, 116, 112, 105, 100]⟩⟩
noncomputable def s309 : Str := ⟨⟨[80, 114, 111, 99, 101, 115, 115, 67, 97, 108, 108, 115, 46, 102, 111, 114, 107]⟩⟩
noncomputable def s310 : Str := ⟨⟨[110, 117, 109, 98, 101, 114]⟩⟩
noncomputable def s311 : Str := ⟨⟨[102, 105, 108, 101]⟩⟩
noncomputable def s312 : Str := ⟨⟨[80, 114, 111, 99, 101, 115, 115, 67, 97, 108, 108, 115, 46, 108, 101, 116, 95, 103, 111]⟩⟩
noncomputable def s313 : Str := ⟨⟨[115, 116, 97, 116, 117, 115]⟩⟩
noncomputable def s314 : Str := ⟨⟨[80, 114, 111, 99, 101, 115, 115, 67, 97, 108, 108, 115, 46, 101, 120, 105, 116]⟩⟩
noncomputable def s315 : Str := ⟨⟨[80, 114, 111, 99, 101, 115, 115, 67, 97, 108, 108, 115, 46, 119, 97, 105, 116]⟩⟩
noncomputable def s316 : Str := ⟨⟨[80, 114, 111, 99, 101, 115, 115, 67, 97, 108, 108, 115, 46, 107, 105, 108, 108]⟩⟩
noncomputable def s317 : Str := ⟨⟨[80, 114, 111, 99, 101, 115, 115, 67, 97, 108, 108, 115, 46, 117, 112, 116, 105, 109, 101]⟩⟩
noncomputable def s318 : Str := ⟨⟨[80, 114, 111, 99, 101, 115, 115, 67, 97, 108, 108, 115, 46, 115, 108, 101, 101, 112]⟩⟩
noncomputable def s319 : Str := ⟨⟨[80, 114, 111, 99, 101, 115, 115, 67, 97, 108, 108, 115, 46, 99, 108, 111, 115, 101]⟩⟩
noncomputable def s320 : Str := ⟨⟨[80, 114, 111, 99, 101, 115, 115, 67, 97, 108, 108, 115, 46, 108, 101, 116, 95, 99, 108, 111, 115, 101]⟩⟩
noncomputable def s321 : Str := ⟨⟨[80, 114, 111, 99, 101, 115, 115, 67, 97, 108, 108, 115, 46, 100, 117, 112]⟩⟩
noncomputable def s322 : Str := ⟨⟨[114, 101, 97, 100, 101, 114]⟩⟩
noncomputable def s323 : Str := ⟨⟨[119, 114, 105, 116, 101, 114]⟩⟩
noncomputable def s324 : Str := ⟨⟨[80, 114, 111, 99, 101, 115, 115, 67, 97, 108, 108, 115, 46, 112, 105, 112, 101]⟩⟩
noncomputable def s325 : Str := ⟨⟨[80, 114, 111, 99, 101, 115, 115, 67, 97, 108, 108, 115, 46, 102, 115, 116, 97, 116]⟩⟩
noncomputable def s326 : Str := ⟨⟨[115, 116, 97, 116, 101]⟩⟩
noncomputable def s327 : Str := ⟨⟨[80, 114, 111, 99, 101, 115, 115, 67, 97, 108, 108, 115, 46, 114, 101, 97, 100]⟩⟩
noncomputable def s328 : Str := ⟨⟨[100, 111, 110, 101]⟩⟩
noncomputable def s329 : Str := ⟨⟨[80, 114, 111, 99, 101, 115, 115, 67, 97, 108, 108, 115, 46, 119, 114, 105, 116, 101]⟩⟩
noncomputable def s330 : Str := ⟨⟨[112, 105, 112, 101, 98, 111, 97, 114, 100, 46, 98, 108, 111, 99, 107, 115]⟩⟩
noncomputable def s331 : Str := ⟨⟨[105, 115, 95, 102, 114, 101, 101]⟩⟩
noncomputable def s332 : Str := ⟨⟨[110, 101, 101, 100, 95, 112, 97, 114, 116]⟩⟩
noncomputable def s333 : Str := ⟨⟨[116, 97, 107, 101]⟩⟩
noncomputable def s334 : Str := ⟨⟨[112, 117, 116]⟩⟩
noncomputable def s335 : Str := ⟨⟨[102, 105, 108, 108]⟩⟩
noncomputable def s336 : Str := ⟨⟨[99, 108, 101, 97, 114]⟩⟩
noncomputable def s337 : Str := ⟨⟨[108, 105, 116, 116, 108, 101]⟩⟩
noncomputable def s338 : Str := ⟨⟨[112, 117, 116, 95, 108, 105, 116, 116, 108, 101]⟩⟩
noncomputable def s339 : Str := ⟨⟨[98, 105, 116]⟩⟩
noncomputable def s340 : Str := ⟨⟨[112, 117, 116, 95, 98, 105, 116]⟩⟩
noncomputable def s341 : Str := ⟨⟨[66, 117, 102, 102, 101, 114, 46, 95, 95, 105, 110, 105, 116, 95, 95]⟩⟩
noncomputable def s342 : Str := ⟨⟨[66, 117, 102, 102, 101, 114, 46, 105, 115, 95, 102, 114, 101, 101]⟩⟩
noncomputable def s343 : Str := ⟨⟨[66, 117, 102, 102, 101, 114, 46, 111, 99, 116, 101, 116, 115]⟩⟩
noncomputable def s344 : Str := ⟨⟨[112, 108, 97, 99, 101]⟩⟩
noncomputable def s345 : Str := ⟨⟨[66, 117, 102, 102, 101, 114, 46, 110, 101, 101, 100, 95, 112, 97, 114, 116]⟩⟩
noncomputable def s346 : Str := ⟨⟨[66, 117, 102, 102, 101, 114, 46, 116, 97, 107, 101]⟩⟩
noncomputable def s347 : Str := ⟨⟨[66, 117, 102, 102, 101, 114, 46, 112, 117, 116]⟩⟩
noncomputable def s348 : Str := ⟨⟨[66, 117, 102, 102, 101, 114, 46, 102, 105, 108, 108]⟩⟩
noncomputable def s349 : Str := ⟨⟨[66, 117, 102, 102, 101, 114, 46, 99, 108, 101, 97, 114]⟩⟩
noncomputable def s350 : Str := ⟨⟨[66, 117, 102, 102, 101, 114, 46, 108, 105, 116, 116, 108, 101]⟩⟩
noncomputable def s351 : Str := ⟨⟨[118, 97, 108, 117, 101]⟩⟩
noncomputable def s352 : Str := ⟨⟨[66, 117, 102, 102, 101, 114, 46, 112, 117, 116, 95, 108, 105, 116, 116, 108, 101]⟩⟩
noncomputable def s353 : Str := ⟨⟨[66, 117, 102, 102, 101, 114, 46, 98, 105, 116]⟩⟩
noncomputable def s354 : Str := ⟨⟨[66, 117, 102, 102, 101, 114, 46, 112, 117, 116, 95, 98, 105, 116]⟩⟩
noncomputable def s355 : Str := ⟨⟨[100, 97, 116, 97]⟩⟩
noncomputable def s356 : Str := ⟨⟨[104, 111, 108, 100, 101, 114, 115]⟩⟩
noncomputable def s357 : Str := ⟨⟨[112, 105, 110, 115]⟩⟩
noncomputable def s358 : Str := ⟨⟨[110, 101, 101, 100, 95, 98, 108, 111, 99, 107]⟩⟩
noncomputable def s359 : Str := ⟨⟨[110, 101, 101, 100, 95, 104, 101, 108, 100]⟩⟩
noncomputable def s360 : Str := ⟨⟨[103, 101, 116]⟩⟩
noncomputable def s361 : Str := ⟨⟨[109, 97, 107, 101, 95, 114, 111, 111, 109]⟩⟩
noncomputable def s362 : Str := ⟨⟨[114, 101, 108, 101, 97, 115, 101]⟩⟩
noncomputable def s363 : Str := ⟨⟨[112, 105, 110]⟩⟩
noncomputable def s364 : Str := ⟨⟨[117, 110, 112, 105, 110]⟩⟩
noncomputable def s365 : Str := ⟨⟨[102, 108, 117, 115, 104]⟩⟩
noncomputable def s366 : Str := ⟨⟨[112, 101, 101, 107]⟩⟩
noncomputable def s367 : Str := ⟨⟨[112, 111, 107, 101]⟩⟩
noncomputable def s368 : Str := ⟨⟨[107, 110, 111, 119, 110]⟩⟩
noncomputable def s369 : Str := ⟨⟨[102, 114, 101, 101, 95, 99, 111, 117, 110, 116]⟩⟩
noncomputable def s370 : Str := ⟨⟨[102, 111, 114, 103, 101, 116]⟩⟩
noncomputable def s371 : Str := ⟨⟨[100, 105, 115, 107]⟩⟩
noncomputable def s372 : Str := ⟨⟨[109, 111, 115, 116]⟩⟩
noncomputable def s373 : Str := ⟨⟨[67, 97, 99, 104, 101, 46, 95, 95, 105, 110, 105, 116, 95, 95]⟩⟩
noncomputable def s374 : Str := ⟨⟨[67, 97, 99, 104, 101, 46, 110, 101, 101, 100, 95, 98, 108, 111, 99, 107]⟩⟩
noncomputable def s375 : Str := ⟨⟨[98, 117, 102, 102, 101, 114]⟩⟩
noncomputable def s376 : Str := ⟨⟨[67, 97, 99, 104, 101, 46, 110, 101, 101, 100, 95, 104, 101, 108, 100]⟩⟩
noncomputable def s377 : Str := ⟨⟨[67, 97, 99, 104, 101, 46, 103, 101, 116]⟩⟩
noncomputable def s378 : Str := ⟨⟨[67, 97, 99, 104, 101, 46, 109, 97, 107, 101, 95, 114, 111, 111, 109]⟩⟩
noncomputable def s379 : Str := ⟨⟨[67, 97, 99, 104, 101, 46, 114, 101, 108, 101, 97, 115, 101]⟩⟩
noncomputable def s380 : Str := ⟨⟨[67, 97, 99, 104, 101, 46, 112, 105, 110]⟩⟩
noncomputable def s381 : Str := ⟨⟨[67, 97, 99, 104, 101, 46, 117, 110, 112, 105, 110]⟩⟩
noncomputable def s382 : Str := ⟨⟨[67, 97, 99, 104, 101, 46, 119, 114, 105, 116, 101]⟩⟩
noncomputable def s383 : Str := ⟨⟨[67, 97, 99, 104, 101, 46, 102, 108, 117, 115, 104]⟩⟩
noncomputable def s384 : Str := ⟨⟨[67, 97, 99, 104, 101, 46, 112, 101, 101, 107]⟩⟩
noncomputable def s385 : Str := ⟨⟨[67, 97, 99, 104, 101, 46, 112, 111, 107, 101]⟩⟩
noncomputable def s386 : Str := ⟨⟨[67, 97, 99, 104, 101, 46, 107, 110, 111, 119, 110]⟩⟩
noncomputable def s387 : Str := ⟨⟨[67, 97, 99, 104, 101, 46, 102, 114, 101, 101, 95, 99, 111, 117, 110, 116]⟩⟩
noncomputable def s388 : Str := ⟨⟨[67, 97, 99, 104, 101, 46, 102, 111, 114, 103, 101, 116]⟩⟩
noncomputable def s389 : Str := ⟨⟨[98, 121, 95, 110, 117, 109, 98, 101, 114]⟩⟩
noncomputable def s390 : Str := ⟨⟨[104, 105, 116, 115]⟩⟩
noncomputable def s391 : Str := ⟨⟨[114, 101, 97, 100, 115]⟩⟩
noncomputable def s392 : Str := ⟨⟨[114, 111, 119]⟩⟩
noncomputable def s393 : Str := ⟨⟨[112, 105, 112, 101, 98, 111, 97, 114, 100, 46, 100, 101, 118, 105, 99, 101, 115]⟩⟩
noncomputable def s394 : Str := ⟨⟨[110, 101, 101, 100, 95, 112, 111, 119, 101, 114]⟩⟩
noncomputable def s395 : Str := ⟨⟨[102, 97, 105, 108]⟩⟩
noncomputable def s396 : Str := ⟨⟨[115, 116, 111, 112, 95, 97, 102, 116, 101, 114]⟩⟩
noncomputable def s397 : Str := ⟨⟨[115, 116, 111, 112, 95, 97, 116, 95, 102, 108, 117, 115, 104]⟩⟩
noncomputable def s398 : Str := ⟨⟨[97, 102, 116, 101, 114]⟩⟩
noncomputable def s399 : Str := ⟨⟨[99, 111, 112, 121]⟩⟩
noncomputable def s400 : Str := ⟨⟨[105, 109, 97, 103, 101]⟩⟩
noncomputable def s401 : Str := ⟨⟨[98, 108, 111, 99, 107, 115]⟩⟩
noncomputable def s402 : Str := ⟨⟨[68, 105, 115, 107, 46, 95, 95, 105, 110, 105, 116, 95, 95]⟩⟩
noncomputable def s403 : Str := ⟨⟨[68, 105, 115, 107, 46, 110, 101, 101, 100, 95, 112, 111, 119, 101, 114]⟩⟩
noncomputable def s404 : Str := ⟨⟨[68, 105, 115, 107, 46, 110, 101, 101, 100, 95, 98, 108, 111, 99, 107]⟩⟩
noncomputable def s405 : Str := ⟨⟨[68, 105, 115, 107, 46, 114, 101, 97, 100]⟩⟩
noncomputable def s406 : Str := ⟨⟨[98, 108, 111, 99, 107]⟩⟩
noncomputable def s407 : Str := ⟨⟨[68, 105, 115, 107, 46, 119, 114, 105, 116, 101]⟩⟩
noncomputable def s408 : Str := ⟨⟨[68, 105, 115, 107, 46, 102, 97, 105, 108]⟩⟩
noncomputable def s409 : Str := ⟨⟨[68, 105, 115, 107, 46, 102, 108, 117, 115, 104]⟩⟩
noncomputable def s410 : Str := ⟨⟨[68, 105, 115, 107, 46, 115, 116, 111, 112, 95, 97, 102, 116, 101, 114]⟩⟩
noncomputable def s411 : Str := ⟨⟨[68, 105, 115, 107, 46, 115, 116, 111, 112, 95, 97, 116, 95, 102, 108, 117, 115, 104]⟩⟩
noncomputable def s412 : Str := ⟨⟨[99, 104, 111, 115, 101, 110]⟩⟩
noncomputable def s413 : Str := ⟨⟨[68, 105, 115, 107, 46, 97, 102, 116, 101, 114]⟩⟩
noncomputable def s414 : Str := ⟨⟨[68, 105, 115, 107, 46, 99, 111, 112, 121]⟩⟩
noncomputable def s415 : Str := ⟨⟨[68, 105, 115, 107, 46, 105, 109, 97, 103, 101]⟩⟩
noncomputable def s416 : Str := ⟨⟨[102, 108, 117, 115, 104, 101, 115]⟩⟩
noncomputable def s417 : Str := ⟨⟨[105, 115, 95, 100, 101, 97, 100]⟩⟩
noncomputable def s418 : Str := ⟨⟨[107, 101, 112, 116]⟩⟩
noncomputable def s419 : Str := ⟨⟨[108, 97, 115, 116]⟩⟩
noncomputable def s420 : Str := ⟨⟨[108, 97, 115, 116, 95, 102, 108, 117, 115, 104]⟩⟩
noncomputable def s421 : Str := ⟨⟨[108, 97, 116, 101, 115, 116]⟩⟩
noncomputable def s422 : Str := ⟨⟨[117, 110, 102, 108, 117, 115, 104, 101, 100]⟩⟩
noncomputable def s423 : Str := ⟨⟨[112, 105, 112, 101, 98, 111, 97, 114, 100, 46, 102, 105, 108, 101, 115]⟩⟩
noncomputable def s424 : Str := ⟨⟨[98, 97, 99, 107]⟩⟩
noncomputable def s425 : Str := ⟨⟨[107, 105, 110, 100]⟩⟩
noncomputable def s426 : Str := ⟨⟨[114, 101, 97, 100, 97, 98, 108, 101]⟩⟩
noncomputable def s427 : Str := ⟨⟨[119, 114, 105, 116, 97, 98, 108, 101]⟩⟩
noncomputable def s428 : Str := ⟨⟨[79, 112, 101, 110, 70, 105, 108, 101, 46, 95, 95, 105, 110, 105, 116, 95, 95]⟩⟩
noncomputable def s429 : Str := ⟨⟨[79, 112, 101, 110, 70, 105, 108, 101, 46, 115, 105, 100, 101]⟩⟩
noncomputable def s430 : Str := ⟨⟨[79, 112, 101, 110, 70, 105, 108, 101, 46, 98, 97, 99, 107]⟩⟩
noncomputable def s431 : Str := ⟨⟨[109, 97, 106, 111, 114]⟩⟩
noncomputable def s432 : Str := ⟨⟨[110, 101, 101, 100, 95, 114, 111, 111, 109]⟩⟩
noncomputable def s433 : Str := ⟨⟨[101, 110, 116, 101, 114]⟩⟩
noncomputable def s434 : Str := ⟨⟨[111, 112, 101, 110, 95, 112, 105, 112, 101]⟩⟩
noncomputable def s435 : Str := ⟨⟨[111, 112, 101, 110, 95, 110, 111, 100, 101]⟩⟩
noncomputable def s436 : Str := ⟨⟨[111, 112, 101, 110, 95, 100, 101, 118, 105, 99, 101]⟩⟩
noncomputable def s437 : Str := ⟨⟨[115, 104, 97, 114, 101]⟩⟩
noncomputable def s438 : Str := ⟨⟨[112, 105, 101, 99, 101]⟩⟩
noncomputable def s439 : Str := ⟨⟨[119, 114, 105, 116, 101, 95, 112, 105, 101, 99, 101]⟩⟩
noncomputable def s440 : Str := ⟨⟨[115, 116, 97, 116]⟩⟩
noncomputable def s441 : Str := ⟨⟨[119, 97, 105, 116, 115, 95, 102, 111, 114]⟩⟩
noncomputable def s442 : Str := ⟨⟨[70, 105, 108, 101, 84, 97, 98, 108, 101, 46, 95, 95, 105, 110, 105, 116, 95, 95]⟩⟩
noncomputable def s443 : Str := ⟨⟨[70, 105, 108, 101, 84, 97, 98, 108, 101, 46, 99, 111, 117, 110, 116]⟩⟩
noncomputable def s444 : Str := ⟨⟨[109, 97, 110, 121]⟩⟩
noncomputable def s445 : Str := ⟨⟨[70, 105, 108, 101, 84, 97, 98, 108, 101, 46, 110, 101, 101, 100, 95, 114, 111, 111, 109]⟩⟩
noncomputable def s446 : Str := ⟨⟨[70, 105, 108, 101, 84, 97, 98, 108, 101, 46, 101, 110, 116, 101, 114]⟩⟩
noncomputable def s447 : Str := ⟨⟨[101, 110, 100, 115]⟩⟩
noncomputable def s448 : Str := ⟨⟨[70, 105, 108, 101, 84, 97, 98, 108, 101, 46, 111, 112, 101, 110, 95, 112, 105, 112, 101]⟩⟩
noncomputable def s449 : Str := ⟨⟨[70, 105, 108, 101, 84, 97, 98, 108, 101, 46, 111, 112, 101, 110, 95, 110, 111, 100, 101]⟩⟩
noncomputable def s450 : Str := ⟨⟨[70, 105, 108, 101, 84, 97, 98, 108, 101, 46, 111, 112, 101, 110, 95, 100, 101, 118, 105, 99, 101]⟩⟩
noncomputable def s451 : Str := ⟨⟨[70, 105, 108, 101, 84, 97, 98, 108, 101, 46, 115, 104, 97, 114, 101]⟩⟩
noncomputable def s452 : Str := ⟨⟨[70, 105, 108, 101, 84, 97, 98, 108, 101, 46, 99, 108, 111, 115, 101]⟩⟩
noncomputable def s453 : Str := ⟨⟨[70, 105, 108, 101, 84, 97, 98, 108, 101, 46, 100, 101, 118, 105, 99, 101]⟩⟩
noncomputable def s454 : Str := ⟨⟨[70, 105, 108, 101, 84, 97, 98, 108, 101, 46, 114, 101, 97, 100]⟩⟩
noncomputable def s455 : Str := ⟨⟨[70, 105, 108, 101, 84, 97, 98, 108, 101, 46, 112, 105, 101, 99, 101]⟩⟩
noncomputable def s456 : Str := ⟨⟨[112, 97, 114, 116]⟩⟩
noncomputable def s457 : Str := ⟨⟨[70, 105, 108, 101, 84, 97, 98, 108, 101, 46, 119, 114, 105, 116, 101]⟩⟩
noncomputable def s458 : Str := ⟨⟨[70, 105, 108, 101, 84, 97, 98, 108, 101, 46, 119, 114, 105, 116, 101, 95, 112, 105, 101, 99, 101]⟩⟩
noncomputable def s459 : Str := ⟨⟨[70, 105, 108, 101, 84, 97, 98, 108, 101, 46, 115, 116, 97, 116]⟩⟩
noncomputable def s460 : Str := ⟨⟨[105, 115, 95, 119, 114, 105, 116, 101]⟩⟩
noncomputable def s461 : Str := ⟨⟨[70, 105, 108, 101, 84, 97, 98, 108, 101, 46, 119, 97, 105, 116, 115, 95, 102, 111, 114]⟩⟩
noncomputable def s462 : Str := ⟨⟨[102, 114, 101, 101]⟩⟩
noncomputable def s463 : Str := ⟨⟨[97, 108, 108, 95, 102, 105, 108, 101, 115]⟩⟩
noncomputable def s464 : Str := ⟨⟨[99, 108, 111, 115, 101, 95, 97, 108, 108]⟩⟩
noncomputable def s465 : Str := ⟨⟨[68, 101, 115, 99, 114, 105, 112, 116, 111, 114, 115, 46, 95, 95, 105, 110, 105, 116, 95, 95]⟩⟩
noncomputable def s466 : Str := ⟨⟨[68, 101, 115, 99, 114, 105, 112, 116, 111, 114, 115, 46, 112, 117, 116]⟩⟩
noncomputable def s467 : Str := ⟨⟨[68, 101, 115, 99, 114, 105, 112, 116, 111, 114, 115, 46, 102, 114, 101, 101]⟩⟩
noncomputable def s468 : Str := ⟨⟨[68, 101, 115, 99, 114, 105, 112, 116, 111, 114, 115, 46, 103, 101, 116]⟩⟩
noncomputable def s469 : Str := ⟨⟨[68, 101, 115, 99, 114, 105, 112, 116, 111, 114, 115, 46, 116, 97, 107, 101]⟩⟩
noncomputable def s470 : Str := ⟨⟨[68, 101, 115, 99, 114, 105, 112, 116, 111, 114, 115, 46, 97, 108, 108, 95, 102, 105, 108, 101, 115]⟩⟩
noncomputable def s471 : Str := ⟨⟨[68, 101, 115, 99, 114, 105, 112, 116, 111, 114, 115, 46, 99, 111, 112, 121]⟩⟩
noncomputable def s472 : Str := ⟨⟨[68, 101, 115, 99, 114, 105, 112, 116, 111, 114, 115, 46, 99, 108, 111, 115, 101, 95, 97, 108, 108]⟩⟩
noncomputable def s473 : Str := ⟨⟨[115, 108, 111, 116, 115]⟩⟩
noncomputable def s474 : Str := ⟨⟨[112, 105, 112, 101, 98, 111, 97, 114, 100, 46, 106, 111, 117, 114, 110, 97, 108]⟩⟩
noncomputable def s475 : Str := ⟨⟨[105, 115, 95, 111, 119, 110]⟩⟩
noncomputable def s476 : Str := ⟨⟨[104, 97, 115, 95, 114, 111, 111, 109]⟩⟩
noncomputable def s477 : Str := ⟨⟨[108, 101, 102, 116]⟩⟩
noncomputable def s478 : Str := ⟨⟨[98, 101, 103, 105, 110]⟩⟩
noncomputable def s479 : Str := ⟨⟨[101, 110, 100]⟩⟩
noncomputable def s480 : Str := ⟨⟨[99, 111, 109, 109, 105, 116]⟩⟩
noncomputable def s481 : Str := ⟨⟨[102, 105, 108, 108, 95, 108, 111, 103]⟩⟩
noncomputable def s482 : Str := ⟨⟨[119, 114, 105, 116, 101, 95, 104, 101, 97, 100]⟩⟩
noncomputable def s483 : Str := ⟨⟨[105, 110, 115, 116, 97, 108, 108]⟩⟩
noncomputable def s484 : Str := ⟨⟨[112, 101, 110, 100, 105, 110, 103]⟩⟩
noncomputable def s485 : Str := ⟨⟨[114, 101, 99, 111, 118, 101, 114]⟩⟩
noncomputable def s486 : Str := ⟨⟨[99, 97, 99, 104, 101]⟩⟩
noncomputable def s487 : Str := ⟨⟨[115, 116, 97, 114, 116]⟩⟩
noncomputable def s488 : Str := ⟨⟨[101, 97, 99, 104]⟩⟩
noncomputable def s489 : Str := ⟨⟨[74, 111, 117, 114, 110, 97, 108, 46, 95, 95, 105, 110, 105, 116, 95, 95]⟩⟩
noncomputable def s490 : Str := ⟨⟨[74, 111, 117, 114, 110, 97, 108, 46, 105, 115, 95, 111, 119, 110]⟩⟩
noncomputable def s491 : Str := ⟨⟨[74, 111, 117, 114, 110, 97, 108, 46, 104, 97, 115, 95, 114, 111, 111, 109]⟩⟩
noncomputable def s492 : Str := ⟨⟨[74, 111, 117, 114, 110, 97, 108, 46, 108, 101, 102, 116]⟩⟩
noncomputable def s493 : Str := ⟨⟨[74, 111, 117, 114, 110, 97, 108, 46, 98, 101, 103, 105, 110]⟩⟩
noncomputable def s494 : Str := ⟨⟨[74, 111, 117, 114, 110, 97, 108, 46, 119, 114, 105, 116, 101]⟩⟩
noncomputable def s495 : Str := ⟨⟨[74, 111, 117, 114, 110, 97, 108, 46, 101, 110, 100]⟩⟩
noncomputable def s496 : Str := ⟨⟨[74, 111, 117, 114, 110, 97, 108, 46, 99, 111, 109, 109, 105, 116]⟩⟩
noncomputable def s497 : Str := ⟨⟨[74, 111, 117, 114, 110, 97, 108, 46, 102, 105, 108, 108, 95, 108, 111, 103]⟩⟩
noncomputable def s498 : Str := ⟨⟨[110, 117, 109, 98, 101, 114, 115]⟩⟩
noncomputable def s499 : Str := ⟨⟨[74, 111, 117, 114, 110, 97, 108, 46, 119, 114, 105, 116, 101, 95, 104, 101, 97, 100]⟩⟩
noncomputable def s500 : Str := ⟨⟨[102, 114, 111, 109, 95, 108, 111, 103]⟩⟩
noncomputable def s501 : Str := ⟨⟨[74, 111, 117, 114, 110, 97, 108, 46, 105, 110, 115, 116, 97, 108, 108]⟩⟩
noncomputable def s502 : Str := ⟨⟨[74, 111, 117, 114, 110, 97, 108, 46, 112, 101, 110, 100, 105, 110, 103]⟩⟩
noncomputable def s503 : Str := ⟨⟨[74, 111, 117, 114, 110, 97, 108, 46, 114, 101, 99, 111, 118, 101, 114]⟩⟩
noncomputable def s504 : Str := ⟨⟨[99, 97, 108, 108, 115]⟩⟩
noncomputable def s505 : Str := ⟨⟨[99, 111, 109, 109, 105, 116, 115]⟩⟩
noncomputable def s506 : Str := ⟨⟨[110, 111, 116, 101, 100]⟩⟩
noncomputable def s507 : Str := ⟨⟨[112, 108, 97, 99, 101, 115]⟩⟩
noncomputable def s508 : Str := ⟨⟨[112, 105, 112, 101, 98, 111, 97, 114, 100, 46, 112, 114, 111, 99, 115]⟩⟩
noncomputable def s509 : Str := ⟨⟨[105, 115, 95, 116, 104, 101, 114, 101]⟩⟩
noncomputable def s510 : Str := ⟨⟨[105, 115, 95, 97, 108, 105, 118, 101]⟩⟩
noncomputable def s511 : Str := ⟨⟨[80, 114, 111, 99, 101, 115, 115, 46, 95, 95, 105, 110, 105, 116, 95, 95]⟩⟩
noncomputable def s512 : Str := ⟨⟨[80, 114, 111, 99, 101, 115, 115, 46, 99, 108, 101, 97, 114]⟩⟩
noncomputable def s513 : Str := ⟨⟨[80, 114, 111, 99, 101, 115, 115, 46, 105, 115, 95, 116, 104, 101, 114, 101]⟩⟩
noncomputable def s514 : Str := ⟨⟨[80, 114, 111, 99, 101, 115, 115, 46, 105, 115, 95, 97, 108, 105, 118, 101]⟩⟩
noncomputable def s515 : Str := ⟨⟨[80, 114, 111, 99, 101, 115, 115, 46, 115, 105, 122, 101]⟩⟩
noncomputable def s516 : Str := ⟨⟨[80, 114, 111, 99, 101, 115, 115, 46, 114, 111, 119]⟩⟩
noncomputable def s517 : Str := ⟨⟨[99, 119, 100]⟩⟩
noncomputable def s518 : Str := ⟨⟨[105, 110, 95, 99, 97, 108, 108]⟩⟩
noncomputable def s519 : Str := ⟨⟨[106, 111, 98]⟩⟩
noncomputable def s520 : Str := ⟨⟨[107, 105, 108, 108, 101, 100]⟩⟩
noncomputable def s521 : Str := ⟨⟨[110, 97, 109, 101]⟩⟩
noncomputable def s522 : Str := ⟨⟨[112, 97, 114, 101, 110, 116]⟩⟩
noncomputable def s523 : Str := ⟨⟨[112, 99]⟩⟩
noncomputable def s524 : Str := ⟨⟨[112, 114, 111, 103, 114, 101, 115, 115]⟩⟩
noncomputable def s525 : Str := ⟨⟨[114, 101, 103, 105, 115, 116, 101, 114, 115]⟩⟩
noncomputable def s526 : Str := ⟨⟨[115, 112, 97, 99, 101]⟩⟩
noncomputable def s527 : Str := ⟨⟨[116, 111, 108, 100]⟩⟩
noncomputable def s528 : Str := ⟨⟨[116, 117, 114, 110, 115]⟩⟩
noncomputable def s529 : Str := ⟨⟨[119, 97, 107, 101, 115]⟩⟩
noncomputable def s530 : Str := ⟨⟨[102, 114, 101, 101, 95, 112, 108, 97, 99, 101]⟩⟩
noncomputable def s531 : Str := ⟨⟨[110, 101, 119]⟩⟩
noncomputable def s532 : Str := ⟨⟨[102, 105, 110, 100]⟩⟩
noncomputable def s533 : Str := ⟨⟨[99, 104, 105, 108, 100, 114, 101, 110]⟩⟩
noncomputable def s534 : Str := ⟨⟨[110, 101, 101, 100, 95, 110, 101, 120, 116]⟩⟩
noncomputable def s535 : Str := ⟨⟨[114, 101, 112, 97, 114, 101, 110, 116]⟩⟩
noncomputable def s536 : Str := ⟨⟨[99, 104, 97, 110, 110, 101, 108, 95, 111, 102]⟩⟩
noncomputable def s537 : Str := ⟨⟨[114, 101, 97, 112]⟩⟩
noncomputable def s538 : Str := ⟨⟨[119, 97, 107, 101, 117, 112]⟩⟩
noncomputable def s539 : Str := ⟨⟨[114, 111, 119, 115]⟩⟩
noncomputable def s540 : Str := ⟨⟨[84, 97, 98, 108, 101, 46, 95, 95, 105, 110, 105, 116, 95, 95]⟩⟩
noncomputable def s541 : Str := ⟨⟨[84, 97, 98, 108, 101, 46, 102, 114, 101, 101, 95, 112, 108, 97, 99, 101]⟩⟩
noncomputable def s542 : Str := ⟨⟨[84, 97, 98, 108, 101, 46, 110, 101, 119]⟩⟩
noncomputable def s543 : Str := ⟨⟨[84, 97, 98, 108, 101, 46, 102, 105, 110, 100]⟩⟩
noncomputable def s544 : Str := ⟨⟨[84, 97, 98, 108, 101, 46, 97, 108, 108]⟩⟩
noncomputable def s545 : Str := ⟨⟨[84, 97, 98, 108, 101, 46, 99, 104, 105, 108, 100, 114, 101, 110]⟩⟩
noncomputable def s546 : Str := ⟨⟨[84, 97, 98, 108, 101, 46, 114, 101, 97, 100, 121]⟩⟩
noncomputable def s547 : Str := ⟨⟨[115, 116, 101, 112]⟩⟩
noncomputable def s548 : Str := ⟨⟨[84, 97, 98, 108, 101, 46, 110, 101, 120, 116]⟩⟩
noncomputable def s549 : Str := ⟨⟨[84, 97, 98, 108, 101, 46, 110, 101, 101, 100, 95, 110, 101, 120, 116]⟩⟩
noncomputable def s550 : Str := ⟨⟨[84, 97, 98, 108, 101, 46, 102, 111, 114, 107]⟩⟩
noncomputable def s551 : Str := ⟨⟨[99, 104, 105, 108, 100]⟩⟩
noncomputable def s552 : Str := ⟨⟨[84, 97, 98, 108, 101, 46, 114, 101, 112, 97, 114, 101, 110, 116]⟩⟩
noncomputable def s553 : Str := ⟨⟨[84, 97, 98, 108, 101, 46, 99, 104, 97, 110, 110, 101, 108, 95, 111, 102]⟩⟩
noncomputable def s554 : Str := ⟨⟨[84, 97, 98, 108, 101, 46, 101, 120, 105, 116]⟩⟩
noncomputable def s555 : Str := ⟨⟨[84, 97, 98, 108, 101, 46, 114, 101, 97, 112]⟩⟩
noncomputable def s556 : Str := ⟨⟨[84, 97, 98, 108, 101, 46, 119, 97, 105, 116]⟩⟩
noncomputable def s557 : Str := ⟨⟨[84, 97, 98, 108, 101, 46, 115, 108, 101, 101, 112]⟩⟩
noncomputable def s558 : Str := ⟨⟨[84, 97, 98, 108, 101, 46, 119, 97, 107, 101, 117, 112]⟩⟩
noncomputable def s559 : Str := ⟨⟨[84, 97, 98, 108, 101, 46, 107, 105, 108, 108]⟩⟩
noncomputable def s560 : Str := ⟨⟨[84, 97, 98, 108, 101, 46, 114, 111, 119, 115]⟩⟩
noncomputable def s561 : Str := ⟨⟨[102, 105, 114, 115, 116]⟩⟩
noncomputable def s562 : Str := ⟨⟨[110, 101, 120, 116, 95, 112, 105, 100]⟩⟩
noncomputable def s563 : Str := ⟨⟨[98, 111, 120]⟩⟩
noncomputable def s564 : Str := ⟨⟨[108, 97, 119, 95, 112, 113, 48, 57, 48, 57, 95, 48, 49]⟩⟩
noncomputable def s565 : Str := ⟨⟨[119, 111, 114, 108, 100]⟩⟩
noncomputable def s566 : Str := ⟨⟨[119, 97, 121]⟩⟩
noncomputable def s567 : Str := ⟨⟨[98, 101, 102, 111, 114, 101]⟩⟩
noncomputable def s568 : Str := ⟨⟨[115, 99, 114, 105, 112, 116]⟩⟩
noncomputable def s569 : Str := ⟨⟨[99, 101, 108, 108, 115]⟩⟩
noncomputable def s570 : Str := ⟨⟨[116, 117, 114, 110]⟩⟩
noncomputable def b0 (P : Params) : Obj := dO [e P s0 1 (.str s1 160), e P s2 2 (.builtin "builtins.__doc__:str#opaque"), e P s3 3 (.builtin "builtins.__package__:str#opaque"), e P s4 4 (.builtin "builtins.__loader__:shared#opaque"), e P s5 5 (.builtin PySem.W.SL.s11665532747177232413x24), e P s6 6 (.builtin PySem.W.SL.s15183661809925369436x15), e P s7 7 (.builtin PySem.W.SL.s13915890719876406383x10), e P s8 8 (.builtin PySem.W.SL.s13459172003223722735x3), e P s9 9 (.builtin PySem.W.SL.s10557405761357834076x3), e P s10 10 (.builtin PySem.W.SL.s4233737765568776869x3), e P s11 11 (.builtin PySem.W.SL.s2508922471967985374x5), e P s12 12 (.builtin PySem.W.SL.s15574269061696679450x3), e P s13 13 (.builtin PySem.W.SL.s6016482663378992977x10), e P s14 14 (.builtin PySem.W.SL.s5596568736180474577x8), e P s15 15 (.builtin PySem.W.SL.s2839554839881490554x3), e P s16 16 (.builtin PySem.W.SL.s725004073602090463x7), e P s17 17 (.builtin PySem.W.SL.s9436932552931045734x7), e P s18 18 (.builtin PySem.W.SL.s2754603736356183583x3), e P s19 19 (.builtin PySem.W.SL.s15185746759980889043x6), e P s20 20 (.builtin PySem.W.SL.s8192189862530294059x4), e P s21 21 (.builtin PySem.W.SL.s7038307821325472102x4), e P s22 22 (.builtin PySem.W.SL.s5662562618415449548x6), e P s23 23 (.builtin PySem.W.SL.s15281542589158584767x7), e P s24 24 (.builtin PySem.W.SL.s17651547275483570877x7), e P s25 25 (.builtin PySem.W.SL.s4036449017235975746x7), e P s26 26 (.builtin PySem.W.SL.s8879979712987360175x4), e P s27 27 (.builtin PySem.W.SL.s1801250619170735830x3), e P s28 28 (.builtin PySem.W.SL.s17659931425627118568x2), e P s29 29 (.builtin PySem.W.SL.s6063217899685152688x5), e P s30 30 (.builtin PySem.W.SL.s8008927332132565319x10), e P s31 31 (.builtin PySem.W.SL.s3544116645089599534x10), e P s32 32 (.builtin PySem.W.SL.s13761710972054866084x4), e P s33 33 (.builtin PySem.W.SL.s12896375587409280029x5), e P s34 34 (.builtin PySem.W.SL.s13014049009108672802x3), e P s35 35 (.builtin PySem.W.SL.s13935586738268321596x6), e P s36 36 (.builtin PySem.W.SL.s8200498257699607233x3), e P s37 37 (.builtin PySem.W.SL.s14114244577727609259x3), e P s38 38 (.builtin PySem.W.SL.s1499430450269397089x4), e P s39 39 (.builtin PySem.W.SL.s8755793994789770505x5), e P s40 40 (.builtin PySem.W.SL.s15725212667919936108x3), e P s41 41 (.builtin PySem.W.SL.s15791221867095933363x3), e P s42 42 (.builtin PySem.W.SL.s81309575031448614x3), e P s43 43 (.builtin PySem.W.SL.s8069831620301644142x5), e P s44 44 (.builtin PySem.W.SL.s10061844253413749634x4), e P s45 45 (.builtin PySem.W.SL.s9496514870978017513x5), e P s46 46 (.builtin PySem.W.SL.s8899691144933366716x7), e P s47 47 (.builtin PySem.W.SL.s15201008993051130160x6), e P s48 48 (.builtin PySem.W.SL.s741896355592496720x3), e P s49 49 (.builtin PySem.W.SL.s17925004256654032244x4), e P s50 50 .none, e P s51 51 .ellipsis, e P s52 52 .notImplemented, e P s53 53 (.bool false), e P s54 54 (.bool true), e P s55 55 (.type PySem.W.SL.s11695548795398191787x4), e P s56 56 (.type PySem.W.SL.s4156966113859768872x10), e P s57 57 (.type PySem.W.SL.s9501651726347032510x9), e P s58 58 (.type PySem.W.SL.s15722918466584999320x5), e P s59 59 (.type PySem.W.SL.s591115383303110208x11), e P s60 60 (.type PySem.W.SL.s15721156781594690315x7), e P s61 61 (.type PySem.W.SL.s14018661285674007319x4), e P s62 62 (.type PySem.W.SL.s14340494229221121180x9), e P s63 63 (.type PySem.W.SL.s13429844117177748173x6), e P s64 64 (.type PySem.W.SL.s16463266125957815391x5), e P s65 65 (.type PySem.W.SL.s4922535414793169389x9), e P s66 66 (.type PySem.W.SL.s8101838861749082086x8), e P s67 67 (.type PySem.W.SL.s7066276694103001551x3), e P s68 68 (.type PySem.W.SL.s9222952809800978799x4), e P s69 69 (.type PySem.W.SL.s462964344163437139x3), e P s70 70 (.type PySem.W.SL.s2742458400755230247x6), e P s71 71 (.type PySem.W.SL.s1438033511350832697x5), e P s72 72 (.type PySem.W.SL.s14365286008749172514x8), e P s73 73 (.type PySem.W.SL.s3642769012341782148x3), e P s74 74 (.type PySem.W.SL.s4674234679698826739x5), e P s75 75 (.type PySem.W.SL.s16656946322747308186x12), e P s76 76 (.type PySem.W.SL.s10796804682411823810x3), e P s77 77 (.type PySem.W.SL.s4290257624100764138x5), e P s78 78 (.type PySem.W.SL.s2766695959194262286x5), e P s79 79 (.type PySem.W.SL.s17162191345867700912x4), e P s80 80 (.type PySem.W.SL.s14339709457334898076x3), e P s81 81 (.bool true), e P s82 82 (.type PySem.W.SL.s4278001404047624695x13), e P s83 83 (.type PySem.W.SL.s6585700554429387442x18), e P s84 84 (.type PySem.W.SL.s5946037652744460706x9), e P s85 85 (.type PySem.W.SL.s7410770068591931388x13), e P s86 86 (.type PySem.W.SL.s11817881795495490833x17), e P s87 87 (.type PySem.W.SL.s15679963881808890155x10), e P s88 88 (.type PySem.W.SL.s3871700062485845797x15), e P s89 89 (.type PySem.W.SL.s7689518266570723881x14), e P s90 90 (.type PySem.W.SL.s9001593270443806431x14), e P s91 91 (.type PySem.W.SL.s6882542574934516792x11), e P s92 92 (.type PySem.W.SL.s14403400214490484960x8), e P s93 93 (.type PySem.W.SL.s14457978657717015782x11), e P s94 94 (.type PySem.W.SL.s1753610191782819921x11), e P s95 95 (.type PySem.W.SL.s14119380538032626715x11), e P s96 96 (.type PySem.W.SL.s11437920000406562045x9), e P s97 97 (.type PySem.W.SL.s10852414792293593619x7), e P s98 98 (.type PySem.W.SL.s14816307405966870543x14), e P s99 99 (.type PySem.W.SL.s8682627914449686677x12), e P s100 100 (.type PySem.W.SL.s4428170145600203450x18), e P s101 101 (.type PySem.W.SL.s5991306692159431302x13), e P s102 102 (.type PySem.W.SL.s16067994140765818257x11), e P s103 103 (.type PySem.W.SL.s2327743974964600596x11), e P s104 104 (.type PySem.W.SL.s2804747833354056582x9), e P s105 105 (.type PySem.W.SL.s6070975301684473832x10), e P s106 106 (.type PySem.W.SL.s14270485950484850486x7), e P s107 107 (.type PySem.W.SL.s12041534306414923332x18), e P s108 108 (.type PySem.W.SL.s2531307568338490285x13), e P s109 109 (.type PySem.W.SL.s631175304937289666x17), e P s110 110 (.type PySem.W.SL.s5144983644357021410x12), e P s111 111 (.type PySem.W.SL.s18039099521571816885x18), e P s112 112 (.type PySem.W.SL.s6011586214260557989x15), e P s113 113 (.type PySem.W.SL.s5430567037509283100x13), e P s114 114 (.type PySem.W.SL.s8117915138073963741x13), e P s115 115 (.type PySem.W.SL.s3423317712779056401x25), e P s116 116 (.type PySem.W.SL.s2007317383269046180x15), e P s117 117 (.type PySem.W.SL.s17481586968713580700x14), e P s118 118 (.type PySem.W.SL.s2450899226349176912x13), e P s119 119 (.type PySem.W.SL.s16626165730633575011x14), e P s120 120 (.type PySem.W.SL.s14288496050688921416x11), e P s121 121 (.type PySem.W.SL.s5735081916595925998x15), e P s122 122 (.type PySem.W.SL.s3865607918536308442x17), e P s123 123 (.type PySem.W.SL.s13337502604062700212x15), e P s124 124 (.type PySem.W.SL.s13114017843053701147x15), e P s125 125 (.type PySem.W.SL.s17467278006356818441x17), e P s126 126 (.type PySem.W.SL.s17722149559621369488x16), e P s127 127 (.type PySem.W.SL.s7855274175708717672x17), e P s128 128 (.type PySem.W.SL.s13351283678309829046x18), e P s129 129 (.type PySem.W.SL.s6668348653404991179x15), e P s130 130 (.type PySem.W.SL.s12913350958174193794x18), e P s131 131 (.type PySem.W.SL.s16115879512475548326x12), e P s132 132 (.type PySem.W.SL.s15920661018069861047x16), e P s133 133 (.type PySem.W.SL.s10779130036587390575x21), e P s134 134 (.type PySem.W.SL.s7801419657504700863x10), e P s135 135 (.type PySem.W.SL.s1688129525768580628x8), e P s136 136 (.type PySem.W.SL.s1031832959479892071x19), e P s137 137 (.type PySem.W.SL.s8991790508128307865x19), e P s138 138 (.type PySem.W.SL.s14539662485746970245x23), e P s139 139 (.type PySem.W.SL.s11643622729373238714x14), e P s140 140 (.type PySem.W.SL.s3386828779285465597x17), e P s141 141 (.type PySem.W.SL.s13042696260734638735x12), e P s142 142 (.type PySem.W.SL.s18239426817015966623x15), e P s143 143 (.type PySem.W.SL.s1270395311379034370x22), e P s144 144 (.type PySem.W.SL.s10696252587037064777x22), e P s145 145 (.type PySem.W.SL.s7852717498200857586x20), e P s146 146 (.type PySem.W.SL.s6377248116197321094x8), e P s147 147 (.type PySem.W.SL.s3834378056692298002x18), e P s148 148 (.type PySem.W.SL.s17586630440231065808x18), e P s149 149 (.type PySem.W.SL.s15234114252648025395x21), e P s150 150 (.type PySem.W.SL.s8496462677383758984x14), e P s151 151 (.type PySem.W.SL.s10852414792293593619x7), e P s152 152 (.type PySem.W.SL.s10852414792293593619x7), e P s153 153 (.builtin PySem.W.SL.s16789243406116112673x4), e P s154 154 (.builtin PySem.W.SL.s14400166428656793546x20), e P s155 155 (.builtin PySem.W.SL.s5857708277339239366x20), e P s156 156 (.builtin "builtins.copyright#opaque"), e P s157 157 (.builtin "builtins.credits#opaque"), e P s158 158 (.builtin "builtins.license#opaque"), e P s159 159 (.builtin PySem.W.SL.s7804999707787243718x20)] 159
noncomputable def gl (P : Params) (nm : Value) : List DictEntry := [e P s0 165 nm, e P s2 166 .none, e P s3 167 .none, e P s4 168 (.builtin PySem.W.SL.s7097527257260152453x26), e P s5 169 .none, e P s160 170 (.ref 6), e P s161 171 (.ref 4), e P s162 173 (.str s163 172), e P s164 174 .none, e P s165 193 (.ref 21), e P s166 223 (.ref 39), e P s167 239 (.ref 52), e P s168 255 (.ref 64), e P s169 271 (.ref 76), e P s170 287 (.ref 88), e P s171 303 (.ref 100), e P s172 328 (.ref 119), e P s173 332 (.int 0 331), e P s174 334 (.int 1 333), e P s175 336 (.int 2 335), e P s176 338 (.int 0 337), e P s177 340 (.int 1 339), e P s178 426 (.ref 181), e P s179 482 (.ref 224), e P s180 486 (.ref 229), e P s181 492 (.ref 234), e P s182 532 (.ref 252), e P s183 732 (.ref 399), e P s184 859 (.ref 497), e P s185 1011 (.ref 616), e P s186 1139 (.ref 714), e P s187 1146 (.ref 725), e P s188 1150 (.str s189 1149), e P s190 1152 (.str s191 1151), e P s192 1154 (.str s193 1153), e P s194 1207 (.ref 756), e P s195 1379 (.ref 880), e P s196 1464 (.ref 947), e P s197 1468 (.int 4 1467), e P s198 1470 (.int 10 1469), e P s199 1472 (.int 4 1471), e P s200 1478 (.ref 956), e P s201 1614 (.ref 1058), e P s202 1618 (.str s203 1617), e P s204 1620 (.str s205 1619), e P s206 1622 (.str s207 1621), e P s208 1624 (.str s209 1623), e P s210 1626 (.str s211 1625), e P s212 1628 (.str s213 1627), e P s214 1711 (.ref 1115), e P s215 1894 (.ref 1258), e P s216 1905 (.ref 1269), e P s217 1916 (.ref 1276), e P s218 1923 (.ref 1283), e P s219 1930 (.ref 1290), e P s220 1942 (.ref 1297), e P s221 1952 (.ref 1304), e P s222 1963 (.ref 1311), e P s223 1969 (.ref 1316), e P s224 1979 (.ref 1323), e P s225 1986 (.ref 1330), e P s226 1997 (.ref 1337)]
noncomputable def o3 (P : Params) (nm : Value) (c k : Nat) : Obj := dO (tk c (gl P nm)) k
noncomputable def tb : List Value := [(.int 1 0), (.int 0 0), (.ref 20), (.int 5 0), (.int 0 0), (.ref 27), (.int 10 0), (.int 0 0), (.ref 48), (.int 12 0), (.int 0 0), (.ref 60), (.int 14 0), (.int 0 0), (.ref 72), (.int 16 0), (.int 0 0), (.ref 84), (.int 18 0), (.int 0 0), (.ref 96), (.int 20 0), (.int 0 0), (.ref 108), (.int 31 0), (.int 0 0), (.ref 127), (.int 79 0), (.int 0 0), (.ref 191), (.int 100 0), (.int 0 0), (.ref 233), (.int 108 0), (.int 0 0), (.ref 240), (.int 118 0), (.int 0 0), (.ref 262), (.int 232 0), (.int 0 0), (.ref 409), (.int 277 0), (.int 0 0), (.ref 507), (.int 372 0), (.int 0 0), (.ref 626), (.int 444 0), (.int 0 0), (.ref 724), (.int 455 0), (.int 0 0), (.ref 731), (.int 473 0), (.int 0 0), (.ref 766), (.int 587 0), (.int 0 0), (.ref 890), (.int 627 0), (.int 0 0), (.ref 955), (.int 634 0), (.int 0 0), (.ref 962), (.int 727 0), (.int 0 0), (.ref 1068), (.int 765 0), (.int 0 0), (.ref 1125), (.int 885 0), (.int 0 0), (.ref 1268), (.int 889 0), (.int 0 0), (.ref 1275), (.int 899 0), (.int 0 0), (.ref 1282), (.int 903 0), (.int 0 0), (.ref 1289), (.int 919 0), (.int 0 0), (.ref 1296), (.int 926 0), (.int 0 0), (.ref 1303), (.int 929 0), (.int 0 0), (.ref 1310), (.int 934 0), (.int 0 0), (.ref 1315), (.int 943 0), (.int 0 0), (.ref 1322), (.int 957 0), (.int 0 0), (.ref 1329), (.int 961 0), (.int 0 0), (.ref 1336)]
noncomputable def o12 (c : Nat) : Obj := nO (tk c tb)
noncomputable def o11 : Obj := tO []
noncomputable def o13 : Obj := cO s227 s227 s163 182 185 1 0 0 11 false 12 .none .none .none
noncomputable def o14 : Obj := ⟨(.type PySem.W.SL.s658472552662922059x5), none, .plain, ⟨[some (.ref 13), some (.ref 3), some (.ref 3), none, some (.str s228 164), none, some (.ref 0)]⟩⟩
noncomputable def o15 : Obj := tO []
noncomputable def o16 : Obj := nO []
noncomputable def o17 : Obj := tO [(.str s229 190)]
noncomputable def o18 : Obj := tO []
noncomputable def o19 (p : Program) : Obj := ⟨.none, none, fD (nth p.main.body 0) s165 .none .none .none .none 0, ⟨[]⟩⟩
noncomputable def o20 : Obj := cO s165 s165 s163 187 191 1 1 3 15 true 16 (.ref 17) (.ref 18) (.ref 19)
noncomputable def o21 (p : Program) : Obj := ⟨(.type PySem.W.SL.s7174869446012820540x8), none, fD (nth p.main.body 0) s165 .none .none (.ref 20) (.str s228 164) 3, ⟨[]⟩⟩
noncomputable def o22 : Obj := tO [(.type PySem.W.SL.s6070975301684473832x10)]
noncomputable def o23 : Obj := ⟨(.type PySem.W.SL.s11030030927630378310x26), none, .fields ⟨[(.builtin PySem.W.SL.s10062305145149207511x16), (.type PySem.W.SL.s17162191345867700912x4)]⟩, ⟨[]⟩⟩
noncomputable def o24 (P : Params) : Obj := dO [e P s230 203 (.str s231 194), e P s232 205 (.str s166 204), e P s233 207 (.int 5 206), e P s234 216 (.ref 36), e P s235 218 (.ref 37)] 5
noncomputable def o25 : Obj := tO []
noncomputable def o26 : Obj := nO [(.int 7 0), (.int 4 0), (.ref 35)]
noncomputable def o27 : Obj := cO s166 s166 s163 198 201 5 0 0 25 false 26 .none .none .none
noncomputable def o28 : Obj := ⟨(.type PySem.W.SL.s658472552662922059x5), none, .plain, ⟨[some (.ref 27), some (.ref 3), some (.ref 24), none, some (.str s231 194), none, some (.ref 0)]⟩⟩
noncomputable def o29 : Obj := tO [(.str s236 208)]
noncomputable def o30 : Obj := tO []
noncomputable def o31 : Obj := nO []
noncomputable def o32 : Obj := tO [(.str s237 212), (.str s238 213)]
noncomputable def o33 : Obj := tO []
noncomputable def o34 (p : Program) : Obj := ⟨.none, none, fD (meth p 2 0) s239 .none .none .none .none 0, ⟨[]⟩⟩
noncomputable def o35 : Obj := cO s234 s239 s163 209 214 7 2 3 30 true 31 (.ref 32) (.ref 33) (.ref 34)
noncomputable def o36 (p : Program) : Obj := ⟨(.type PySem.W.SL.s7174869446012820540x8), none, fD (meth p 2 0) s239 (.ref 29) .none (.ref 35) (.str s231 194) 3, ⟨[]⟩⟩
noncomputable def o37 : Obj := tO [(.str s238 217)]
noncomputable def o38 (P : Params) : Obj := dO [e P s230 203 (.str s231 194), e P s233 207 (.int 5 206), e P s234 216 (.ref 36), e P s235 218 (.ref 37), e P s240 220 (.ref 40), e P s2 221 .none] 3
noncomputable def sb : List Value := [(.ref 52), (.ref 64), (.ref 76), (.ref 88), (.ref 100), (.ref 119)]
noncomputable def o39 (c : Nat) : Obj := ⟨(.type PySem.W.SL.s17162191345867700912x4), none, kD s166 [(.type PySem.W.SL.s6070975301684473832x10)] [(.ref 39), (.type PySem.W.SL.s6070975301684473832x10), (.type PySem.W.SL.s5946037652744460706x9), (.type PySem.W.SL.s4278001404047624695x13), (.type PySem.W.SL.s2742458400755230247x6)] 38 s166 true [] (tk c sb) false none false, ⟨[some (.ref 22), none, some (.str s166 196), some (.str s166 204), some (.builtin PySem.W.SL.s4209523147560561109x18), some (.bool true)]⟩⟩
noncomputable def o40 : Obj := ⟨(.type PySem.W.SL.s14755015743595814543x17), none, .fields ⟨[(.str s240 219), (.ref 39), (.builtin PySem.W.SL.s10220274742760427390x26), .none]⟩, ⟨[]⟩⟩
noncomputable def o41 : Obj := ⟨(.type PySem.W.SL.s4290257624100764138x5), none, .fields ⟨[(.ref 39), (.ref 39), (.ref 39)]⟩, ⟨[]⟩⟩
noncomputable def o42 : Obj := ⟨(.type PySem.W.SL.s11030030927630378310x26), none, .fields ⟨[(.builtin PySem.W.SL.s4860613602091757760x24), (.ref 39)]⟩, ⟨[]⟩⟩
noncomputable def o43 : Obj := tO [(.ref 39)]
noncomputable def o44 : Obj := ⟨(.type PySem.W.SL.s11030030927630378310x26), none, .fields ⟨[(.builtin PySem.W.SL.s10062305145149207511x16), (.type PySem.W.SL.s17162191345867700912x4)]⟩, ⟨[]⟩⟩
noncomputable def o45 (P : Params) : Obj := dO [e P s230 231 (.str s231 194), e P s232 233 (.str s167 232), e P s233 235 (.int 10 234), e P s235 236 (.ref 50)] 4
noncomputable def o46 : Obj := tO []
noncomputable def o47 : Obj := nO []
noncomputable def o48 : Obj := cO s167 s167 s163 226 229 10 0 0 46 false 47 .none .none .none
noncomputable def o49 : Obj := ⟨(.type PySem.W.SL.s658472552662922059x5), none, .plain, ⟨[some (.ref 48), some (.ref 3), some (.ref 45), none, some (.str s231 194), none, some (.ref 0)]⟩⟩
noncomputable def o50 : Obj := tO []
noncomputable def o51 (P : Params) : Obj := dO [e P s230 231 (.str s231 194), e P s233 235 (.int 10 234), e P s235 236 (.ref 50), e P s2 237 .none] 2
noncomputable def o52 : Obj := ⟨(.type PySem.W.SL.s17162191345867700912x4), none, kD s167 [(.ref 39)] [(.ref 52), (.ref 39), (.type PySem.W.SL.s6070975301684473832x10), (.type PySem.W.SL.s5946037652744460706x9), (.type PySem.W.SL.s4278001404047624695x13), (.type PySem.W.SL.s2742458400755230247x6)] 51 s167 true [] [] false none false, ⟨[some (.ref 43), none, some (.str s167 224), some (.str s167 232), some (.builtin PySem.W.SL.s4209523147560561109x18), some (.bool true)]⟩⟩
noncomputable def o53 : Obj := ⟨(.type PySem.W.SL.s4290257624100764138x5), none, .fields ⟨[(.ref 52), (.ref 52), (.ref 52)]⟩, ⟨[]⟩⟩
noncomputable def o54 : Obj := ⟨(.type PySem.W.SL.s11030030927630378310x26), none, .fields ⟨[(.builtin PySem.W.SL.s4860613602091757760x24), (.ref 52)]⟩, ⟨[]⟩⟩
noncomputable def o55 : Obj := tO [(.ref 39)]
noncomputable def o56 : Obj := ⟨(.type PySem.W.SL.s11030030927630378310x26), none, .fields ⟨[(.builtin PySem.W.SL.s10062305145149207511x16), (.type PySem.W.SL.s17162191345867700912x4)]⟩, ⟨[]⟩⟩
noncomputable def o57 (P : Params) : Obj := dO [e P s230 247 (.str s231 194), e P s232 249 (.str s168 248), e P s233 251 (.int 12 250), e P s235 252 (.ref 62)] 4
noncomputable def o58 : Obj := tO []
noncomputable def o59 : Obj := nO []
noncomputable def o60 : Obj := cO s168 s168 s163 242 245 12 0 0 58 false 59 .none .none .none
noncomputable def o61 : Obj := ⟨(.type PySem.W.SL.s658472552662922059x5), none, .plain, ⟨[some (.ref 60), some (.ref 3), some (.ref 57), none, some (.str s231 194), none, some (.ref 0)]⟩⟩
noncomputable def o62 : Obj := tO []
noncomputable def o63 (P : Params) : Obj := dO [e P s230 247 (.str s231 194), e P s233 251 (.int 12 250), e P s235 252 (.ref 62), e P s2 253 .none] 2
noncomputable def o64 : Obj := ⟨(.type PySem.W.SL.s17162191345867700912x4), none, kD s168 [(.ref 39)] [(.ref 64), (.ref 39), (.type PySem.W.SL.s6070975301684473832x10), (.type PySem.W.SL.s5946037652744460706x9), (.type PySem.W.SL.s4278001404047624695x13), (.type PySem.W.SL.s2742458400755230247x6)] 63 s168 true [] [] false none false, ⟨[some (.ref 55), none, some (.str s168 240), some (.str s168 248), some (.builtin PySem.W.SL.s4209523147560561109x18), some (.bool true)]⟩⟩
noncomputable def o65 : Obj := ⟨(.type PySem.W.SL.s4290257624100764138x5), none, .fields ⟨[(.ref 64), (.ref 64), (.ref 64)]⟩, ⟨[]⟩⟩
noncomputable def o66 : Obj := ⟨(.type PySem.W.SL.s11030030927630378310x26), none, .fields ⟨[(.builtin PySem.W.SL.s4860613602091757760x24), (.ref 64)]⟩, ⟨[]⟩⟩
noncomputable def o67 : Obj := tO [(.ref 39)]
noncomputable def o68 : Obj := ⟨(.type PySem.W.SL.s11030030927630378310x26), none, .fields ⟨[(.builtin PySem.W.SL.s10062305145149207511x16), (.type PySem.W.SL.s17162191345867700912x4)]⟩, ⟨[]⟩⟩
noncomputable def o69 (P : Params) : Obj := dO [e P s230 263 (.str s231 194), e P s232 265 (.str s169 264), e P s233 267 (.int 14 266), e P s235 268 (.ref 74)] 4
noncomputable def o70 : Obj := tO []
noncomputable def o71 : Obj := nO []
noncomputable def o72 : Obj := cO s169 s169 s163 258 261 14 0 0 70 false 71 .none .none .none
noncomputable def o73 : Obj := ⟨(.type PySem.W.SL.s658472552662922059x5), none, .plain, ⟨[some (.ref 72), some (.ref 3), some (.ref 69), none, some (.str s231 194), none, some (.ref 0)]⟩⟩
noncomputable def o74 : Obj := tO []
noncomputable def o75 (P : Params) : Obj := dO [e P s230 263 (.str s231 194), e P s233 267 (.int 14 266), e P s235 268 (.ref 74), e P s2 269 .none] 2
noncomputable def o76 : Obj := ⟨(.type PySem.W.SL.s17162191345867700912x4), none, kD s169 [(.ref 39)] [(.ref 76), (.ref 39), (.type PySem.W.SL.s6070975301684473832x10), (.type PySem.W.SL.s5946037652744460706x9), (.type PySem.W.SL.s4278001404047624695x13), (.type PySem.W.SL.s2742458400755230247x6)] 75 s169 true [] [] false none false, ⟨[some (.ref 67), none, some (.str s169 256), some (.str s169 264), some (.builtin PySem.W.SL.s4209523147560561109x18), some (.bool true)]⟩⟩
noncomputable def o77 : Obj := ⟨(.type PySem.W.SL.s4290257624100764138x5), none, .fields ⟨[(.ref 76), (.ref 76), (.ref 76)]⟩, ⟨[]⟩⟩
noncomputable def o78 : Obj := ⟨(.type PySem.W.SL.s11030030927630378310x26), none, .fields ⟨[(.builtin PySem.W.SL.s4860613602091757760x24), (.ref 76)]⟩, ⟨[]⟩⟩
noncomputable def o79 : Obj := tO [(.ref 39)]
noncomputable def o80 : Obj := ⟨(.type PySem.W.SL.s11030030927630378310x26), none, .fields ⟨[(.builtin PySem.W.SL.s10062305145149207511x16), (.type PySem.W.SL.s17162191345867700912x4)]⟩, ⟨[]⟩⟩
noncomputable def o81 (P : Params) : Obj := dO [e P s230 279 (.str s231 194), e P s232 281 (.str s170 280), e P s233 283 (.int 16 282), e P s235 284 (.ref 86)] 4
noncomputable def o82 : Obj := tO []
noncomputable def o83 : Obj := nO []
noncomputable def o84 : Obj := cO s170 s170 s163 274 277 16 0 0 82 false 83 .none .none .none
noncomputable def o85 : Obj := ⟨(.type PySem.W.SL.s658472552662922059x5), none, .plain, ⟨[some (.ref 84), some (.ref 3), some (.ref 81), none, some (.str s231 194), none, some (.ref 0)]⟩⟩
noncomputable def o86 : Obj := tO []
noncomputable def o87 (P : Params) : Obj := dO [e P s230 279 (.str s231 194), e P s233 283 (.int 16 282), e P s235 284 (.ref 86), e P s2 285 .none] 2
noncomputable def o88 : Obj := ⟨(.type PySem.W.SL.s17162191345867700912x4), none, kD s170 [(.ref 39)] [(.ref 88), (.ref 39), (.type PySem.W.SL.s6070975301684473832x10), (.type PySem.W.SL.s5946037652744460706x9), (.type PySem.W.SL.s4278001404047624695x13), (.type PySem.W.SL.s2742458400755230247x6)] 87 s170 true [] [] false none false, ⟨[some (.ref 79), none, some (.str s170 272), some (.str s170 280), some (.builtin PySem.W.SL.s4209523147560561109x18), some (.bool true)]⟩⟩
noncomputable def o89 : Obj := ⟨(.type PySem.W.SL.s4290257624100764138x5), none, .fields ⟨[(.ref 88), (.ref 88), (.ref 88)]⟩, ⟨[]⟩⟩
noncomputable def o90 : Obj := ⟨(.type PySem.W.SL.s11030030927630378310x26), none, .fields ⟨[(.builtin PySem.W.SL.s4860613602091757760x24), (.ref 88)]⟩, ⟨[]⟩⟩
noncomputable def o91 : Obj := tO [(.ref 39)]
noncomputable def o92 : Obj := ⟨(.type PySem.W.SL.s11030030927630378310x26), none, .fields ⟨[(.builtin PySem.W.SL.s10062305145149207511x16), (.type PySem.W.SL.s17162191345867700912x4)]⟩, ⟨[]⟩⟩
noncomputable def o93 (P : Params) : Obj := dO [e P s230 295 (.str s231 194), e P s232 297 (.str s171 296), e P s233 299 (.int 18 298), e P s235 300 (.ref 98)] 4
noncomputable def o94 : Obj := tO []
noncomputable def o95 : Obj := nO []
noncomputable def o96 : Obj := cO s171 s171 s163 290 293 18 0 0 94 false 95 .none .none .none
noncomputable def o97 : Obj := ⟨(.type PySem.W.SL.s658472552662922059x5), none, .plain, ⟨[some (.ref 96), some (.ref 3), some (.ref 93), none, some (.str s231 194), none, some (.ref 0)]⟩⟩
noncomputable def o98 : Obj := tO []
noncomputable def o99 (P : Params) : Obj := dO [e P s230 295 (.str s231 194), e P s233 299 (.int 18 298), e P s235 300 (.ref 98), e P s2 301 .none] 2
noncomputable def o100 : Obj := ⟨(.type PySem.W.SL.s17162191345867700912x4), none, kD s171 [(.ref 39)] [(.ref 100), (.ref 39), (.type PySem.W.SL.s6070975301684473832x10), (.type PySem.W.SL.s5946037652744460706x9), (.type PySem.W.SL.s4278001404047624695x13), (.type PySem.W.SL.s2742458400755230247x6)] 99 s171 true [] [] false none false, ⟨[some (.ref 91), none, some (.str s171 288), some (.str s171 296), some (.builtin PySem.W.SL.s4209523147560561109x18), some (.bool true)]⟩⟩
noncomputable def o101 : Obj := ⟨(.type PySem.W.SL.s4290257624100764138x5), none, .fields ⟨[(.ref 100), (.ref 100), (.ref 100)]⟩, ⟨[]⟩⟩
noncomputable def o102 : Obj := ⟨(.type PySem.W.SL.s11030030927630378310x26), none, .fields ⟨[(.builtin PySem.W.SL.s4860613602091757760x24), (.ref 100)]⟩, ⟨[]⟩⟩
noncomputable def o103 : Obj := tO [(.ref 39)]
noncomputable def o104 : Obj := ⟨(.type PySem.W.SL.s11030030927630378310x26), none, .fields ⟨[(.builtin PySem.W.SL.s10062305145149207511x16), (.type PySem.W.SL.s17162191345867700912x4)]⟩, ⟨[]⟩⟩
noncomputable def o105 (P : Params) : Obj := dO [e P s230 311 (.str s231 194), e P s232 313 (.str s172 312), e P s233 315 (.int 20 314), e P s234 323 (.ref 116), e P s235 325 (.ref 117)] 5
noncomputable def o106 : Obj := tO []
noncomputable def o107 : Obj := nO [(.int 22 0), (.int 4 0), (.ref 115)]
noncomputable def o108 : Obj := cO s172 s172 s163 306 309 20 0 0 106 false 107 .none .none .none
noncomputable def o109 : Obj := ⟨(.type PySem.W.SL.s658472552662922059x5), none, .plain, ⟨[some (.ref 108), some (.ref 3), some (.ref 105), none, some (.str s231 194), none, some (.ref 0)]⟩⟩
noncomputable def o110 : Obj := tO []
noncomputable def o111 : Obj := nO []
noncomputable def o112 : Obj := tO [(.str s237 319), (.str s241 320)]
noncomputable def o113 : Obj := tO []
noncomputable def o114 (p : Program) : Obj := ⟨.none, none, fD (meth p 8 0) s242 .none .none .none .none 0, ⟨[]⟩⟩
noncomputable def o115 : Obj := cO s234 s242 s163 316 321 22 2 3 110 true 111 (.ref 112) (.ref 113) (.ref 114)
noncomputable def o116 (p : Program) : Obj := ⟨(.type PySem.W.SL.s7174869446012820540x8), none, fD (meth p 8 0) s242 .none .none (.ref 115) (.str s231 194) 3, ⟨[]⟩⟩
noncomputable def o117 : Obj := tO [(.str s241 324)]
noncomputable def o118 (P : Params) : Obj := dO [e P s230 311 (.str s231 194), e P s233 315 (.int 20 314), e P s234 323 (.ref 116), e P s235 325 (.ref 117), e P s2 326 .none] 2
noncomputable def o119 : Obj := ⟨(.type PySem.W.SL.s17162191345867700912x4), none, kD s172 [(.ref 39)] [(.ref 119), (.ref 39), (.type PySem.W.SL.s6070975301684473832x10), (.type PySem.W.SL.s5946037652744460706x9), (.type PySem.W.SL.s4278001404047624695x13), (.type PySem.W.SL.s2742458400755230247x6)] 118 s172 true [] [] false none false, ⟨[some (.ref 103), none, some (.str s172 304), some (.str s172 312), some (.builtin PySem.W.SL.s4209523147560561109x18), some (.bool true)]⟩⟩
noncomputable def o120 : Obj := ⟨(.type PySem.W.SL.s4290257624100764138x5), none, .fields ⟨[(.ref 119), (.ref 119), (.ref 119)]⟩, ⟨[]⟩⟩
noncomputable def o121 : Obj := ⟨(.type PySem.W.SL.s11030030927630378310x26), none, .fields ⟨[(.builtin PySem.W.SL.s4860613602091757760x24), (.ref 119)]⟩, ⟨[]⟩⟩
noncomputable def o122 : Obj := tO []
noncomputable def o123 : Obj := ⟨(.type PySem.W.SL.s11030030927630378310x26), none, .fields ⟨[(.builtin PySem.W.SL.s10062305145149207511x16), (.type PySem.W.SL.s17162191345867700912x4)]⟩, ⟨[]⟩⟩
noncomputable def o124 (P : Params) : Obj := dO [e P s230 348 (.str s243 329), e P s232 350 (.str s178 349), e P s233 352 (.int 31 351), e P s234 362 (.ref 136), e P s244 369 (.ref 143), e P s245 376 (.ref 150), e P s246 384 (.ref 157), e P s247 394 (.ref 164), e P s248 403 (.ref 171), e P s249 411 (.ref 178), e P s235 419 (.ref 179)] 11
noncomputable def o125 : Obj := tO []
noncomputable def o126 : Obj := nO [(.int 33 0), (.int 4 0), (.ref 135), (.int 44 0), (.int 4 0), (.ref 142), (.int 47 0), (.int 4 0), (.ref 149), (.int 50 0), (.int 4 0), (.ref 156), (.int 53 0), (.int 4 0), (.ref 163), (.int 62 0), (.int 4 0), (.ref 170), (.int 71 0), (.int 4 0), (.ref 177)]
noncomputable def o127 : Obj := cO s178 s178 s163 343 346 31 0 0 125 false 126 .none .none .none
noncomputable def o128 : Obj := ⟨(.type PySem.W.SL.s658472552662922059x5), none, .plain, ⟨[some (.ref 127), some (.ref 3), some (.ref 124), none, some (.str s243 329), none, some (.ref 0)]⟩⟩
noncomputable def o129 : Obj := tO [(.int 512 353)]
noncomputable def o130 : Obj := tO []
noncomputable def o131 : Obj := nO []
noncomputable def o132 : Obj := tO [(.str s237 357), (.str s250 358), (.str s251 359)]
noncomputable def o133 : Obj := tO []
noncomputable def o134 (p : Program) : Obj := ⟨.none, none, fD (meth p 15 0) s252 .none .none .none .none 0, ⟨[]⟩⟩
noncomputable def o135 : Obj := cO s234 s252 s163 354 360 33 3 3 130 true 131 (.ref 132) (.ref 133) (.ref 134)
noncomputable def o136 (p : Program) : Obj := ⟨(.type PySem.W.SL.s7174869446012820540x8), none, fD (meth p 15 0) s252 (.ref 129) .none (.ref 135) (.str s243 329) 3, ⟨[]⟩⟩
noncomputable def o137 : Obj := tO []
noncomputable def o138 : Obj := nO []
noncomputable def o139 : Obj := tO [(.str s237 366)]
noncomputable def o140 : Obj := tO []
noncomputable def o141 (p : Program) : Obj := ⟨.none, none, fD (meth p 15 1) s253 .none .none .none .none 0, ⟨[]⟩⟩
noncomputable def o142 : Obj := cO s244 s253 s163 363 367 44 1 3 137 true 138 (.ref 139) (.ref 140) (.ref 141)
noncomputable def o143 (p : Program) : Obj := ⟨(.type PySem.W.SL.s7174869446012820540x8), none, fD (meth p 15 1) s253 .none .none (.ref 142) (.str s243 329) 3, ⟨[]⟩⟩
noncomputable def o144 : Obj := tO []
noncomputable def o145 : Obj := nO []
noncomputable def o146 : Obj := tO [(.str s237 373)]
noncomputable def o147 : Obj := tO []
noncomputable def o148 (p : Program) : Obj := ⟨.none, none, fD (meth p 15 2) s254 .none .none .none .none 0, ⟨[]⟩⟩
noncomputable def o149 : Obj := cO s245 s254 s163 370 374 47 1 3 144 true 145 (.ref 146) (.ref 147) (.ref 148)
noncomputable def o150 (p : Program) : Obj := ⟨(.type PySem.W.SL.s7174869446012820540x8), none, fD (meth p 15 2) s254 .none .none (.ref 149) (.str s243 329) 3, ⟨[]⟩⟩
noncomputable def o151 : Obj := tO []
noncomputable def o152 : Obj := nO []
noncomputable def o153 : Obj := tO [(.str s237 380), (.str s255 381)]
noncomputable def o154 : Obj := tO []
noncomputable def o155 (p : Program) : Obj := ⟨.none, none, fD (meth p 15 3) s256 .none .none .none .none 0, ⟨[]⟩⟩
noncomputable def o156 : Obj := cO s246 s256 s163 377 382 50 2 3 151 true 152 (.ref 153) (.ref 154) (.ref 155)
noncomputable def o157 (p : Program) : Obj := ⟨(.type PySem.W.SL.s7174869446012820540x8), none, fD (meth p 15 3) s256 .none .none (.ref 156) (.str s243 329) 3, ⟨[]⟩⟩
noncomputable def o158 : Obj := tO []
noncomputable def o159 : Obj := nO []
noncomputable def o160 : Obj := tO [(.str s237 388), (.str s257 389), (.str s258 390), (.str s259 391)]
noncomputable def o161 : Obj := tO []
noncomputable def o162 (p : Program) : Obj := ⟨.none, none, fD (meth p 15 4) s260 .none .none .none .none 0, ⟨[]⟩⟩
noncomputable def o163 : Obj := cO s247 s260 s163 385 392 53 2 3 158 true 159 (.ref 160) (.ref 161) (.ref 162)
noncomputable def o164 (p : Program) : Obj := ⟨(.type PySem.W.SL.s7174869446012820540x8), none, fD (meth p 15 4) s260 .none .none (.ref 163) (.str s243 329) 3, ⟨[]⟩⟩
noncomputable def o165 : Obj := tO []
noncomputable def o166 : Obj := nO []
noncomputable def o167 : Obj := tO [(.str s237 398), (.str s261 399), (.str s262 400)]
noncomputable def o168 : Obj := tO []
noncomputable def o169 (p : Program) : Obj := ⟨.none, none, fD (meth p 15 5) s263 .none .none .none .none 0, ⟨[]⟩⟩
noncomputable def o170 : Obj := cO s248 s263 s163 395 401 62 2 3 165 true 166 (.ref 167) (.ref 168) (.ref 169)
noncomputable def o171 (p : Program) : Obj := ⟨(.type PySem.W.SL.s7174869446012820540x8), none, fD (meth p 15 5) s263 .none .none (.ref 170) (.str s243 329) 3, ⟨[]⟩⟩
noncomputable def o172 : Obj := tO []
noncomputable def o173 : Obj := nO []
noncomputable def o174 : Obj := tO [(.str s237 407), (.str s255 408)]
noncomputable def o175 : Obj := tO []
noncomputable def o176 (p : Program) : Obj := ⟨.none, none, fD (meth p 15 6) s264 .none .none .none .none 0, ⟨[]⟩⟩
noncomputable def o177 : Obj := cO s249 s264 s163 404 409 71 2 3 172 true 173 (.ref 174) (.ref 175) (.ref 176)
noncomputable def o178 (p : Program) : Obj := ⟨(.type PySem.W.SL.s7174869446012820540x8), none, fD (meth p 15 6) s264 .none .none (.ref 177) (.str s243 329) 3, ⟨[]⟩⟩
noncomputable def o179 : Obj := tO [(.str s250 412), (.str s265 413), (.str s266 414), (.str s267 415), (.str s251 416), (.str s268 417), (.str s269 418)]
noncomputable def o180 (P : Params) : Obj := dO [e P s230 348 (.str s243 329), e P s233 352 (.int 31 351), e P s234 362 (.ref 136), e P s244 369 (.ref 143), e P s245 376 (.ref 150), e P s246 384 (.ref 157), e P s247 394 (.ref 164), e P s248 403 (.ref 171), e P s249 411 (.ref 178), e P s235 419 (.ref 179), e P s270 421 (.ref 182), e P s240 423 (.ref 183), e P s2 424 .none] 4
noncomputable def o181 : Obj := ⟨(.type PySem.W.SL.s17162191345867700912x4), none, kD s178 [(.type PySem.W.SL.s2742458400755230247x6)] [(.ref 181), (.type PySem.W.SL.s2742458400755230247x6)] 180 s178 true [] [] false none false, ⟨[none, none, some (.str s178 341), some (.str s178 349), some (.builtin PySem.W.SL.s11443829558043349243x14), some (.bool true)]⟩⟩
noncomputable def o182 : Obj := ⟨(.type PySem.W.SL.s14755015743595814543x17), none, .fields ⟨[(.str s270 420), (.ref 181), (.builtin PySem.W.SL.s6511155373996960695x17), (.builtin PySem.W.SL.s12411053484034534018x21)]⟩, ⟨[]⟩⟩
noncomputable def o183 : Obj := ⟨(.type PySem.W.SL.s14755015743595814543x17), none, .fields ⟨[(.str s240 422), (.ref 181), (.builtin PySem.W.SL.s10220274742760427390x26), .none]⟩, ⟨[]⟩⟩
noncomputable def o184 : Obj := ⟨(.type PySem.W.SL.s4290257624100764138x5), none, .fields ⟨[(.ref 181), (.ref 181), (.ref 181)]⟩, ⟨[]⟩⟩
noncomputable def o185 : Obj := ⟨(.type PySem.W.SL.s11030030927630378310x26), none, .fields ⟨[(.builtin PySem.W.SL.s4860613602091757760x24), (.ref 181)]⟩, ⟨[]⟩⟩
noncomputable def o186 : Obj := tO []
noncomputable def o187 : Obj := ⟨(.type PySem.W.SL.s11030030927630378310x26), none, .fields ⟨[(.builtin PySem.W.SL.s10062305145149207511x16), (.type PySem.W.SL.s17162191345867700912x4)]⟩, ⟨[]⟩⟩
noncomputable def o188 (P : Params) : Obj := dO [e P s230 434 (.str s243 329), e P s232 436 (.str s179 435), e P s233 438 (.int 79 437), e P s234 447 (.ref 200), e P s271 455 (.ref 207), e P s249 464 (.ref 214), e P s261 471 (.ref 221), e P s235 475 (.ref 222)] 8
noncomputable def o189 : Obj := tO []
noncomputable def o190 : Obj := nO [(.int 81 0), (.int 4 0), (.ref 199), (.int 86 0), (.int 4 0), (.ref 206), (.int 92 0), (.int 4 0), (.ref 213), (.int 96 0), (.int 4 0), (.ref 220)]
noncomputable def o191 : Obj := cO s179 s179 s163 429 432 79 0 0 189 false 190 .none .none .none
noncomputable def o192 : Obj := ⟨(.type PySem.W.SL.s658472552662922059x5), none, .plain, ⟨[some (.ref 191), some (.ref 3), some (.ref 188), none, some (.str s243 329), none, some (.ref 0)]⟩⟩
noncomputable def o193 : Obj := tO [(.int 512 439)]
noncomputable def o194 : Obj := tO []
noncomputable def o195 : Obj := nO []
noncomputable def o196 : Obj := tO [(.str s237 443), (.str s251 444)]
noncomputable def o197 : Obj := tO []
noncomputable def o198 (p : Program) : Obj := ⟨.none, none, fD (meth p 16 0) s272 .none .none .none .none 0, ⟨[]⟩⟩
noncomputable def o199 : Obj := cO s234 s272 s163 440 445 81 2 3 194 true 195 (.ref 196) (.ref 197) (.ref 198)
noncomputable def o200 (p : Program) : Obj := ⟨(.type PySem.W.SL.s7174869446012820540x8), none, fD (meth p 16 0) s272 (.ref 193) .none (.ref 199) (.str s243 329) 3, ⟨[]⟩⟩
noncomputable def o201 : Obj := tO []
noncomputable def o202 : Obj := nO []
noncomputable def o203 : Obj := tO [(.str s237 451), (.str s189 452)]
noncomputable def o204 : Obj := tO []
noncomputable def o205 (p : Program) : Obj := ⟨.none, none, fD (meth p 16 1) s273 .none .none .none .none 0, ⟨[]⟩⟩
noncomputable def o206 : Obj := cO s271 s273 s163 448 453 86 1 3 201 true 202 (.ref 203) (.ref 204) (.ref 205)
noncomputable def o207 (p : Program) : Obj := ⟨(.type PySem.W.SL.s7174869446012820540x8), none, fD (meth p 16 1) s273 .none .none (.ref 206) (.str s243 329) 3, ⟨[]⟩⟩
noncomputable def o208 : Obj := tO []
noncomputable def o209 : Obj := nO []
noncomputable def o210 : Obj := tO [(.str s237 459), (.str s189 460), (.str s255 461)]
noncomputable def o211 : Obj := tO []
noncomputable def o212 (p : Program) : Obj := ⟨.none, none, fD (meth p 16 2) s274 .none .none .none .none 0, ⟨[]⟩⟩
noncomputable def o213 : Obj := cO s249 s274 s163 456 462 92 3 3 208 true 209 (.ref 210) (.ref 211) (.ref 212)
noncomputable def o214 (p : Program) : Obj := ⟨(.type PySem.W.SL.s7174869446012820540x8), none, fD (meth p 16 2) s274 .none .none (.ref 213) (.str s243 329) 3, ⟨[]⟩⟩
noncomputable def o215 : Obj := tO []
noncomputable def o216 : Obj := nO []
noncomputable def o217 : Obj := tO [(.str s237 468)]
noncomputable def o218 : Obj := tO []
noncomputable def o219 (p : Program) : Obj := ⟨.none, none, fD (meth p 16 3) s275 .none .none .none .none 0, ⟨[]⟩⟩
noncomputable def o220 : Obj := cO s261 s275 s163 465 469 96 1 3 215 true 216 (.ref 217) (.ref 218) (.ref 219)
noncomputable def o221 (p : Program) : Obj := ⟨(.type PySem.W.SL.s7174869446012820540x8), none, fD (meth p 16 3) s275 .none .none (.ref 220) (.str s243 329) 3, ⟨[]⟩⟩
noncomputable def o222 : Obj := tO [(.str s276 472), (.str s277 473), (.str s251 474)]
noncomputable def o223 (P : Params) : Obj := dO [e P s230 434 (.str s243 329), e P s233 438 (.int 79 437), e P s234 447 (.ref 200), e P s271 455 (.ref 207), e P s249 464 (.ref 214), e P s261 471 (.ref 221), e P s235 475 (.ref 222), e P s270 477 (.ref 225), e P s240 479 (.ref 226), e P s2 480 .none] 4
noncomputable def o224 : Obj := ⟨(.type PySem.W.SL.s17162191345867700912x4), none, kD s179 [(.type PySem.W.SL.s2742458400755230247x6)] [(.ref 224), (.type PySem.W.SL.s2742458400755230247x6)] 223 s179 true [] [] false none false, ⟨[none, none, some (.str s179 427), some (.str s179 435), some (.builtin PySem.W.SL.s11443829558043349243x14), some (.bool true)]⟩⟩
noncomputable def o225 : Obj := ⟨(.type PySem.W.SL.s14755015743595814543x17), none, .fields ⟨[(.str s270 476), (.ref 224), (.builtin PySem.W.SL.s6511155373996960695x17), (.builtin PySem.W.SL.s12411053484034534018x21)]⟩, ⟨[]⟩⟩
noncomputable def o226 : Obj := ⟨(.type PySem.W.SL.s14755015743595814543x17), none, .fields ⟨[(.str s240 478), (.ref 224), (.builtin PySem.W.SL.s10220274742760427390x26), .none]⟩, ⟨[]⟩⟩
noncomputable def o227 : Obj := ⟨(.type PySem.W.SL.s4290257624100764138x5), none, .fields ⟨[(.ref 224), (.ref 224), (.ref 224)]⟩, ⟨[]⟩⟩
noncomputable def o228 : Obj := ⟨(.type PySem.W.SL.s11030030927630378310x26), none, .fields ⟨[(.builtin PySem.W.SL.s4860613602091757760x24), (.ref 224)]⟩, ⟨[]⟩⟩
noncomputable def o229 : Obj := tO [(.str s278 485)]
noncomputable def o230 : Obj := tO []
noncomputable def o231 : Obj := nO []
noncomputable def o232 (p : Program) : Obj := ⟨.none, none, fD (nth p.main.body 19) s181 .none .none .none .none 0, ⟨[]⟩⟩
noncomputable def o233 : Obj := cO s181 s181 s163 487 490 100 1 3 230 true 231 .none .none (.ref 232)
noncomputable def o234 (p : Program) : Obj := ⟨(.type PySem.W.SL.s7174869446012820540x8), none, fD (nth p.main.body 19) s181 .none .none (.ref 233) (.str s279 483) 3, ⟨[]⟩⟩
noncomputable def o235 : Obj := tO []
noncomputable def o236 : Obj := ⟨(.type PySem.W.SL.s11030030927630378310x26), none, .fields ⟨[(.builtin PySem.W.SL.s10062305145149207511x16), (.type PySem.W.SL.s17162191345867700912x4)]⟩, ⟨[]⟩⟩
noncomputable def o237 (P : Params) : Obj := dO [e P s230 500 (.str s279 483), e P s232 502 (.str s182 501), e P s233 504 (.int 108 503), e P s234 517 (.ref 249), e P s235 525 (.ref 250)] 5
noncomputable def o238 : Obj := tO []
noncomputable def o239 : Obj := nO [(.int 110 0), (.int 4 0), (.ref 248)]
noncomputable def o240 : Obj := cO s182 s182 s163 495 498 108 0 0 238 false 239 .none .none .none
noncomputable def o241 : Obj := ⟨(.type PySem.W.SL.s658472552662922059x5), none, .plain, ⟨[some (.ref 240), some (.ref 3), some (.ref 237), none, some (.str s279 483), none, some (.ref 0)]⟩⟩
noncomputable def o242 : Obj := tO [.none, .none, .none, .none]
noncomputable def o243 : Obj := tO []
noncomputable def o244 : Obj := nO []
noncomputable def o245 : Obj := tO [(.str s237 508), (.str s280 509), (.str s281 510), (.str s282 511), (.str s283 512), (.str s284 513), (.str s285 514)]
noncomputable def o246 : Obj := tO []
noncomputable def o247 (p : Program) : Obj := ⟨.none, none, fD (meth p 20 0) s286 .none .none .none .none 0, ⟨[]⟩⟩
noncomputable def o248 : Obj := cO s234 s286 s163 505 515 110 7 3 243 true 244 (.ref 245) (.ref 246) (.ref 247)
noncomputable def o249 (p : Program) : Obj := ⟨(.type PySem.W.SL.s7174869446012820540x8), none, fD (meth p 20 0) s286 (.ref 242) .none (.ref 248) (.str s279 483) 3, ⟨[]⟩⟩
noncomputable def o250 : Obj := tO [(.str s285 518), (.str s281 519), (.str s284 520), (.str s282 521), (.str s283 522), (.str s280 523), (.str s278 524)]
noncomputable def o251 (P : Params) : Obj := dO [e P s230 500 (.str s279 483), e P s233 504 (.int 108 503), e P s234 517 (.ref 249), e P s235 525 (.ref 250), e P s270 527 (.ref 253), e P s240 529 (.ref 254), e P s2 530 .none] 4
noncomputable def o252 : Obj := ⟨(.type PySem.W.SL.s17162191345867700912x4), none, kD s182 [(.type PySem.W.SL.s2742458400755230247x6)] [(.ref 252), (.type PySem.W.SL.s2742458400755230247x6)] 251 s182 true [] [] false none false, ⟨[none, none, some (.str s182 493), some (.str s182 501), some (.builtin PySem.W.SL.s11443829558043349243x14), some (.bool true)]⟩⟩
noncomputable def o253 : Obj := ⟨(.type PySem.W.SL.s14755015743595814543x17), none, .fields ⟨[(.str s270 526), (.ref 252), (.builtin PySem.W.SL.s6511155373996960695x17), (.builtin PySem.W.SL.s12411053484034534018x21)]⟩, ⟨[]⟩⟩
noncomputable def o254 : Obj := ⟨(.type PySem.W.SL.s14755015743595814543x17), none, .fields ⟨[(.str s240 528), (.ref 252), (.builtin PySem.W.SL.s10220274742760427390x26), .none]⟩, ⟨[]⟩⟩
noncomputable def o255 : Obj := ⟨(.type PySem.W.SL.s4290257624100764138x5), none, .fields ⟨[(.ref 252), (.ref 252), (.ref 252)]⟩, ⟨[]⟩⟩
noncomputable def o256 : Obj := ⟨(.type PySem.W.SL.s11030030927630378310x26), none, .fields ⟨[(.builtin PySem.W.SL.s4860613602091757760x24), (.ref 252)]⟩, ⟨[]⟩⟩
noncomputable def o257 : Obj := tO []
noncomputable def o258 : Obj := ⟨(.type PySem.W.SL.s11030030927630378310x26), none, .fields ⟨[(.builtin PySem.W.SL.s10062305145149207511x16), (.type PySem.W.SL.s17162191345867700912x4)]⟩, ⟨[]⟩⟩
noncomputable def o259 (P : Params) : Obj := dO [e P s230 540 (.str s279 483), e P s232 542 (.str s183 541), e P s233 544 (.int 118 543), e P s234 552 (.ref 270), e P s287 561 (.ref 277), e P s288 570 (.ref 284), e P s289 578 (.ref 291), e P s290 586 (.ref 298), e P s291 594 (.ref 305), e P s292 606 (.ref 312), e P s155 615 (.ref 319), e P s293 623 (.ref 326), e P s294 632 (.ref 333), e P s295 640 (.ref 340), e P s296 649 (.ref 347), e P s249 659 (.ref 354), e P s297 668 (.ref 361), e P s298 677 (.ref 368), e P s189 687 (.ref 375), e P s299 696 (.ref 382), e P s248 709 (.ref 389), e P s247 723 (.ref 396), e P s235 725 (.ref 397)] 23
noncomputable def o260 : Obj := tO []
noncomputable def o261 : Obj := nO [(.int 120 0), (.int 4 0), (.ref 269), (.int 123 0), (.int 4 0), (.ref 276), (.int 129 0), (.int 4 0), (.ref 283), (.int 136 0), (.int 4 0), (.ref 290), (.int 143 0), (.int 4 0), (.ref 297), (.int 146 0), (.int 4 0), (.ref 304), (.int 149 0), (.int 4 0), (.ref 311), (.int 157 0), (.int 4 0), (.ref 318), (.int 165 0), (.int 4 0), (.ref 325), (.int 168 0), (.int 4 0), (.ref 332), (.int 171 0), (.int 4 0), (.ref 339), (.int 174 0), (.int 4 0), (.ref 346), (.int 182 0), (.int 4 0), (.ref 353), (.int 187 0), (.int 4 0), (.ref 360), (.int 194 0), (.int 4 0), (.ref 367), (.int 197 0), (.int 4 0), (.ref 374), (.int 203 0), (.int 4 0), (.ref 381), (.int 206 0), (.int 4 0), (.ref 388), (.int 217 0), (.int 4 0), (.ref 395)]
noncomputable def o262 : Obj := cO s183 s183 s163 535 538 118 0 0 260 false 261 .none .none .none
noncomputable def o263 : Obj := ⟨(.type PySem.W.SL.s658472552662922059x5), none, .plain, ⟨[some (.ref 262), some (.ref 3), some (.ref 259), none, some (.str s279 483), none, some (.ref 0)]⟩⟩
noncomputable def o264 : Obj := tO []
noncomputable def o265 : Obj := nO []
noncomputable def o266 : Obj := tO [(.str s237 548), (.str s300 549)]
noncomputable def o267 : Obj := tO []
noncomputable def o268 (p : Program) : Obj := ⟨.none, none, fD (meth p 21 0) s301 .none .none .none .none 0, ⟨[]⟩⟩
noncomputable def o269 : Obj := cO s234 s301 s163 545 550 120 2 3 264 true 265 (.ref 266) (.ref 267) (.ref 268)
noncomputable def o270 (p : Program) : Obj := ⟨(.type PySem.W.SL.s7174869446012820540x8), none, fD (meth p 21 0) s301 .none .none (.ref 269) (.str s279 483) 3, ⟨[]⟩⟩
noncomputable def o271 : Obj := tO []
noncomputable def o272 : Obj := nO []
noncomputable def o273 : Obj := tO [(.str s237 556), (.str s302 557), (.str s303 558)]
noncomputable def o274 : Obj := tO []
noncomputable def o275 (p : Program) : Obj := ⟨.none, none, fD (meth p 21 1) s304 .none .none .none .none 0, ⟨[]⟩⟩
noncomputable def o276 : Obj := cO s287 s304 s163 553 559 123 2 3 271 true 272 (.ref 273) (.ref 274) (.ref 275)
noncomputable def o277 (p : Program) : Obj := ⟨(.type PySem.W.SL.s7174869446012820540x8), none, fD (meth p 21 1) s304 .none .none (.ref 276) (.str s279 483) 3, ⟨[]⟩⟩
noncomputable def o278 : Obj := tO []
noncomputable def o279 : Obj := nO []
noncomputable def o280 : Obj := tO [(.str s237 565), (.str s287 566), (.str s246 567)]
noncomputable def o281 : Obj := tO []
noncomputable def o282 (p : Program) : Obj := ⟨.none, none, fD (meth p 21 2) s305 .none .none .none .none 0, ⟨[]⟩⟩
noncomputable def o283 : Obj := cO s288 s305 s163 562 568 129 3 3 278 true 279 (.ref 280) (.ref 281) (.ref 282)
noncomputable def o284 (p : Program) : Obj := ⟨(.type PySem.W.SL.s7174869446012820540x8), none, fD (meth p 21 2) s305 .none .none (.ref 283) (.str s279 483) 3, ⟨[]⟩⟩
noncomputable def o285 : Obj := tO []
noncomputable def o286 : Obj := nO []
noncomputable def o287 : Obj := tO [(.str s237 574), (.str s306 575)]
noncomputable def o288 : Obj := tO []
noncomputable def o289 (p : Program) : Obj := ⟨.none, none, fD (meth p 21 3) s307 .none .none .none .none 0, ⟨[]⟩⟩
noncomputable def o290 : Obj := cO s289 s307 s163 571 576 136 2 3 285 true 286 (.ref 287) (.ref 288) (.ref 289)
noncomputable def o291 (p : Program) : Obj := ⟨(.type PySem.W.SL.s7174869446012820540x8), none, fD (meth p 21 3) s307 .none .none (.ref 290) (.str s279 483) 3, ⟨[]⟩⟩
noncomputable def o292 : Obj := tO []
noncomputable def o293 : Obj := nO []
noncomputable def o294 : Obj := tO [(.str s237 582), (.str s287 583)]
noncomputable def o295 : Obj := tO []
noncomputable def o296 (p : Program) : Obj := ⟨.none, none, fD (meth p 21 4) s308 .none .none .none .none 0, ⟨[]⟩⟩
noncomputable def o297 : Obj := cO s290 s308 s163 579 584 143 2 3 292 true 293 (.ref 294) (.ref 295) (.ref 296)
noncomputable def o298 (p : Program) : Obj := ⟨(.type PySem.W.SL.s7174869446012820540x8), none, fD (meth p 21 4) s308 .none .none (.ref 297) (.str s279 483) 3, ⟨[]⟩⟩
noncomputable def o299 : Obj := tO []
noncomputable def o300 : Obj := nO []
noncomputable def o301 : Obj := tO [(.str s237 590), (.str s287 591)]
noncomputable def o302 : Obj := tO []
noncomputable def o303 (p : Program) : Obj := ⟨.none, none, fD (meth p 21 5) s309 .none .none .none .none 0, ⟨[]⟩⟩
noncomputable def o304 : Obj := cO s291 s309 s163 587 592 146 2 3 299 true 300 (.ref 301) (.ref 302) (.ref 303)
noncomputable def o305 (p : Program) : Obj := ⟨(.type PySem.W.SL.s7174869446012820540x8), none, fD (meth p 21 5) s309 .none .none (.ref 304) (.str s279 483) 3, ⟨[]⟩⟩
noncomputable def o306 : Obj := tO []
noncomputable def o307 : Obj := nO []
noncomputable def o308 : Obj := tO [(.str s237 598), (.str s287 599), (.str s310 600), (.str s311 601)]
noncomputable def o309 : Obj := tO [(.str s237 602), (.str s191 603)]
noncomputable def o310 (p : Program) : Obj := ⟨.none, none, fD (meth p 21 6) s312 .none .none .none .none 0, ⟨[]⟩⟩
noncomputable def o311 : Obj := cO s292 s312 s163 595 604 149 2 3 306 true 307 (.ref 308) (.ref 309) (.ref 310)
noncomputable def o312 (p : Program) : Obj := ⟨(.type PySem.W.SL.s7174869446012820540x8), none, fD (meth p 21 6) s312 .none .none (.ref 311) (.str s279 483) 3, ⟨[]⟩⟩
noncomputable def o313 : Obj := tO []
noncomputable def o314 : Obj := nO []
noncomputable def o315 : Obj := tO [(.str s237 610), (.str s287 611), (.str s313 612)]
noncomputable def o316 : Obj := tO []
noncomputable def o317 (p : Program) : Obj := ⟨.none, none, fD (meth p 21 7) s314 .none .none .none .none 0, ⟨[]⟩⟩
noncomputable def o318 : Obj := cO s155 s314 s163 607 613 157 3 3 313 true 314 (.ref 315) (.ref 316) (.ref 317)
noncomputable def o319 (p : Program) : Obj := ⟨(.type PySem.W.SL.s7174869446012820540x8), none, fD (meth p 21 7) s314 .none .none (.ref 318) (.str s279 483) 3, ⟨[]⟩⟩
noncomputable def o320 : Obj := tO []
noncomputable def o321 : Obj := nO []
noncomputable def o322 : Obj := tO [(.str s237 619), (.str s287 620)]
noncomputable def o323 : Obj := tO []
noncomputable def o324 (p : Program) : Obj := ⟨.none, none, fD (meth p 21 8) s315 .none .none .none .none 0, ⟨[]⟩⟩
noncomputable def o325 : Obj := cO s293 s315 s163 616 621 165 2 3 320 true 321 (.ref 322) (.ref 323) (.ref 324)
noncomputable def o326 (p : Program) : Obj := ⟨(.type PySem.W.SL.s7174869446012820540x8), none, fD (meth p 21 8) s315 .none .none (.ref 325) (.str s279 483) 3, ⟨[]⟩⟩
noncomputable def o327 : Obj := tO []
noncomputable def o328 : Obj := nO []
noncomputable def o329 : Obj := tO [(.str s237 627), (.str s287 628), (.str s302 629)]
noncomputable def o330 : Obj := tO []
noncomputable def o331 (p : Program) : Obj := ⟨.none, none, fD (meth p 21 9) s316 .none .none .none .none 0, ⟨[]⟩⟩
noncomputable def o332 : Obj := cO s294 s316 s163 624 630 168 3 3 327 true 328 (.ref 329) (.ref 330) (.ref 331)
noncomputable def o333 (p : Program) : Obj := ⟨(.type PySem.W.SL.s7174869446012820540x8), none, fD (meth p 21 9) s316 .none .none (.ref 332) (.str s279 483) 3, ⟨[]⟩⟩
noncomputable def o334 : Obj := tO []
noncomputable def o335 : Obj := nO []
noncomputable def o336 : Obj := tO [(.str s237 636), (.str s287 637)]
noncomputable def o337 : Obj := tO []
noncomputable def o338 (p : Program) : Obj := ⟨.none, none, fD (meth p 21 10) s317 .none .none .none .none 0, ⟨[]⟩⟩
noncomputable def o339 : Obj := cO s295 s317 s163 633 638 171 2 3 334 true 335 (.ref 336) (.ref 337) (.ref 338)
noncomputable def o340 (p : Program) : Obj := ⟨(.type PySem.W.SL.s7174869446012820540x8), none, fD (meth p 21 10) s317 .none .none (.ref 339) (.str s279 483) 3, ⟨[]⟩⟩
noncomputable def o341 : Obj := tO []
noncomputable def o342 : Obj := nO []
noncomputable def o343 : Obj := tO [(.str s237 644), (.str s287 645), (.str s278 646)]
noncomputable def o344 : Obj := tO []
noncomputable def o345 (p : Program) : Obj := ⟨.none, none, fD (meth p 21 11) s318 .none .none .none .none 0, ⟨[]⟩⟩
noncomputable def o346 : Obj := cO s296 s318 s163 641 647 174 3 3 341 true 342 (.ref 343) (.ref 344) (.ref 345)
noncomputable def o347 (p : Program) : Obj := ⟨(.type PySem.W.SL.s7174869446012820540x8), none, fD (meth p 21 11) s318 .none .none (.ref 346) (.str s279 483) 3, ⟨[]⟩⟩
noncomputable def o348 : Obj := tO []
noncomputable def o349 : Obj := nO []
noncomputable def o350 : Obj := tO [(.str s237 653), (.str s287 654), (.str s310 655), (.str s311 656)]
noncomputable def o351 : Obj := tO []
noncomputable def o352 (p : Program) : Obj := ⟨.none, none, fD (meth p 21 12) s319 .none .none .none .none 0, ⟨[]⟩⟩
noncomputable def o353 : Obj := cO s249 s319 s163 650 657 182 3 3 348 true 349 (.ref 350) (.ref 351) (.ref 352)
noncomputable def o354 (p : Program) : Obj := ⟨(.type PySem.W.SL.s7174869446012820540x8), none, fD (meth p 21 12) s319 .none .none (.ref 353) (.str s279 483) 3, ⟨[]⟩⟩
noncomputable def o355 : Obj := tO []
noncomputable def o356 : Obj := nO []
noncomputable def o357 : Obj := tO [(.str s237 663), (.str s311 664), (.str s189 665)]
noncomputable def o358 : Obj := tO []
noncomputable def o359 (p : Program) : Obj := ⟨.none, none, fD (meth p 21 13) s320 .none .none .none .none 0, ⟨[]⟩⟩
noncomputable def o360 : Obj := cO s297 s320 s163 660 666 187 2 3 355 true 356 (.ref 357) (.ref 358) (.ref 359)
noncomputable def o361 (p : Program) : Obj := ⟨(.type PySem.W.SL.s7174869446012820540x8), none, fD (meth p 21 13) s320 .none .none (.ref 360) (.str s279 483) 3, ⟨[]⟩⟩
noncomputable def o362 : Obj := tO []
noncomputable def o363 : Obj := nO []
noncomputable def o364 : Obj := tO [(.str s237 672), (.str s287 673), (.str s310 674)]
noncomputable def o365 : Obj := tO []
noncomputable def o366 (p : Program) : Obj := ⟨.none, none, fD (meth p 21 14) s321 .none .none .none .none 0, ⟨[]⟩⟩
noncomputable def o367 : Obj := cO s298 s321 s163 669 675 194 3 3 362 true 363 (.ref 364) (.ref 365) (.ref 366)
noncomputable def o368 (p : Program) : Obj := ⟨(.type PySem.W.SL.s7174869446012820540x8), none, fD (meth p 21 14) s321 .none .none (.ref 367) (.str s279 483) 3, ⟨[]⟩⟩
noncomputable def o369 : Obj := tO []
noncomputable def o370 : Obj := nO []
noncomputable def o371 : Obj := tO [(.str s237 681), (.str s287 682), (.str s322 683), (.str s323 684)]
noncomputable def o372 : Obj := tO []
noncomputable def o373 (p : Program) : Obj := ⟨.none, none, fD (meth p 21 15) s324 .none .none .none .none 0, ⟨[]⟩⟩
noncomputable def o374 : Obj := cO s189 s324 s163 678 685 197 2 3 369 true 370 (.ref 371) (.ref 372) (.ref 373)
noncomputable def o375 (p : Program) : Obj := ⟨(.type PySem.W.SL.s7174869446012820540x8), none, fD (meth p 21 15) s324 .none .none (.ref 374) (.str s279 483) 3, ⟨[]⟩⟩
noncomputable def o376 : Obj := tO []
noncomputable def o377 : Obj := nO []
noncomputable def o378 : Obj := tO [(.str s237 691), (.str s287 692), (.str s310 693)]
noncomputable def o379 : Obj := tO []
noncomputable def o380 (p : Program) : Obj := ⟨.none, none, fD (meth p 21 16) s325 .none .none .none .none 0, ⟨[]⟩⟩
noncomputable def o381 : Obj := cO s299 s325 s163 688 694 203 3 3 376 true 377 (.ref 378) (.ref 379) (.ref 380)
noncomputable def o382 (p : Program) : Obj := ⟨(.type PySem.W.SL.s7174869446012820540x8), none, fD (meth p 21 16) s325 .none .none (.ref 381) (.str s279 483) 3, ⟨[]⟩⟩
noncomputable def o383 : Obj := tO []
noncomputable def o384 : Obj := nO []
noncomputable def o385 : Obj := tO [(.str s237 700), (.str s287 701), (.str s310 702), (.str s261 703), (.str s311 704), (.str s257 705), (.str s326 706)]
noncomputable def o386 : Obj := tO []
noncomputable def o387 (p : Program) : Obj := ⟨.none, none, fD (meth p 21 17) s327 .none .none .none .none 0, ⟨[]⟩⟩
noncomputable def o388 : Obj := cO s248 s327 s163 697 707 206 4 3 383 true 384 (.ref 385) (.ref 386) (.ref 387)
noncomputable def o389 (p : Program) : Obj := ⟨(.type PySem.W.SL.s7174869446012820540x8), none, fD (meth p 21 17) s327 .none .none (.ref 388) (.str s279 483) 3, ⟨[]⟩⟩
noncomputable def o390 : Obj := tO []
noncomputable def o391 : Obj := nO []
noncomputable def o392 : Obj := tO [(.str s237 713), (.str s287 714), (.str s310 715), (.str s257 716), (.str s311 717), (.str s328 718), (.str s261 719), (.str s326 720)]
noncomputable def o393 : Obj := tO []
noncomputable def o394 (p : Program) : Obj := ⟨.none, none, fD (meth p 21 18) s329 .none .none .none .none 0, ⟨[]⟩⟩
noncomputable def o395 : Obj := cO s247 s329 s163 710 721 217 4 3 390 true 391 (.ref 392) (.ref 393) (.ref 394)
noncomputable def o396 (p : Program) : Obj := ⟨(.type PySem.W.SL.s7174869446012820540x8), none, fD (meth p 21 18) s329 .none .none (.ref 395) (.str s279 483) 3, ⟨[]⟩⟩
noncomputable def o397 : Obj := tO [(.str s300 724)]
noncomputable def o398 (P : Params) : Obj := dO [e P s230 540 (.str s279 483), e P s233 544 (.int 118 543), e P s234 552 (.ref 270), e P s287 561 (.ref 277), e P s288 570 (.ref 284), e P s289 578 (.ref 291), e P s290 586 (.ref 298), e P s291 594 (.ref 305), e P s292 606 (.ref 312), e P s155 615 (.ref 319), e P s293 623 (.ref 326), e P s294 632 (.ref 333), e P s295 640 (.ref 340), e P s296 649 (.ref 347), e P s249 659 (.ref 354), e P s297 668 (.ref 361), e P s298 677 (.ref 368), e P s189 687 (.ref 375), e P s299 696 (.ref 382), e P s248 709 (.ref 389), e P s247 723 (.ref 396), e P s235 725 (.ref 397), e P s270 727 (.ref 400), e P s240 729 (.ref 401), e P s2 730 .none] 4
noncomputable def o399 : Obj := ⟨(.type PySem.W.SL.s17162191345867700912x4), none, kD s183 [(.type PySem.W.SL.s2742458400755230247x6)] [(.ref 399), (.type PySem.W.SL.s2742458400755230247x6)] 398 s183 true [] [] false none false, ⟨[none, none, some (.str s183 533), some (.str s183 541), some (.builtin PySem.W.SL.s11443829558043349243x14), some (.bool true)]⟩⟩
noncomputable def o400 : Obj := ⟨(.type PySem.W.SL.s14755015743595814543x17), none, .fields ⟨[(.str s270 726), (.ref 399), (.builtin PySem.W.SL.s6511155373996960695x17), (.builtin PySem.W.SL.s12411053484034534018x21)]⟩, ⟨[]⟩⟩
noncomputable def o401 : Obj := ⟨(.type PySem.W.SL.s14755015743595814543x17), none, .fields ⟨[(.str s240 728), (.ref 399), (.builtin PySem.W.SL.s10220274742760427390x26), .none]⟩, ⟨[]⟩⟩
noncomputable def o402 : Obj := ⟨(.type PySem.W.SL.s4290257624100764138x5), none, .fields ⟨[(.ref 399), (.ref 399), (.ref 399)]⟩, ⟨[]⟩⟩
noncomputable def o403 : Obj := ⟨(.type PySem.W.SL.s11030030927630378310x26), none, .fields ⟨[(.builtin PySem.W.SL.s4860613602091757760x24), (.ref 399)]⟩, ⟨[]⟩⟩
noncomputable def o404 : Obj := tO []
noncomputable def o405 : Obj := ⟨(.type PySem.W.SL.s11030030927630378310x26), none, .fields ⟨[(.builtin PySem.W.SL.s10062305145149207511x16), (.type PySem.W.SL.s17162191345867700912x4)]⟩, ⟨[]⟩⟩
noncomputable def o406 (P : Params) : Obj := dO [e P s230 742 (.str s330 733), e P s232 744 (.str s184 743), e P s233 746 (.int 232 745), e P s234 755 (.ref 417), e P s331 762 (.ref 424), e P s257 769 (.ref 431), e P s332 778 (.ref 438), e P s333 787 (.ref 445), e P s334 796 (.ref 452), e P s335 804 (.ref 459), e P s336 811 (.ref 466), e P s337 820 (.ref 473), e P s338 830 (.ref 480), e P s339 838 (.ref 487), e P s340 847 (.ref 494), e P s235 852 (.ref 495)] 16
noncomputable def o407 : Obj := tO []
noncomputable def o408 : Obj := nO [(.int 234 0), (.int 4 0), (.ref 416), (.int 240 0), (.int 4 0), (.ref 423), (.int 243 0), (.int 4 0), (.ref 430), (.int 246 0), (.int 4 0), (.ref 437), (.int 250 0), (.int 4 0), (.ref 444), (.int 254 0), (.int 4 0), (.ref 451), (.int 258 0), (.int 4 0), (.ref 458), (.int 263 0), (.int 4 0), (.ref 465), (.int 266 0), (.int 4 0), (.ref 472), (.int 269 0), (.int 4 0), (.ref 479), (.int 272 0), (.int 4 0), (.ref 486), (.int 275 0), (.int 4 0), (.ref 493)]
noncomputable def o409 : Obj := cO s184 s184 s163 737 740 232 0 0 407 false 408 .none .none .none
noncomputable def o410 : Obj := ⟨(.type PySem.W.SL.s658472552662922059x5), none, .plain, ⟨[some (.ref 409), some (.ref 3), some (.ref 406), none, some (.str s330 733), none, some (.ref 0)]⟩⟩
noncomputable def o411 : Obj := tO []
noncomputable def o412 : Obj := nO []
noncomputable def o413 : Obj := tO [(.str s237 750), (.str s310 751), (.str s257 752)]
noncomputable def o414 : Obj := tO []
noncomputable def o415 (p : Program) : Obj := ⟨.none, none, fD (meth p 23 0) s341 .none .none .none .none 0, ⟨[]⟩⟩
noncomputable def o416 : Obj := cO s234 s341 s163 747 753 234 3 3 411 true 412 (.ref 413) (.ref 414) (.ref 415)
noncomputable def o417 (p : Program) : Obj := ⟨(.type PySem.W.SL.s7174869446012820540x8), none, fD (meth p 23 0) s341 .none .none (.ref 416) (.str s330 733) 3, ⟨[]⟩⟩
noncomputable def o418 : Obj := tO []
noncomputable def o419 : Obj := nO []
noncomputable def o420 : Obj := tO [(.str s237 759)]
noncomputable def o421 : Obj := tO []
noncomputable def o422 (p : Program) : Obj := ⟨.none, none, fD (meth p 23 1) s342 .none .none .none .none 0, ⟨[]⟩⟩
noncomputable def o423 : Obj := cO s331 s342 s163 756 760 240 1 3 418 true 419 (.ref 420) (.ref 421) (.ref 422)
noncomputable def o424 (p : Program) : Obj := ⟨(.type PySem.W.SL.s7174869446012820540x8), none, fD (meth p 23 1) s342 .none .none (.ref 423) (.str s330 733) 3, ⟨[]⟩⟩
noncomputable def o425 : Obj := tO []
noncomputable def o426 : Obj := nO []
noncomputable def o427 : Obj := tO [(.str s237 766)]
noncomputable def o428 : Obj := tO []
noncomputable def o429 (p : Program) : Obj := ⟨.none, none, fD (meth p 23 2) s343 .none .none .none .none 0, ⟨[]⟩⟩
noncomputable def o430 : Obj := cO s257 s343 s163 763 767 243 1 3 425 true 426 (.ref 427) (.ref 428) (.ref 429)
noncomputable def o431 (p : Program) : Obj := ⟨(.type PySem.W.SL.s7174869446012820540x8), none, fD (meth p 23 2) s343 .none .none (.ref 430) (.str s330 733) 3, ⟨[]⟩⟩
noncomputable def o432 : Obj := tO []
noncomputable def o433 : Obj := nO []
noncomputable def o434 : Obj := tO [(.str s237 773), (.str s344 774), (.str s261 775)]
noncomputable def o435 : Obj := tO []
noncomputable def o436 (p : Program) : Obj := ⟨.none, none, fD (meth p 23 3) s345 .none .none .none .none 0, ⟨[]⟩⟩
noncomputable def o437 : Obj := cO s332 s345 s163 770 776 246 3 3 432 true 433 (.ref 434) (.ref 435) (.ref 436)
noncomputable def o438 (p : Program) : Obj := ⟨(.type PySem.W.SL.s7174869446012820540x8), none, fD (meth p 23 3) s345 .none .none (.ref 437) (.str s330 733) 3, ⟨[]⟩⟩
noncomputable def o439 : Obj := tO []
noncomputable def o440 : Obj := nO []
noncomputable def o441 : Obj := tO [(.str s237 782), (.str s344 783), (.str s261 784)]
noncomputable def o442 : Obj := tO []
noncomputable def o443 (p : Program) : Obj := ⟨.none, none, fD (meth p 23 4) s346 .none .none .none .none 0, ⟨[]⟩⟩
noncomputable def o444 : Obj := cO s333 s346 s163 779 785 250 3 3 439 true 440 (.ref 441) (.ref 442) (.ref 443)
noncomputable def o445 (p : Program) : Obj := ⟨(.type PySem.W.SL.s7174869446012820540x8), none, fD (meth p 23 4) s346 .none .none (.ref 444) (.str s330 733) 3, ⟨[]⟩⟩
noncomputable def o446 : Obj := tO []
noncomputable def o447 : Obj := nO []
noncomputable def o448 : Obj := tO [(.str s237 791), (.str s344 792), (.str s257 793)]
noncomputable def o449 : Obj := tO []
noncomputable def o450 (p : Program) : Obj := ⟨.none, none, fD (meth p 23 5) s347 .none .none .none .none 0, ⟨[]⟩⟩
noncomputable def o451 : Obj := cO s334 s347 s163 788 794 254 3 3 446 true 447 (.ref 448) (.ref 449) (.ref 450)
noncomputable def o452 (p : Program) : Obj := ⟨(.type PySem.W.SL.s7174869446012820540x8), none, fD (meth p 23 5) s347 .none .none (.ref 451) (.str s330 733) 3, ⟨[]⟩⟩
noncomputable def o453 : Obj := tO []
noncomputable def o454 : Obj := nO []
noncomputable def o455 : Obj := tO [(.str s237 800), (.str s257 801)]
noncomputable def o456 : Obj := tO []
noncomputable def o457 (p : Program) : Obj := ⟨.none, none, fD (meth p 23 6) s348 .none .none .none .none 0, ⟨[]⟩⟩
noncomputable def o458 : Obj := cO s335 s348 s163 797 802 258 2 3 453 true 454 (.ref 455) (.ref 456) (.ref 457)
noncomputable def o459 (p : Program) : Obj := ⟨(.type PySem.W.SL.s7174869446012820540x8), none, fD (meth p 23 6) s348 .none .none (.ref 458) (.str s330 733) 3, ⟨[]⟩⟩
noncomputable def o460 : Obj := tO []
noncomputable def o461 : Obj := nO []
noncomputable def o462 : Obj := tO [(.str s237 808)]
noncomputable def o463 : Obj := tO []
noncomputable def o464 (p : Program) : Obj := ⟨.none, none, fD (meth p 23 7) s349 .none .none .none .none 0, ⟨[]⟩⟩
noncomputable def o465 : Obj := cO s336 s349 s163 805 809 263 1 3 460 true 461 (.ref 462) (.ref 463) (.ref 464)
noncomputable def o466 (p : Program) : Obj := ⟨(.type PySem.W.SL.s7174869446012820540x8), none, fD (meth p 23 7) s349 .none .none (.ref 465) (.str s330 733) 3, ⟨[]⟩⟩
noncomputable def o467 : Obj := tO []
noncomputable def o468 : Obj := nO []
noncomputable def o469 : Obj := tO [(.str s237 815), (.str s344 816), (.str s261 817)]
noncomputable def o470 : Obj := tO []
noncomputable def o471 (p : Program) : Obj := ⟨.none, none, fD (meth p 23 8) s350 .none .none .none .none 0, ⟨[]⟩⟩
noncomputable def o472 : Obj := cO s337 s350 s163 812 818 266 3 3 467 true 468 (.ref 469) (.ref 470) (.ref 471)
noncomputable def o473 (p : Program) : Obj := ⟨(.type PySem.W.SL.s7174869446012820540x8), none, fD (meth p 23 8) s350 .none .none (.ref 472) (.str s330 733) 3, ⟨[]⟩⟩
noncomputable def o474 : Obj := tO []
noncomputable def o475 : Obj := nO []
noncomputable def o476 : Obj := tO [(.str s237 824), (.str s344 825), (.str s261 826), (.str s351 827)]
noncomputable def o477 : Obj := tO []
noncomputable def o478 (p : Program) : Obj := ⟨.none, none, fD (meth p 23 9) s352 .none .none .none .none 0, ⟨[]⟩⟩
noncomputable def o479 : Obj := cO s338 s352 s163 821 828 269 4 3 474 true 475 (.ref 476) (.ref 477) (.ref 478)
noncomputable def o480 (p : Program) : Obj := ⟨(.type PySem.W.SL.s7174869446012820540x8), none, fD (meth p 23 9) s352 .none .none (.ref 479) (.str s330 733) 3, ⟨[]⟩⟩
noncomputable def o481 : Obj := tO []
noncomputable def o482 : Obj := nO []
noncomputable def o483 : Obj := tO [(.str s237 834), (.str s344 835)]
noncomputable def o484 : Obj := tO []
noncomputable def o485 (p : Program) : Obj := ⟨.none, none, fD (meth p 23 10) s353 .none .none .none .none 0, ⟨[]⟩⟩
noncomputable def o486 : Obj := cO s339 s353 s163 831 836 272 2 3 481 true 482 (.ref 483) (.ref 484) (.ref 485)
noncomputable def o487 (p : Program) : Obj := ⟨(.type PySem.W.SL.s7174869446012820540x8), none, fD (meth p 23 10) s353 .none .none (.ref 486) (.str s330 733) 3, ⟨[]⟩⟩
noncomputable def o488 : Obj := tO []
noncomputable def o489 : Obj := nO []
noncomputable def o490 : Obj := tO [(.str s237 842), (.str s344 843), (.str s351 844)]
noncomputable def o491 : Obj := tO []
noncomputable def o492 (p : Program) : Obj := ⟨.none, none, fD (meth p 23 11) s354 .none .none .none .none 0, ⟨[]⟩⟩
noncomputable def o493 : Obj := cO s340 s354 s163 839 845 275 3 3 488 true 489 (.ref 490) (.ref 491) (.ref 492)
noncomputable def o494 (p : Program) : Obj := ⟨(.type PySem.W.SL.s7174869446012820540x8), none, fD (meth p 23 11) s354 .none .none (.ref 493) (.str s330 733) 3, ⟨[]⟩⟩
noncomputable def o495 : Obj := tO [(.str s355 848), (.str s356 849), (.str s310 850), (.str s357 851)]
noncomputable def o496 (P : Params) : Obj := dO [e P s230 742 (.str s330 733), e P s233 746 (.int 232 745), e P s234 755 (.ref 417), e P s331 762 (.ref 424), e P s257 769 (.ref 431), e P s332 778 (.ref 438), e P s333 787 (.ref 445), e P s334 796 (.ref 452), e P s335 804 (.ref 459), e P s336 811 (.ref 466), e P s337 820 (.ref 473), e P s338 830 (.ref 480), e P s339 838 (.ref 487), e P s340 847 (.ref 494), e P s235 852 (.ref 495), e P s270 854 (.ref 498), e P s240 856 (.ref 499), e P s2 857 .none] 4
noncomputable def o497 : Obj := ⟨(.type PySem.W.SL.s17162191345867700912x4), none, kD s184 [(.type PySem.W.SL.s2742458400755230247x6)] [(.ref 497), (.type PySem.W.SL.s2742458400755230247x6)] 496 s184 true [] [] false none false, ⟨[none, none, some (.str s184 735), some (.str s184 743), some (.builtin PySem.W.SL.s11443829558043349243x14), some (.bool true)]⟩⟩
noncomputable def o498 : Obj := ⟨(.type PySem.W.SL.s14755015743595814543x17), none, .fields ⟨[(.str s270 853), (.ref 497), (.builtin PySem.W.SL.s6511155373996960695x17), (.builtin PySem.W.SL.s12411053484034534018x21)]⟩, ⟨[]⟩⟩
noncomputable def o499 : Obj := ⟨(.type PySem.W.SL.s14755015743595814543x17), none, .fields ⟨[(.str s240 855), (.ref 497), (.builtin PySem.W.SL.s10220274742760427390x26), .none]⟩, ⟨[]⟩⟩
noncomputable def o500 : Obj := ⟨(.type PySem.W.SL.s4290257624100764138x5), none, .fields ⟨[(.ref 497), (.ref 497), (.ref 497)]⟩, ⟨[]⟩⟩
noncomputable def o501 : Obj := ⟨(.type PySem.W.SL.s11030030927630378310x26), none, .fields ⟨[(.builtin PySem.W.SL.s4860613602091757760x24), (.ref 497)]⟩, ⟨[]⟩⟩
noncomputable def o502 : Obj := tO []
noncomputable def o503 : Obj := ⟨(.type PySem.W.SL.s11030030927630378310x26), none, .fields ⟨[(.builtin PySem.W.SL.s10062305145149207511x16), (.type PySem.W.SL.s17162191345867700912x4)]⟩, ⟨[]⟩⟩
noncomputable def o504 (P : Params) : Obj := dO [e P s230 867 (.str s330 733), e P s232 869 (.str s185 868), e P s233 871 (.int 277 870), e P s234 880 (.ref 515), e P s358 888 (.ref 522), e P s359 896 (.ref 529), e P s360 905 (.ref 536), e P s361 914 (.ref 543), e P s362 922 (.ref 550), e P s363 930 (.ref 557), e P s364 939 (.ref 564), e P s247 947 (.ref 571), e P s365 954 (.ref 578), e P s366 964 (.ref 585), e P s367 974 (.ref 592), e P s368 981 (.ref 599), e P s369 988 (.ref 606), e P s370 995 (.ref 613), e P s235 1004 (.ref 614)] 19
noncomputable def o505 : Obj := tO []
noncomputable def o506 : Obj := nO [(.int 279 0), (.int 4 0), (.ref 514), (.int 291 0), (.int 4 0), (.ref 521), (.int 295 0), (.int 4 0), (.ref 528), (.int 299 0), (.int 4 0), (.ref 535), (.int 313 0), (.int 4 0), (.ref 542), (.int 323 0), (.int 4 0), (.ref 549), (.int 330 0), (.int 4 0), (.ref 556), (.int 334 0), (.int 4 0), (.ref 563), (.int 340 0), (.int 4 0), (.ref 570), (.int 345 0), (.int 4 0), (.ref 577), (.int 348 0), (.int 4 0), (.ref 584), (.int 354 0), (.int 4 0), (.ref 591), (.int 363 0), (.int 4 0), (.ref 598), (.int 366 0), (.int 4 0), (.ref 605), (.int 369 0), (.int 4 0), (.ref 612)]
noncomputable def o507 : Obj := cO s185 s185 s163 862 865 277 0 0 505 false 506 .none .none .none
noncomputable def o508 : Obj := ⟨(.type PySem.W.SL.s658472552662922059x5), none, .plain, ⟨[some (.ref 507), some (.ref 3), some (.ref 504), none, some (.str s330 733), none, some (.ref 0)]⟩⟩
noncomputable def o509 : Obj := tO []
noncomputable def o510 : Obj := nO []
noncomputable def o511 : Obj := tO [(.str s237 875), (.str s371 876), (.str s372 877)]
noncomputable def o512 : Obj := tO []
noncomputable def o513 (p : Program) : Obj := ⟨.none, none, fD (meth p 24 0) s373 .none .none .none .none 0, ⟨[]⟩⟩
noncomputable def o514 : Obj := cO s234 s373 s163 872 878 279 3 3 509 true 510 (.ref 511) (.ref 512) (.ref 513)
noncomputable def o515 (p : Program) : Obj := ⟨(.type PySem.W.SL.s7174869446012820540x8), none, fD (meth p 24 0) s373 .none .none (.ref 514) (.str s330 733) 3, ⟨[]⟩⟩
noncomputable def o516 : Obj := tO []
noncomputable def o517 : Obj := nO []
noncomputable def o518 : Obj := tO [(.str s237 884), (.str s310 885)]
noncomputable def o519 : Obj := tO []
noncomputable def o520 (p : Program) : Obj := ⟨.none, none, fD (meth p 24 1) s374 .none .none .none .none 0, ⟨[]⟩⟩
noncomputable def o521 : Obj := cO s358 s374 s163 881 886 291 2 3 516 true 517 (.ref 518) (.ref 519) (.ref 520)
noncomputable def o522 (p : Program) : Obj := ⟨(.type PySem.W.SL.s7174869446012820540x8), none, fD (meth p 24 1) s374 .none .none (.ref 521) (.str s330 733) 3, ⟨[]⟩⟩
noncomputable def o523 : Obj := tO []
noncomputable def o524 : Obj := nO []
noncomputable def o525 : Obj := tO [(.str s237 892), (.str s375 893)]
noncomputable def o526 : Obj := tO []
noncomputable def o527 (p : Program) : Obj := ⟨.none, none, fD (meth p 24 2) s376 .none .none .none .none 0, ⟨[]⟩⟩
noncomputable def o528 : Obj := cO s359 s376 s163 889 894 295 2 3 523 true 524 (.ref 525) (.ref 526) (.ref 527)
noncomputable def o529 (p : Program) : Obj := ⟨(.type PySem.W.SL.s7174869446012820540x8), none, fD (meth p 24 2) s376 .none .none (.ref 528) (.str s330 733) 3, ⟨[]⟩⟩
noncomputable def o530 : Obj := tO []
noncomputable def o531 : Obj := nO []
noncomputable def o532 : Obj := tO [(.str s237 900), (.str s310 901), (.str s303 902)]
noncomputable def o533 : Obj := tO []
noncomputable def o534 (p : Program) : Obj := ⟨.none, none, fD (meth p 24 3) s377 .none .none .none .none 0, ⟨[]⟩⟩
noncomputable def o535 : Obj := cO s360 s377 s163 897 903 299 2 3 530 true 531 (.ref 532) (.ref 533) (.ref 534)
noncomputable def o536 (p : Program) : Obj := ⟨(.type PySem.W.SL.s7174869446012820540x8), none, fD (meth p 24 3) s377 .none .none (.ref 535) (.str s330 733) 3, ⟨[]⟩⟩
noncomputable def o537 : Obj := tO []
noncomputable def o538 : Obj := nO []
noncomputable def o539 : Obj := tO [(.str s237 909), (.str s344 910), (.str s375 911)]
noncomputable def o540 : Obj := tO []
noncomputable def o541 (p : Program) : Obj := ⟨.none, none, fD (meth p 24 4) s378 .none .none .none .none 0, ⟨[]⟩⟩
noncomputable def o542 : Obj := cO s361 s378 s163 906 912 313 1 3 537 true 538 (.ref 539) (.ref 540) (.ref 541)
noncomputable def o543 (p : Program) : Obj := ⟨(.type PySem.W.SL.s7174869446012820540x8), none, fD (meth p 24 4) s378 .none .none (.ref 542) (.str s330 733) 3, ⟨[]⟩⟩
noncomputable def o544 : Obj := tO []
noncomputable def o545 : Obj := nO []
noncomputable def o546 : Obj := tO [(.str s237 918), (.str s375 919)]
noncomputable def o547 : Obj := tO []
noncomputable def o548 (p : Program) : Obj := ⟨.none, none, fD (meth p 24 5) s379 .none .none .none .none 0, ⟨[]⟩⟩
noncomputable def o549 : Obj := cO s362 s379 s163 915 920 323 2 3 544 true 545 (.ref 546) (.ref 547) (.ref 548)
noncomputable def o550 (p : Program) : Obj := ⟨(.type PySem.W.SL.s7174869446012820540x8), none, fD (meth p 24 5) s379 .none .none (.ref 549) (.str s330 733) 3, ⟨[]⟩⟩
noncomputable def o551 : Obj := tO []
noncomputable def o552 : Obj := nO []
noncomputable def o553 : Obj := tO [(.str s237 926), (.str s375 927)]
noncomputable def o554 : Obj := tO []
noncomputable def o555 (p : Program) : Obj := ⟨.none, none, fD (meth p 24 6) s380 .none .none .none .none 0, ⟨[]⟩⟩
noncomputable def o556 : Obj := cO s363 s380 s163 923 928 330 2 3 551 true 552 (.ref 553) (.ref 554) (.ref 555)
noncomputable def o557 (p : Program) : Obj := ⟨(.type PySem.W.SL.s7174869446012820540x8), none, fD (meth p 24 6) s380 .none .none (.ref 556) (.str s330 733) 3, ⟨[]⟩⟩
noncomputable def o558 : Obj := tO []
noncomputable def o559 : Obj := nO []
noncomputable def o560 : Obj := tO [(.str s237 934), (.str s310 935), (.str s303 936)]
noncomputable def o561 : Obj := tO []
noncomputable def o562 (p : Program) : Obj := ⟨.none, none, fD (meth p 24 7) s381 .none .none .none .none 0, ⟨[]⟩⟩
noncomputable def o563 : Obj := cO s364 s381 s163 931 937 334 2 3 558 true 559 (.ref 560) (.ref 561) (.ref 562)
noncomputable def o564 (p : Program) : Obj := ⟨(.type PySem.W.SL.s7174869446012820540x8), none, fD (meth p 24 7) s381 .none .none (.ref 563) (.str s330 733) 3, ⟨[]⟩⟩
noncomputable def o565 : Obj := tO []
noncomputable def o566 : Obj := nO []
noncomputable def o567 : Obj := tO [(.str s237 943), (.str s375 944)]
noncomputable def o568 : Obj := tO []
noncomputable def o569 (p : Program) : Obj := ⟨.none, none, fD (meth p 24 8) s382 .none .none .none .none 0, ⟨[]⟩⟩
noncomputable def o570 : Obj := cO s247 s382 s163 940 945 340 2 3 565 true 566 (.ref 567) (.ref 568) (.ref 569)
noncomputable def o571 (p : Program) : Obj := ⟨(.type PySem.W.SL.s7174869446012820540x8), none, fD (meth p 24 8) s382 .none .none (.ref 570) (.str s330 733) 3, ⟨[]⟩⟩
noncomputable def o572 : Obj := tO []
noncomputable def o573 : Obj := nO []
noncomputable def o574 : Obj := tO [(.str s237 951)]
noncomputable def o575 : Obj := tO []
noncomputable def o576 (p : Program) : Obj := ⟨.none, none, fD (meth p 24 9) s383 .none .none .none .none 0, ⟨[]⟩⟩
noncomputable def o577 : Obj := cO s365 s383 s163 948 952 345 1 3 572 true 573 (.ref 574) (.ref 575) (.ref 576)
noncomputable def o578 (p : Program) : Obj := ⟨(.type PySem.W.SL.s7174869446012820540x8), none, fD (meth p 24 9) s383 .none .none (.ref 577) (.str s330 733) 3, ⟨[]⟩⟩
noncomputable def o579 : Obj := tO []
noncomputable def o580 : Obj := nO []
noncomputable def o581 : Obj := tO [(.str s237 958), (.str s310 959), (.str s375 960), (.str s257 961)]
noncomputable def o582 : Obj := tO []
noncomputable def o583 (p : Program) : Obj := ⟨.none, none, fD (meth p 24 10) s384 .none .none .none .none 0, ⟨[]⟩⟩
noncomputable def o584 : Obj := cO s366 s384 s163 955 962 348 2 3 579 true 580 (.ref 581) (.ref 582) (.ref 583)
noncomputable def o585 (p : Program) : Obj := ⟨(.type PySem.W.SL.s7174869446012820540x8), none, fD (meth p 24 10) s384 .none .none (.ref 584) (.str s330 733) 3, ⟨[]⟩⟩
noncomputable def o586 : Obj := tO []
noncomputable def o587 : Obj := nO []
noncomputable def o588 : Obj := tO [(.str s237 968), (.str s310 969), (.str s257 970), (.str s375 971)]
noncomputable def o589 : Obj := tO []
noncomputable def o590 (p : Program) : Obj := ⟨.none, none, fD (meth p 24 11) s385 .none .none .none .none 0, ⟨[]⟩⟩
noncomputable def o591 : Obj := cO s367 s385 s163 965 972 354 3 3 586 true 587 (.ref 588) (.ref 589) (.ref 590)
noncomputable def o592 (p : Program) : Obj := ⟨(.type PySem.W.SL.s7174869446012820540x8), none, fD (meth p 24 11) s385 .none .none (.ref 591) (.str s330 733) 3, ⟨[]⟩⟩
noncomputable def o593 : Obj := tO []
noncomputable def o594 : Obj := nO []
noncomputable def o595 : Obj := tO [(.str s237 978)]
noncomputable def o596 : Obj := tO []
noncomputable def o597 (p : Program) : Obj := ⟨.none, none, fD (meth p 24 12) s386 .none .none .none .none 0, ⟨[]⟩⟩
noncomputable def o598 : Obj := cO s368 s386 s163 975 979 363 1 3 593 true 594 (.ref 595) (.ref 596) (.ref 597)
noncomputable def o599 (p : Program) : Obj := ⟨(.type PySem.W.SL.s7174869446012820540x8), none, fD (meth p 24 12) s386 .none .none (.ref 598) (.str s330 733) 3, ⟨[]⟩⟩
noncomputable def o600 : Obj := tO []
noncomputable def o601 : Obj := nO []
noncomputable def o602 : Obj := tO [(.str s237 985)]
noncomputable def o603 : Obj := tO []
noncomputable def o604 (p : Program) : Obj := ⟨.none, none, fD (meth p 24 13) s387 .none .none .none .none 0, ⟨[]⟩⟩
noncomputable def o605 : Obj := cO s369 s387 s163 982 986 366 1 3 600 true 601 (.ref 602) (.ref 603) (.ref 604)
noncomputable def o606 (p : Program) : Obj := ⟨(.type PySem.W.SL.s7174869446012820540x8), none, fD (meth p 24 13) s387 .none .none (.ref 605) (.str s330 733) 3, ⟨[]⟩⟩
noncomputable def o607 : Obj := tO []
noncomputable def o608 : Obj := nO []
noncomputable def o609 : Obj := tO [(.str s237 992)]
noncomputable def o610 : Obj := tO []
noncomputable def o611 (p : Program) : Obj := ⟨.none, none, fD (meth p 24 14) s388 .none .none .none .none 0, ⟨[]⟩⟩
noncomputable def o612 : Obj := cO s370 s388 s163 989 993 369 1 3 607 true 608 (.ref 609) (.ref 610) (.ref 611)
noncomputable def o613 (p : Program) : Obj := ⟨(.type PySem.W.SL.s7174869446012820540x8), none, fD (meth p 24 14) s388 .none .none (.ref 612) (.str s330 733) 3, ⟨[]⟩⟩
noncomputable def o614 : Obj := tO [(.str s389 996), (.str s371 997), (.str s390 998), (.str s372 999), (.str s391 1000), (.str s392 1001), (.str s251 1002), (.str s241 1003)]
noncomputable def o615 (P : Params) : Obj := dO [e P s230 867 (.str s330 733), e P s233 871 (.int 277 870), e P s234 880 (.ref 515), e P s358 888 (.ref 522), e P s359 896 (.ref 529), e P s360 905 (.ref 536), e P s361 914 (.ref 543), e P s362 922 (.ref 550), e P s363 930 (.ref 557), e P s364 939 (.ref 564), e P s247 947 (.ref 571), e P s365 954 (.ref 578), e P s366 964 (.ref 585), e P s367 974 (.ref 592), e P s368 981 (.ref 599), e P s369 988 (.ref 606), e P s370 995 (.ref 613), e P s235 1004 (.ref 614), e P s270 1006 (.ref 617), e P s240 1008 (.ref 618), e P s2 1009 .none] 4
noncomputable def o616 : Obj := ⟨(.type PySem.W.SL.s17162191345867700912x4), none, kD s185 [(.type PySem.W.SL.s2742458400755230247x6)] [(.ref 616), (.type PySem.W.SL.s2742458400755230247x6)] 615 s185 true [] [] false none false, ⟨[none, none, some (.str s185 860), some (.str s185 868), some (.builtin PySem.W.SL.s11443829558043349243x14), some (.bool true)]⟩⟩
noncomputable def o617 : Obj := ⟨(.type PySem.W.SL.s14755015743595814543x17), none, .fields ⟨[(.str s270 1005), (.ref 616), (.builtin PySem.W.SL.s6511155373996960695x17), (.builtin PySem.W.SL.s12411053484034534018x21)]⟩, ⟨[]⟩⟩
noncomputable def o618 : Obj := ⟨(.type PySem.W.SL.s14755015743595814543x17), none, .fields ⟨[(.str s240 1007), (.ref 616), (.builtin PySem.W.SL.s10220274742760427390x26), .none]⟩, ⟨[]⟩⟩
noncomputable def o619 : Obj := ⟨(.type PySem.W.SL.s4290257624100764138x5), none, .fields ⟨[(.ref 616), (.ref 616), (.ref 616)]⟩, ⟨[]⟩⟩
noncomputable def o620 : Obj := ⟨(.type PySem.W.SL.s11030030927630378310x26), none, .fields ⟨[(.builtin PySem.W.SL.s4860613602091757760x24), (.ref 616)]⟩, ⟨[]⟩⟩
noncomputable def o621 : Obj := tO []
noncomputable def o622 : Obj := ⟨(.type PySem.W.SL.s11030030927630378310x26), none, .fields ⟨[(.builtin PySem.W.SL.s10062305145149207511x16), (.type PySem.W.SL.s17162191345867700912x4)]⟩, ⟨[]⟩⟩
noncomputable def o623 (P : Params) : Obj := dO [e P s230 1021 (.str s393 1012), e P s232 1023 (.str s186 1022), e P s233 1025 (.int 372 1024), e P s234 1034 (.ref 634), e P s394 1041 (.ref 641), e P s358 1049 (.ref 648), e P s248 1057 (.ref 655), e P s247 1067 (.ref 662), e P s395 1074 (.ref 669), e P s365 1083 (.ref 676), e P s396 1091 (.ref 683), e P s397 1099 (.ref 690), e P s398 1107 (.ref 697), e P s399 1114 (.ref 704), e P s400 1121 (.ref 711), e P s235 1132 (.ref 712)] 16
noncomputable def o624 : Obj := tO []
noncomputable def o625 : Obj := nO [(.int 374 0), (.int 4 0), (.ref 633), (.int 388 0), (.int 4 0), (.ref 640), (.int 392 0), (.int 4 0), (.ref 647), (.int 396 0), (.int 4 0), (.ref 654), (.int 401 0), (.int 4 0), (.ref 661), (.int 413 0), (.int 4 0), (.ref 668), (.int 417 0), (.int 4 0), (.ref 675), (.int 426 0), (.int 4 0), (.ref 682), (.int 431 0), (.int 4 0), (.ref 689), (.int 436 0), (.int 4 0), (.ref 696), (.int 439 0), (.int 4 0), (.ref 703), (.int 442 0), (.int 4 0), (.ref 710)]
noncomputable def o626 : Obj := cO s186 s186 s163 1016 1019 372 0 0 624 false 625 .none .none .none
noncomputable def o627 : Obj := ⟨(.type PySem.W.SL.s658472552662922059x5), none, .plain, ⟨[some (.ref 626), some (.ref 3), some (.ref 623), none, some (.str s393 1012), none, some (.ref 0)]⟩⟩
noncomputable def o628 : Obj := tO []
noncomputable def o629 : Obj := nO []
noncomputable def o630 : Obj := tO [(.str s237 1029), (.str s401 1030), (.str s251 1031)]
noncomputable def o631 : Obj := tO []
noncomputable def o632 (p : Program) : Obj := ⟨.none, none, fD (meth p 26 0) s402 .none .none .none .none 0, ⟨[]⟩⟩
noncomputable def o633 : Obj := cO s234 s402 s163 1026 1032 374 3 3 628 true 629 (.ref 630) (.ref 631) (.ref 632)
noncomputable def o634 (p : Program) : Obj := ⟨(.type PySem.W.SL.s7174869446012820540x8), none, fD (meth p 26 0) s402 .none .none (.ref 633) (.str s393 1012) 3, ⟨[]⟩⟩
noncomputable def o635 : Obj := tO []
noncomputable def o636 : Obj := nO []
noncomputable def o637 : Obj := tO [(.str s237 1038)]
noncomputable def o638 : Obj := tO []
noncomputable def o639 (p : Program) : Obj := ⟨.none, none, fD (meth p 26 1) s403 .none .none .none .none 0, ⟨[]⟩⟩
noncomputable def o640 : Obj := cO s394 s403 s163 1035 1039 388 1 3 635 true 636 (.ref 637) (.ref 638) (.ref 639)
noncomputable def o641 (p : Program) : Obj := ⟨(.type PySem.W.SL.s7174869446012820540x8), none, fD (meth p 26 1) s403 .none .none (.ref 640) (.str s393 1012) 3, ⟨[]⟩⟩
noncomputable def o642 : Obj := tO []
noncomputable def o643 : Obj := nO []
noncomputable def o644 : Obj := tO [(.str s237 1045), (.str s310 1046)]
noncomputable def o645 : Obj := tO []
noncomputable def o646 (p : Program) : Obj := ⟨.none, none, fD (meth p 26 2) s404 .none .none .none .none 0, ⟨[]⟩⟩
noncomputable def o647 : Obj := cO s358 s404 s163 1042 1047 392 2 3 642 true 643 (.ref 644) (.ref 645) (.ref 646)
noncomputable def o648 (p : Program) : Obj := ⟨(.type PySem.W.SL.s7174869446012820540x8), none, fD (meth p 26 2) s404 .none .none (.ref 647) (.str s393 1012) 3, ⟨[]⟩⟩
noncomputable def o649 : Obj := tO []
noncomputable def o650 : Obj := nO []
noncomputable def o651 : Obj := tO [(.str s237 1053), (.str s310 1054)]
noncomputable def o652 : Obj := tO []
noncomputable def o653 (p : Program) : Obj := ⟨.none, none, fD (meth p 26 3) s405 .none .none .none .none 0, ⟨[]⟩⟩
noncomputable def o654 : Obj := cO s248 s405 s163 1050 1055 396 2 3 649 true 650 (.ref 651) (.ref 652) (.ref 653)
noncomputable def o655 (p : Program) : Obj := ⟨(.type PySem.W.SL.s7174869446012820540x8), none, fD (meth p 26 3) s405 .none .none (.ref 654) (.str s393 1012) 3, ⟨[]⟩⟩
noncomputable def o656 : Obj := tO []
noncomputable def o657 : Obj := nO []
noncomputable def o658 : Obj := tO [(.str s237 1061), (.str s310 1062), (.str s257 1063), (.str s406 1064)]
noncomputable def o659 : Obj := tO []
noncomputable def o660 (p : Program) : Obj := ⟨.none, none, fD (meth p 26 4) s407 .none .none .none .none 0, ⟨[]⟩⟩
noncomputable def o661 : Obj := cO s247 s407 s163 1058 1065 401 3 3 656 true 657 (.ref 658) (.ref 659) (.ref 660)
noncomputable def o662 (p : Program) : Obj := ⟨(.type PySem.W.SL.s7174869446012820540x8), none, fD (meth p 26 4) s407 .none .none (.ref 661) (.str s393 1012) 3, ⟨[]⟩⟩
noncomputable def o663 : Obj := tO []
noncomputable def o664 : Obj := nO []
noncomputable def o665 : Obj := tO [(.str s237 1071)]
noncomputable def o666 : Obj := tO []
noncomputable def o667 (p : Program) : Obj := ⟨.none, none, fD (meth p 26 5) s408 .none .none .none .none 0, ⟨[]⟩⟩
noncomputable def o668 : Obj := cO s395 s408 s163 1068 1072 413 1 3 663 true 664 (.ref 665) (.ref 666) (.ref 667)
noncomputable def o669 (p : Program) : Obj := ⟨(.type PySem.W.SL.s7174869446012820540x8), none, fD (meth p 26 5) s408 .none .none (.ref 668) (.str s393 1012) 3, ⟨[]⟩⟩
noncomputable def o670 : Obj := tO []
noncomputable def o671 : Obj := nO []
noncomputable def o672 : Obj := tO [(.str s237 1078), (.str s310 1079), (.str s257 1080)]
noncomputable def o673 : Obj := tO []
noncomputable def o674 (p : Program) : Obj := ⟨.none, none, fD (meth p 26 6) s409 .none .none .none .none 0, ⟨[]⟩⟩
noncomputable def o675 : Obj := cO s365 s409 s163 1075 1081 417 1 3 670 true 671 (.ref 672) (.ref 673) (.ref 674)
noncomputable def o676 (p : Program) : Obj := ⟨(.type PySem.W.SL.s7174869446012820540x8), none, fD (meth p 26 6) s409 .none .none (.ref 675) (.str s393 1012) 3, ⟨[]⟩⟩
noncomputable def o677 : Obj := tO []
noncomputable def o678 : Obj := nO []
noncomputable def o679 : Obj := tO [(.str s237 1087), (.str s261 1088)]
noncomputable def o680 : Obj := tO []
noncomputable def o681 (p : Program) : Obj := ⟨.none, none, fD (meth p 26 7) s410 .none .none .none .none 0, ⟨[]⟩⟩
noncomputable def o682 : Obj := cO s396 s410 s163 1084 1089 426 2 3 677 true 678 (.ref 679) (.ref 680) (.ref 681)
noncomputable def o683 (p : Program) : Obj := ⟨(.type PySem.W.SL.s7174869446012820540x8), none, fD (meth p 26 7) s410 .none .none (.ref 682) (.str s393 1012) 3, ⟨[]⟩⟩
noncomputable def o684 : Obj := tO []
noncomputable def o685 : Obj := nO []
noncomputable def o686 : Obj := tO [(.str s237 1095), (.str s261 1096)]
noncomputable def o687 : Obj := tO []
noncomputable def o688 (p : Program) : Obj := ⟨.none, none, fD (meth p 26 8) s411 .none .none .none .none 0, ⟨[]⟩⟩
noncomputable def o689 : Obj := cO s397 s411 s163 1092 1097 431 2 3 684 true 685 (.ref 686) (.ref 687) (.ref 688)
noncomputable def o690 (p : Program) : Obj := ⟨(.type PySem.W.SL.s7174869446012820540x8), none, fD (meth p 26 8) s411 .none .none (.ref 689) (.str s393 1012) 3, ⟨[]⟩⟩
noncomputable def o691 : Obj := tO []
noncomputable def o692 : Obj := nO []
noncomputable def o693 : Obj := tO [(.str s237 1103), (.str s412 1104)]
noncomputable def o694 : Obj := tO []
noncomputable def o695 (p : Program) : Obj := ⟨.none, none, fD (meth p 26 9) s413 .none .none .none .none 0, ⟨[]⟩⟩
noncomputable def o696 : Obj := cO s398 s413 s163 1100 1105 436 2 3 691 true 692 (.ref 693) (.ref 694) (.ref 695)
noncomputable def o697 (p : Program) : Obj := ⟨(.type PySem.W.SL.s7174869446012820540x8), none, fD (meth p 26 9) s413 .none .none (.ref 696) (.str s393 1012) 3, ⟨[]⟩⟩
noncomputable def o698 : Obj := tO []
noncomputable def o699 : Obj := nO []
noncomputable def o700 : Obj := tO [(.str s237 1111)]
noncomputable def o701 : Obj := tO []
noncomputable def o702 (p : Program) : Obj := ⟨.none, none, fD (meth p 26 10) s414 .none .none .none .none 0, ⟨[]⟩⟩
noncomputable def o703 : Obj := cO s399 s414 s163 1108 1112 439 1 3 698 true 699 (.ref 700) (.ref 701) (.ref 702)
noncomputable def o704 (p : Program) : Obj := ⟨(.type PySem.W.SL.s7174869446012820540x8), none, fD (meth p 26 10) s414 .none .none (.ref 703) (.str s393 1012) 3, ⟨[]⟩⟩
noncomputable def o705 : Obj := tO []
noncomputable def o706 : Obj := nO []
noncomputable def o707 : Obj := tO [(.str s237 1118)]
noncomputable def o708 : Obj := tO []
noncomputable def o709 (p : Program) : Obj := ⟨.none, none, fD (meth p 26 11) s415 .none .none .none .none 0, ⟨[]⟩⟩
noncomputable def o710 : Obj := cO s400 s415 s163 1115 1119 442 1 3 705 true 706 (.ref 707) (.ref 708) (.ref 709)
noncomputable def o711 (p : Program) : Obj := ⟨(.type PySem.W.SL.s7174869446012820540x8), none, fD (meth p 26 11) s415 .none .none (.ref 710) (.str s393 1012) 3, ⟨[]⟩⟩
noncomputable def o712 : Obj := tO [(.str s401 1122), (.str s416 1123), (.str s417 1124), (.str s418 1125), (.str s419 1126), (.str s420 1127), (.str s421 1128), (.str s251 1129), (.str s422 1130), (.str s241 1131)]
noncomputable def o713 (P : Params) : Obj := dO [e P s230 1021 (.str s393 1012), e P s233 1025 (.int 372 1024), e P s234 1034 (.ref 634), e P s394 1041 (.ref 641), e P s358 1049 (.ref 648), e P s248 1057 (.ref 655), e P s247 1067 (.ref 662), e P s395 1074 (.ref 669), e P s365 1083 (.ref 676), e P s396 1091 (.ref 683), e P s397 1099 (.ref 690), e P s398 1107 (.ref 697), e P s399 1114 (.ref 704), e P s400 1121 (.ref 711), e P s235 1132 (.ref 712), e P s270 1134 (.ref 715), e P s240 1136 (.ref 716), e P s2 1137 .none] 4
noncomputable def o714 : Obj := ⟨(.type PySem.W.SL.s17162191345867700912x4), none, kD s186 [(.type PySem.W.SL.s2742458400755230247x6)] [(.ref 714), (.type PySem.W.SL.s2742458400755230247x6)] 713 s186 true [] [] false none false, ⟨[none, none, some (.str s186 1014), some (.str s186 1022), some (.builtin PySem.W.SL.s11443829558043349243x14), some (.bool true)]⟩⟩
noncomputable def o715 : Obj := ⟨(.type PySem.W.SL.s14755015743595814543x17), none, .fields ⟨[(.str s270 1133), (.ref 714), (.builtin PySem.W.SL.s6511155373996960695x17), (.builtin PySem.W.SL.s12411053484034534018x21)]⟩, ⟨[]⟩⟩
noncomputable def o716 : Obj := ⟨(.type PySem.W.SL.s14755015743595814543x17), none, .fields ⟨[(.str s240 1135), (.ref 714), (.builtin PySem.W.SL.s10220274742760427390x26), .none]⟩, ⟨[]⟩⟩
noncomputable def o717 : Obj := ⟨(.type PySem.W.SL.s4290257624100764138x5), none, .fields ⟨[(.ref 714), (.ref 714), (.ref 714)]⟩, ⟨[]⟩⟩
noncomputable def o718 : Obj := ⟨(.type PySem.W.SL.s11030030927630378310x26), none, .fields ⟨[(.builtin PySem.W.SL.s4860613602091757760x24), (.ref 714)]⟩, ⟨[]⟩⟩
noncomputable def o719 : Obj := tO []
noncomputable def o720 : Obj := nO []
noncomputable def o721 : Obj := tO [(.str s351 1143)]
noncomputable def o722 : Obj := tO []
noncomputable def o723 (p : Program) : Obj := ⟨.none, none, fD (nth p.main.body 27) s187 .none .none .none .none 0, ⟨[]⟩⟩
noncomputable def o724 : Obj := cO s187 s187 s163 1140 1144 444 1 3 719 true 720 (.ref 721) (.ref 722) (.ref 723)
noncomputable def o725 (p : Program) : Obj := ⟨(.type PySem.W.SL.s7174869446012820540x8), none, fD (nth p.main.body 27) s187 .none .none (.ref 724) (.str s393 1012) 3, ⟨[]⟩⟩
noncomputable def o726 : Obj := tO []
noncomputable def o727 : Obj := ⟨(.type PySem.W.SL.s11030030927630378310x26), none, .fields ⟨[(.builtin PySem.W.SL.s10062305145149207511x16), (.type PySem.W.SL.s17162191345867700912x4)]⟩, ⟨[]⟩⟩
noncomputable def o728 (P : Params) : Obj := dO [e P s230 1162 (.str s423 1147), e P s232 1164 (.str s194 1163), e P s233 1166 (.int 455 1165), e P s234 1176 (.ref 739), e P s255 1183 (.ref 746), e P s424 1191 (.ref 753), e P s235 1200 (.ref 754)] 7
noncomputable def o729 : Obj := tO []
noncomputable def o730 : Obj := nO [(.int 457 0), (.int 4 0), (.ref 738), (.int 467 0), (.int 4 0), (.ref 745), (.int 470 0), (.int 4 0), (.ref 752)]
noncomputable def o731 : Obj := cO s194 s194 s163 1157 1160 455 0 0 729 false 730 .none .none .none
noncomputable def o732 : Obj := ⟨(.type PySem.W.SL.s658472552662922059x5), none, .plain, ⟨[some (.ref 731), some (.ref 3), some (.ref 728), none, some (.str s423 1147), none, some (.ref 0)]⟩⟩
noncomputable def o733 : Obj := tO []
noncomputable def o734 : Obj := nO []
noncomputable def o735 : Obj := tO [(.str s237 1170), (.str s425 1171), (.str s426 1172), (.str s427 1173)]
noncomputable def o736 : Obj := tO []
noncomputable def o737 (p : Program) : Obj := ⟨.none, none, fD (meth p 32 0) s428 .none .none .none .none 0, ⟨[]⟩⟩
noncomputable def o738 : Obj := cO s234 s428 s163 1167 1174 457 4 3 733 true 734 (.ref 735) (.ref 736) (.ref 737)
noncomputable def o739 (p : Program) : Obj := ⟨(.type PySem.W.SL.s7174869446012820540x8), none, fD (meth p 32 0) s428 .none .none (.ref 738) (.str s423 1147) 3, ⟨[]⟩⟩
noncomputable def o740 : Obj := tO []
noncomputable def o741 : Obj := nO []
noncomputable def o742 : Obj := tO [(.str s237 1180)]
noncomputable def o743 : Obj := tO []
noncomputable def o744 (p : Program) : Obj := ⟨.none, none, fD (meth p 32 1) s429 .none .none .none .none 0, ⟨[]⟩⟩
noncomputable def o745 : Obj := cO s255 s429 s163 1177 1181 467 1 3 740 true 741 (.ref 742) (.ref 743) (.ref 744)
noncomputable def o746 (p : Program) : Obj := ⟨(.type PySem.W.SL.s7174869446012820540x8), none, fD (meth p 32 1) s429 .none .none (.ref 745) (.str s423 1147) 3, ⟨[]⟩⟩
noncomputable def o747 : Obj := tO []
noncomputable def o748 : Obj := nO []
noncomputable def o749 : Obj := tO [(.str s237 1187), (.str s261 1188)]
noncomputable def o750 : Obj := tO []
noncomputable def o751 (p : Program) : Obj := ⟨.none, none, fD (meth p 32 2) s430 .none .none .none .none 0, ⟨[]⟩⟩
noncomputable def o752 : Obj := cO s424 s430 s163 1184 1189 470 2 3 747 true 748 (.ref 749) (.ref 750) (.ref 751)
noncomputable def o753 (p : Program) : Obj := ⟨(.type PySem.W.SL.s7174869446012820540x8), none, fD (meth p 32 2) s430 .none .none (.ref 752) (.str s423 1147) 3, ⟨[]⟩⟩
noncomputable def o754 : Obj := tO [(.str s356 1192), (.str s425 1193), (.str s431 1194), (.str s191 1195), (.str s189 1196), (.str s344 1197), (.str s426 1198), (.str s427 1199)]
noncomputable def o755 (P : Params) : Obj := dO [e P s230 1162 (.str s423 1147), e P s233 1166 (.int 455 1165), e P s234 1176 (.ref 739), e P s255 1183 (.ref 746), e P s424 1191 (.ref 753), e P s235 1200 (.ref 754), e P s270 1202 (.ref 757), e P s240 1204 (.ref 758), e P s2 1205 .none] 4
noncomputable def o756 : Obj := ⟨(.type PySem.W.SL.s17162191345867700912x4), none, kD s194 [(.type PySem.W.SL.s2742458400755230247x6)] [(.ref 756), (.type PySem.W.SL.s2742458400755230247x6)] 755 s194 true [] [] false none false, ⟨[none, none, some (.str s194 1155), some (.str s194 1163), some (.builtin PySem.W.SL.s11443829558043349243x14), some (.bool true)]⟩⟩
noncomputable def o757 : Obj := ⟨(.type PySem.W.SL.s14755015743595814543x17), none, .fields ⟨[(.str s270 1201), (.ref 756), (.builtin PySem.W.SL.s6511155373996960695x17), (.builtin PySem.W.SL.s12411053484034534018x21)]⟩, ⟨[]⟩⟩
noncomputable def o758 : Obj := ⟨(.type PySem.W.SL.s14755015743595814543x17), none, .fields ⟨[(.str s240 1203), (.ref 756), (.builtin PySem.W.SL.s10220274742760427390x26), .none]⟩, ⟨[]⟩⟩
noncomputable def o759 : Obj := ⟨(.type PySem.W.SL.s4290257624100764138x5), none, .fields ⟨[(.ref 756), (.ref 756), (.ref 756)]⟩, ⟨[]⟩⟩
noncomputable def o760 : Obj := ⟨(.type PySem.W.SL.s11030030927630378310x26), none, .fields ⟨[(.builtin PySem.W.SL.s4860613602091757760x24), (.ref 756)]⟩, ⟨[]⟩⟩
noncomputable def o761 : Obj := tO []
noncomputable def o762 : Obj := ⟨(.type PySem.W.SL.s11030030927630378310x26), none, .fields ⟨[(.builtin PySem.W.SL.s10062305145149207511x16), (.type PySem.W.SL.s17162191345867700912x4)]⟩, ⟨[]⟩⟩
noncomputable def o763 (P : Params) : Obj := dO [e P s230 1215 (.str s423 1147), e P s232 1217 (.str s195 1216), e P s233 1219 (.int 473 1218), e P s234 1232 (.ref 774), e P s261 1239 (.ref 781), e P s432 1247 (.ref 788), e P s433 1255 (.ref 795), e P s434 1266 (.ref 802), e P s435 1276 (.ref 809), e P s436 1286 (.ref 816), e P s437 1294 (.ref 823), e P s249 1300 (.ref 828), e P s193 1308 (.ref 835), e P s248 1318 (.ref 842), e P s438 1325 (.ref 849), e P s247 1337 (.ref 856), e P s439 1347 (.ref 863), e P s440 1355 (.ref 870), e P s441 1364 (.ref 877), e P s235 1372 (.ref 878)] 20
noncomputable def o764 : Obj := tO []
noncomputable def o765 : Obj := nO [(.int 475 0), (.int 4 0), (.ref 773), (.int 486 0), (.int 4 0), (.ref 780), (.int 489 0), (.int 4 0), (.ref 787), (.int 493 0), (.int 4 0), (.ref 794), (.int 498 0), (.int 4 0), (.ref 801), (.int 508 0), (.int 4 0), (.ref 808), (.int 511 0), (.int 4 0), (.ref 815), (.int 514 0), (.int 4 0), (.ref 822), (.int 517 0), (.int 4 0), (.ref 827), (.int 534 0), (.int 4 0), (.ref 834), (.int 539 0), (.int 4 0), (.ref 841), (.int 550 0), (.int 4 0), (.ref 848), (.int 553 0), (.int 4 0), (.ref 855), (.int 569 0), (.int 4 0), (.ref 862), (.int 580 0), (.int 4 0), (.ref 869), (.int 583 0), (.int 4 0), (.ref 876)]
noncomputable def o766 : Obj := cO s195 s195 s163 1210 1213 473 0 0 764 false 765 .none .none .none
noncomputable def o767 : Obj := ⟨(.type PySem.W.SL.s658472552662922059x5), none, .plain, ⟨[some (.ref 766), some (.ref 3), some (.ref 763), none, some (.str s423 1147), none, some (.ref 0)]⟩⟩
noncomputable def o768 : Obj := tO []
noncomputable def o769 : Obj := nO []
noncomputable def o770 : Obj := tO [(.str s237 1223), (.str s372 1224), (.str s277 1225), (.str s282 1226), (.str s284 1227), (.str s285 1228), (.str s406 1229)]
noncomputable def o771 : Obj := tO []
noncomputable def o772 (p : Program) : Obj := ⟨.none, none, fD (meth p 33 0) s442 .none .none .none .none 0, ⟨[]⟩⟩
noncomputable def o773 : Obj := cO s234 s442 s163 1220 1230 475 7 3 768 true 769 (.ref 770) (.ref 771) (.ref 772)
noncomputable def o774 (p : Program) : Obj := ⟨(.type PySem.W.SL.s7174869446012820540x8), none, fD (meth p 33 0) s442 .none .none (.ref 773) (.str s423 1147) 3, ⟨[]⟩⟩
noncomputable def o775 : Obj := tO []
noncomputable def o776 : Obj := nO []
noncomputable def o777 : Obj := tO [(.str s237 1236)]
noncomputable def o778 : Obj := tO []
noncomputable def o779 (p : Program) : Obj := ⟨.none, none, fD (meth p 33 1) s443 .none .none .none .none 0, ⟨[]⟩⟩
noncomputable def o780 : Obj := cO s261 s443 s163 1233 1237 486 1 3 775 true 776 (.ref 777) (.ref 778) (.ref 779)
noncomputable def o781 (p : Program) : Obj := ⟨(.type PySem.W.SL.s7174869446012820540x8), none, fD (meth p 33 1) s443 .none .none (.ref 780) (.str s423 1147) 3, ⟨[]⟩⟩
noncomputable def o782 : Obj := tO []
noncomputable def o783 : Obj := nO []
noncomputable def o784 : Obj := tO [(.str s237 1243), (.str s444 1244)]
noncomputable def o785 : Obj := tO []
noncomputable def o786 (p : Program) : Obj := ⟨.none, none, fD (meth p 33 2) s445 .none .none .none .none 0, ⟨[]⟩⟩
noncomputable def o787 : Obj := cO s432 s445 s163 1240 1245 489 2 3 782 true 783 (.ref 784) (.ref 785) (.ref 786)
noncomputable def o788 (p : Program) : Obj := ⟨(.type PySem.W.SL.s7174869446012820540x8), none, fD (meth p 33 2) s445 .none .none (.ref 787) (.str s423 1147) 3, ⟨[]⟩⟩
noncomputable def o789 : Obj := tO []
noncomputable def o790 : Obj := nO []
noncomputable def o791 : Obj := tO [(.str s237 1251), (.str s311 1252)]
noncomputable def o792 : Obj := tO []
noncomputable def o793 (p : Program) : Obj := ⟨.none, none, fD (meth p 33 3) s446 .none .none .none .none 0, ⟨[]⟩⟩
noncomputable def o794 : Obj := cO s433 s446 s163 1248 1253 493 2 3 789 true 790 (.ref 791) (.ref 792) (.ref 793)
noncomputable def o795 (p : Program) : Obj := ⟨(.type PySem.W.SL.s7174869446012820540x8), none, fD (meth p 33 3) s446 .none .none (.ref 794) (.str s423 1147) 3, ⟨[]⟩⟩
noncomputable def o796 : Obj := tO []
noncomputable def o797 : Obj := nO []
noncomputable def o798 : Obj := tO [(.str s237 1259), (.str s189 1260), (.str s447 1261), (.str s426 1262), (.str s311 1263)]
noncomputable def o799 : Obj := tO []
noncomputable def o800 (p : Program) : Obj := ⟨.none, none, fD (meth p 33 4) s448 .none .none .none .none 0, ⟨[]⟩⟩
noncomputable def o801 : Obj := cO s434 s448 s163 1256 1264 498 1 3 796 true 797 (.ref 798) (.ref 799) (.ref 800)
noncomputable def o802 (p : Program) : Obj := ⟨(.type PySem.W.SL.s7174869446012820540x8), none, fD (meth p 33 4) s448 .none .none (.ref 801) (.str s423 1147) 3, ⟨[]⟩⟩
noncomputable def o803 : Obj := tO []
noncomputable def o804 : Obj := nO []
noncomputable def o805 : Obj := tO [(.str s237 1270), (.str s191 1271), (.str s426 1272), (.str s427 1273)]
noncomputable def o806 : Obj := tO []
noncomputable def o807 (p : Program) : Obj := ⟨.none, none, fD (meth p 33 5) s449 .none .none .none .none 0, ⟨[]⟩⟩
noncomputable def o808 : Obj := cO s435 s449 s163 1267 1274 508 4 3 803 true 804 (.ref 805) (.ref 806) (.ref 807)
noncomputable def o809 (p : Program) : Obj := ⟨(.type PySem.W.SL.s7174869446012820540x8), none, fD (meth p 33 5) s449 .none .none (.ref 808) (.str s423 1147) 3, ⟨[]⟩⟩
noncomputable def o810 : Obj := tO []
noncomputable def o811 : Obj := nO []
noncomputable def o812 : Obj := tO [(.str s237 1280), (.str s191 1281), (.str s426 1282), (.str s427 1283)]
noncomputable def o813 : Obj := tO []
noncomputable def o814 (p : Program) : Obj := ⟨.none, none, fD (meth p 33 6) s450 .none .none .none .none 0, ⟨[]⟩⟩
noncomputable def o815 : Obj := cO s436 s450 s163 1277 1284 511 4 3 810 true 811 (.ref 812) (.ref 813) (.ref 814)
noncomputable def o816 (p : Program) : Obj := ⟨(.type PySem.W.SL.s7174869446012820540x8), none, fD (meth p 33 6) s450 .none .none (.ref 815) (.str s423 1147) 3, ⟨[]⟩⟩
noncomputable def o817 : Obj := tO []
noncomputable def o818 : Obj := nO []
noncomputable def o819 : Obj := tO [(.str s237 1290), (.str s311 1291)]
noncomputable def o820 : Obj := tO []
noncomputable def o821 (p : Program) : Obj := ⟨.none, none, fD (meth p 33 7) s451 .none .none .none .none 0, ⟨[]⟩⟩
noncomputable def o822 : Obj := cO s437 s451 s163 1287 1292 514 2 3 817 true 818 (.ref 819) (.ref 820) (.ref 821)
noncomputable def o823 (p : Program) : Obj := ⟨(.type PySem.W.SL.s7174869446012820540x8), none, fD (meth p 33 7) s451 .none .none (.ref 822) (.str s423 1147) 3, ⟨[]⟩⟩
noncomputable def o824 : Obj := tO []
noncomputable def o825 : Obj := nO []
noncomputable def o826 (p : Program) : Obj := ⟨.none, none, fD (meth p 33 8) s452 .none .none .none .none 0, ⟨[]⟩⟩
noncomputable def o827 : Obj := cO s249 s452 s163 1295 1298 517 2 3 824 true 825 .none .none (.ref 826)
noncomputable def o828 (p : Program) : Obj := ⟨(.type PySem.W.SL.s7174869446012820540x8), none, fD (meth p 33 8) s452 .none .none (.ref 827) (.str s423 1147) 3, ⟨[]⟩⟩
noncomputable def o829 : Obj := tO []
noncomputable def o830 : Obj := nO []
noncomputable def o831 : Obj := tO [(.str s237 1304), (.str s311 1305)]
noncomputable def o832 : Obj := tO []
noncomputable def o833 (p : Program) : Obj := ⟨.none, none, fD (meth p 33 9) s453 .none .none .none .none 0, ⟨[]⟩⟩
noncomputable def o834 : Obj := cO s193 s453 s163 1301 1306 534 2 3 829 true 830 (.ref 831) (.ref 832) (.ref 833)
noncomputable def o835 (p : Program) : Obj := ⟨(.type PySem.W.SL.s7174869446012820540x8), none, fD (meth p 33 9) s453 .none .none (.ref 834) (.str s423 1147) 3, ⟨[]⟩⟩
noncomputable def o836 : Obj := tO []
noncomputable def o837 : Obj := nO []
noncomputable def o838 : Obj := tO [(.str s237 1312), (.str s311 1313), (.str s261 1314), (.str s257 1315)]
noncomputable def o839 : Obj := tO []
noncomputable def o840 (p : Program) : Obj := ⟨.none, none, fD (meth p 33 10) s454 .none .none .none .none 0, ⟨[]⟩⟩
noncomputable def o841 : Obj := cO s248 s454 s163 1309 1316 539 3 3 836 true 837 (.ref 838) (.ref 839) (.ref 840)
noncomputable def o842 (p : Program) : Obj := ⟨(.type PySem.W.SL.s7174869446012820540x8), none, fD (meth p 33 10) s454 .none .none (.ref 841) (.str s423 1147) 3, ⟨[]⟩⟩
noncomputable def o843 : Obj := tO []
noncomputable def o844 : Obj := nO []
noncomputable def o845 : Obj := tO [(.str s237 1322)]
noncomputable def o846 : Obj := tO []
noncomputable def o847 (p : Program) : Obj := ⟨.none, none, fD (meth p 33 11) s455 .none .none .none .none 0, ⟨[]⟩⟩
noncomputable def o848 : Obj := cO s438 s455 s163 1319 1323 550 1 3 843 true 844 (.ref 845) (.ref 846) (.ref 847)
noncomputable def o849 (p : Program) : Obj := ⟨(.type PySem.W.SL.s7174869446012820540x8), none, fD (meth p 33 11) s455 .none .none (.ref 848) (.str s423 1147) 3, ⟨[]⟩⟩
noncomputable def o850 : Obj := tO []
noncomputable def o851 : Obj := nO []
noncomputable def o852 : Obj := tO [(.str s237 1329), (.str s311 1330), (.str s257 1331), (.str s328 1332), (.str s456 1333), (.str s261 1334)]
noncomputable def o853 : Obj := tO []
noncomputable def o854 (p : Program) : Obj := ⟨.none, none, fD (meth p 33 12) s457 .none .none .none .none 0, ⟨[]⟩⟩
noncomputable def o855 : Obj := cO s247 s457 s163 1326 1335 553 3 3 850 true 851 (.ref 852) (.ref 853) (.ref 854)
noncomputable def o856 (p : Program) : Obj := ⟨(.type PySem.W.SL.s7174869446012820540x8), none, fD (meth p 33 12) s457 .none .none (.ref 855) (.str s423 1147) 3, ⟨[]⟩⟩
noncomputable def o857 : Obj := tO []
noncomputable def o858 : Obj := nO []
noncomputable def o859 : Obj := tO [(.str s237 1341), (.str s311 1342), (.str s257 1343), (.str s261 1344)]
noncomputable def o860 : Obj := tO []
noncomputable def o861 (p : Program) : Obj := ⟨.none, none, fD (meth p 33 13) s458 .none .none .none .none 0, ⟨[]⟩⟩
noncomputable def o862 : Obj := cO s439 s458 s163 1338 1345 569 3 3 857 true 858 (.ref 859) (.ref 860) (.ref 861)
noncomputable def o863 (p : Program) : Obj := ⟨(.type PySem.W.SL.s7174869446012820540x8), none, fD (meth p 33 13) s458 .none .none (.ref 862) (.str s423 1147) 3, ⟨[]⟩⟩
noncomputable def o864 : Obj := tO []
noncomputable def o865 : Obj := nO []
noncomputable def o866 : Obj := tO [(.str s237 1351), (.str s311 1352)]
noncomputable def o867 : Obj := tO []
noncomputable def o868 (p : Program) : Obj := ⟨.none, none, fD (meth p 33 14) s459 .none .none .none .none 0, ⟨[]⟩⟩
noncomputable def o869 : Obj := cO s440 s459 s163 1348 1353 580 2 3 864 true 865 (.ref 866) (.ref 867) (.ref 868)
noncomputable def o870 (p : Program) : Obj := ⟨(.type PySem.W.SL.s7174869446012820540x8), none, fD (meth p 33 14) s459 .none .none (.ref 869) (.str s423 1147) 3, ⟨[]⟩⟩
noncomputable def o871 : Obj := tO []
noncomputable def o872 : Obj := nO []
noncomputable def o873 : Obj := tO [(.str s237 1359), (.str s311 1360), (.str s460 1361)]
noncomputable def o874 : Obj := tO []
noncomputable def o875 (p : Program) : Obj := ⟨.none, none, fD (meth p 33 15) s461 .none .none .none .none 0, ⟨[]⟩⟩
noncomputable def o876 : Obj := cO s441 s461 s163 1356 1362 583 3 3 871 true 872 (.ref 873) (.ref 874) (.ref 875)
noncomputable def o877 (p : Program) : Obj := ⟨(.type PySem.W.SL.s7174869446012820540x8), none, fD (meth p 33 15) s461 .none .none (.ref 876) (.str s423 1147) 3, ⟨[]⟩⟩
noncomputable def o878 : Obj := tO [(.str s406 1365), (.str s285 1366), (.str s284 1367), (.str s372 1368), (.str s282 1369), (.str s153 1370), (.str s277 1371)]
noncomputable def o879 (P : Params) : Obj := dO [e P s230 1215 (.str s423 1147), e P s233 1219 (.int 473 1218), e P s234 1232 (.ref 774), e P s261 1239 (.ref 781), e P s432 1247 (.ref 788), e P s433 1255 (.ref 795), e P s434 1266 (.ref 802), e P s435 1276 (.ref 809), e P s436 1286 (.ref 816), e P s437 1294 (.ref 823), e P s249 1300 (.ref 828), e P s193 1308 (.ref 835), e P s248 1318 (.ref 842), e P s438 1325 (.ref 849), e P s247 1337 (.ref 856), e P s439 1347 (.ref 863), e P s440 1355 (.ref 870), e P s441 1364 (.ref 877), e P s235 1372 (.ref 878), e P s270 1374 (.ref 881), e P s240 1376 (.ref 882), e P s2 1377 .none] 4
noncomputable def o880 : Obj := ⟨(.type PySem.W.SL.s17162191345867700912x4), none, kD s195 [(.type PySem.W.SL.s2742458400755230247x6)] [(.ref 880), (.type PySem.W.SL.s2742458400755230247x6)] 879 s195 true [] [] false none false, ⟨[none, none, some (.str s195 1208), some (.str s195 1216), some (.builtin PySem.W.SL.s11443829558043349243x14), some (.bool true)]⟩⟩
noncomputable def o881 : Obj := ⟨(.type PySem.W.SL.s14755015743595814543x17), none, .fields ⟨[(.str s270 1373), (.ref 880), (.builtin PySem.W.SL.s6511155373996960695x17), (.builtin PySem.W.SL.s12411053484034534018x21)]⟩, ⟨[]⟩⟩
noncomputable def o882 : Obj := ⟨(.type PySem.W.SL.s14755015743595814543x17), none, .fields ⟨[(.str s240 1375), (.ref 880), (.builtin PySem.W.SL.s10220274742760427390x26), .none]⟩, ⟨[]⟩⟩
noncomputable def o883 : Obj := ⟨(.type PySem.W.SL.s4290257624100764138x5), none, .fields ⟨[(.ref 880), (.ref 880), (.ref 880)]⟩, ⟨[]⟩⟩
noncomputable def o884 : Obj := ⟨(.type PySem.W.SL.s11030030927630378310x26), none, .fields ⟨[(.builtin PySem.W.SL.s4860613602091757760x24), (.ref 880)]⟩, ⟨[]⟩⟩
noncomputable def o885 : Obj := tO []
noncomputable def o886 : Obj := ⟨(.type PySem.W.SL.s11030030927630378310x26), none, .fields ⟨[(.builtin PySem.W.SL.s10062305145149207511x16), (.type PySem.W.SL.s17162191345867700912x4)]⟩, ⟨[]⟩⟩
noncomputable def o887 (P : Params) : Obj := dO [e P s230 1387 (.str s423 1147), e P s232 1389 (.str s196 1388), e P s233 1391 (.int 587 1390), e P s234 1400 (.ref 899), e P s334 1409 (.ref 906), e P s462 1415 (.ref 911), e P s360 1423 (.ref 918), e P s333 1432 (.ref 925), e P s463 1438 (.ref 930), e P s399 1446 (.ref 937), e P s464 1454 (.ref 944), e P s235 1457 (.ref 945)] 12
noncomputable def o888 : Obj := tO []
noncomputable def o889 : Obj := nO [(.int 589 0), (.int 4 0), (.ref 898), (.int 595 0), (.int 4 0), (.ref 905), (.int 602 0), (.int 4 0), (.ref 910), (.int 605 0), (.int 4 0), (.ref 917), (.int 610 0), (.int 4 0), (.ref 924), (.int 615 0), (.int 4 0), (.ref 929), (.int 618 0), (.int 4 0), (.ref 936), (.int 621 0), (.int 4 0), (.ref 943)]
noncomputable def o890 : Obj := cO s196 s196 s163 1382 1385 587 0 0 888 false 889 .none .none .none
noncomputable def o891 : Obj := ⟨(.type PySem.W.SL.s658472552662922059x5), none, .plain, ⟨[some (.ref 890), some (.ref 3), some (.ref 887), none, some (.str s423 1147), none, some (.ref 0)]⟩⟩
noncomputable def o892 : Obj := tO [(.int 16 1392)]
noncomputable def o893 : Obj := tO []
noncomputable def o894 : Obj := nO []
noncomputable def o895 : Obj := tO [(.str s237 1396), (.str s372 1397)]
noncomputable def o896 : Obj := tO []
noncomputable def o897 (p : Program) : Obj := ⟨.none, none, fD (meth p 34 0) s465 .none .none .none .none 0, ⟨[]⟩⟩
noncomputable def o898 : Obj := cO s234 s465 s163 1393 1398 589 2 3 893 true 894 (.ref 895) (.ref 896) (.ref 897)
noncomputable def o899 (p : Program) : Obj := ⟨(.type PySem.W.SL.s7174869446012820540x8), none, fD (meth p 34 0) s465 (.ref 892) .none (.ref 898) (.str s423 1147) 3, ⟨[]⟩⟩
noncomputable def o900 : Obj := tO []
noncomputable def o901 : Obj := nO []
noncomputable def o902 : Obj := tO [(.str s237 1404), (.str s311 1405), (.str s310 1406)]
noncomputable def o903 : Obj := tO []
noncomputable def o904 (p : Program) : Obj := ⟨.none, none, fD (meth p 34 1) s466 .none .none .none .none 0, ⟨[]⟩⟩
noncomputable def o905 : Obj := cO s334 s466 s163 1401 1407 595 2 3 900 true 901 (.ref 902) (.ref 903) (.ref 904)
noncomputable def o906 (p : Program) : Obj := ⟨(.type PySem.W.SL.s7174869446012820540x8), none, fD (meth p 34 1) s466 .none .none (.ref 905) (.str s423 1147) 3, ⟨[]⟩⟩
noncomputable def o907 : Obj := tO []
noncomputable def o908 : Obj := nO []
noncomputable def o909 (p : Program) : Obj := ⟨.none, none, fD (meth p 34 2) s467 .none .none .none .none 0, ⟨[]⟩⟩
noncomputable def o910 : Obj := cO s462 s467 s163 1410 1413 602 1 3 907 true 908 .none .none (.ref 909)
noncomputable def o911 (p : Program) : Obj := ⟨(.type PySem.W.SL.s7174869446012820540x8), none, fD (meth p 34 2) s467 .none .none (.ref 910) (.str s423 1147) 3, ⟨[]⟩⟩
noncomputable def o912 : Obj := tO []
noncomputable def o913 : Obj := nO []
noncomputable def o914 : Obj := tO [(.str s237 1419), (.str s310 1420)]
noncomputable def o915 : Obj := tO []
noncomputable def o916 (p : Program) : Obj := ⟨.none, none, fD (meth p 34 3) s468 .none .none .none .none 0, ⟨[]⟩⟩
noncomputable def o917 : Obj := cO s360 s468 s163 1416 1421 605 2 3 912 true 913 (.ref 914) (.ref 915) (.ref 916)
noncomputable def o918 (p : Program) : Obj := ⟨(.type PySem.W.SL.s7174869446012820540x8), none, fD (meth p 34 3) s468 .none .none (.ref 917) (.str s423 1147) 3, ⟨[]⟩⟩
noncomputable def o919 : Obj := tO []
noncomputable def o920 : Obj := nO []
noncomputable def o921 : Obj := tO [(.str s237 1427), (.str s310 1428), (.str s311 1429)]
noncomputable def o922 : Obj := tO []
noncomputable def o923 (p : Program) : Obj := ⟨.none, none, fD (meth p 34 4) s469 .none .none .none .none 0, ⟨[]⟩⟩
noncomputable def o924 : Obj := cO s333 s469 s163 1424 1430 610 2 3 919 true 920 (.ref 921) (.ref 922) (.ref 923)
noncomputable def o925 (p : Program) : Obj := ⟨(.type PySem.W.SL.s7174869446012820540x8), none, fD (meth p 34 4) s469 .none .none (.ref 924) (.str s423 1147) 3, ⟨[]⟩⟩
noncomputable def o926 : Obj := tO []
noncomputable def o927 : Obj := nO []
noncomputable def o928 (p : Program) : Obj := ⟨.none, none, fD (meth p 34 5) s470 .none .none .none .none 0, ⟨[]⟩⟩
noncomputable def o929 : Obj := cO s463 s470 s163 1433 1436 615 1 3 926 true 927 .none .none (.ref 928)
noncomputable def o930 (p : Program) : Obj := ⟨(.type PySem.W.SL.s7174869446012820540x8), none, fD (meth p 34 5) s470 .none .none (.ref 929) (.str s423 1147) 3, ⟨[]⟩⟩
noncomputable def o931 : Obj := tO []
noncomputable def o932 : Obj := nO []
noncomputable def o933 : Obj := tO [(.str s237 1442), (.str s280 1443)]
noncomputable def o934 : Obj := tO []
noncomputable def o935 (p : Program) : Obj := ⟨.none, none, fD (meth p 34 6) s471 .none .none .none .none 0, ⟨[]⟩⟩
noncomputable def o936 : Obj := cO s399 s471 s163 1439 1444 618 2 3 931 true 932 (.ref 933) (.ref 934) (.ref 935)
noncomputable def o937 (p : Program) : Obj := ⟨(.type PySem.W.SL.s7174869446012820540x8), none, fD (meth p 34 6) s471 .none .none (.ref 936) (.str s423 1147) 3, ⟨[]⟩⟩
noncomputable def o938 : Obj := tO []
noncomputable def o939 : Obj := nO []
noncomputable def o940 : Obj := tO [(.str s237 1450), (.str s280 1451)]
noncomputable def o941 : Obj := tO []
noncomputable def o942 (p : Program) : Obj := ⟨.none, none, fD (meth p 34 7) s472 .none .none .none .none 0, ⟨[]⟩⟩
noncomputable def o943 : Obj := cO s464 s472 s163 1447 1452 621 2 3 938 true 939 (.ref 940) (.ref 941) (.ref 942)
noncomputable def o944 (p : Program) : Obj := ⟨(.type PySem.W.SL.s7174869446012820540x8), none, fD (meth p 34 7) s472 .none .none (.ref 943) (.str s423 1147) 3, ⟨[]⟩⟩
noncomputable def o945 : Obj := tO [(.str s372 1455), (.str s473 1456)]
noncomputable def o946 (P : Params) : Obj := dO [e P s230 1387 (.str s423 1147), e P s233 1391 (.int 587 1390), e P s234 1400 (.ref 899), e P s334 1409 (.ref 906), e P s462 1415 (.ref 911), e P s360 1423 (.ref 918), e P s333 1432 (.ref 925), e P s463 1438 (.ref 930), e P s399 1446 (.ref 937), e P s464 1454 (.ref 944), e P s235 1457 (.ref 945), e P s270 1459 (.ref 948), e P s240 1461 (.ref 949), e P s2 1462 .none] 4
noncomputable def o947 : Obj := ⟨(.type PySem.W.SL.s17162191345867700912x4), none, kD s196 [(.type PySem.W.SL.s2742458400755230247x6)] [(.ref 947), (.type PySem.W.SL.s2742458400755230247x6)] 946 s196 true [] [] false none false, ⟨[none, none, some (.str s196 1380), some (.str s196 1388), some (.builtin PySem.W.SL.s11443829558043349243x14), some (.bool true)]⟩⟩
noncomputable def o948 : Obj := ⟨(.type PySem.W.SL.s14755015743595814543x17), none, .fields ⟨[(.str s270 1458), (.ref 947), (.builtin PySem.W.SL.s6511155373996960695x17), (.builtin PySem.W.SL.s12411053484034534018x21)]⟩, ⟨[]⟩⟩
noncomputable def o949 : Obj := ⟨(.type PySem.W.SL.s14755015743595814543x17), none, .fields ⟨[(.str s240 1460), (.ref 947), (.builtin PySem.W.SL.s10220274742760427390x26), .none]⟩, ⟨[]⟩⟩
noncomputable def o950 : Obj := ⟨(.type PySem.W.SL.s4290257624100764138x5), none, .fields ⟨[(.ref 947), (.ref 947), (.ref 947)]⟩, ⟨[]⟩⟩
noncomputable def o951 : Obj := ⟨(.type PySem.W.SL.s11030030927630378310x26), none, .fields ⟨[(.builtin PySem.W.SL.s4860613602091757760x24), (.ref 947)]⟩, ⟨[]⟩⟩
noncomputable def o952 : Obj := tO []
noncomputable def o953 : Obj := nO []
noncomputable def o954 (p : Program) : Obj := ⟨.none, none, fD (nth p.main.body 39) s200 .none .none .none .none 0, ⟨[]⟩⟩
noncomputable def o955 : Obj := cO s200 s200 s163 1473 1476 627 2 3 952 true 953 .none .none (.ref 954)
noncomputable def o956 (p : Program) : Obj := ⟨(.type PySem.W.SL.s7174869446012820540x8), none, fD (nth p.main.body 39) s200 .none .none (.ref 955) (.str s474 1465) 3, ⟨[]⟩⟩
noncomputable def o957 : Obj := tO []
noncomputable def o958 : Obj := ⟨(.type PySem.W.SL.s11030030927630378310x26), none, .fields ⟨[(.builtin PySem.W.SL.s10062305145149207511x16), (.type PySem.W.SL.s17162191345867700912x4)]⟩, ⟨[]⟩⟩
noncomputable def o959 (P : Params) : Obj := dO [e P s230 1486 (.str s474 1465), e P s232 1488 (.str s201 1487), e P s233 1490 (.int 634 1489), e P s234 1501 (.ref 971), e P s475 1509 (.ref 978), e P s476 1516 (.ref 985), e P s477 1523 (.ref 992), e P s478 1530 (.ref 999), e P s247 1538 (.ref 1006), e P s479 1545 (.ref 1013), e P s480 1553 (.ref 1020), e P s481 1562 (.ref 1027), e P s482 1570 (.ref 1034), e P s483 1582 (.ref 1041), e P s484 1589 (.ref 1048), e P s485 1596 (.ref 1055), e P s235 1607 (.ref 1056)] 17
noncomputable def o960 : Obj := tO []
noncomputable def o961 : Obj := nO [(.int 636 0), (.int 4 0), (.ref 970), (.int 654 0), (.int 4 0), (.ref 977), (.int 657 0), (.int 4 0), (.ref 984), (.int 660 0), (.int 4 0), (.ref 991), (.int 663 0), (.int 4 0), (.ref 998), (.int 668 0), (.int 4 0), (.ref 1005), (.int 682 0), (.int 4 0), (.ref 1012), (.int 689 0), (.int 4 0), (.ref 1019), (.int 700 0), (.int 4 0), (.ref 1026), (.int 705 0), (.int 4 0), (.ref 1033), (.int 709 0), (.int 4 0), (.ref 1040), (.int 715 0), (.int 4 0), (.ref 1047), (.int 718 0), (.int 4 0), (.ref 1054)]
noncomputable def o962 : Obj := cO s201 s201 s163 1481 1484 634 0 0 960 false 961 .none .none .none
noncomputable def o963 : Obj := ⟨(.type PySem.W.SL.s658472552662922059x5), none, .plain, ⟨[some (.ref 962), some (.ref 3), some (.ref 959), none, some (.str s474 1465), none, some (.ref 0)]⟩⟩
noncomputable def o964 : Obj := tO [.none]
noncomputable def o965 : Obj := tO []
noncomputable def o966 : Obj := nO []
noncomputable def o967 : Obj := tO [(.str s237 1494), (.str s486 1495), (.str s487 1496), (.str s251 1497), (.str s488 1498)]
noncomputable def o968 : Obj := tO []
noncomputable def o969 (p : Program) : Obj := ⟨.none, none, fD (meth p 40 0) s489 .none .none .none .none 0, ⟨[]⟩⟩
noncomputable def o970 : Obj := cO s234 s489 s163 1491 1499 636 5 3 965 true 966 (.ref 967) (.ref 968) (.ref 969)
noncomputable def o971 (p : Program) : Obj := ⟨(.type PySem.W.SL.s7174869446012820540x8), none, fD (meth p 40 0) s489 (.ref 964) .none (.ref 970) (.str s474 1465) 3, ⟨[]⟩⟩
noncomputable def o972 : Obj := tO []
noncomputable def o973 : Obj := nO []
noncomputable def o974 : Obj := tO [(.str s237 1505), (.str s310 1506)]
noncomputable def o975 : Obj := tO []
noncomputable def o976 (p : Program) : Obj := ⟨.none, none, fD (meth p 40 1) s490 .none .none .none .none 0, ⟨[]⟩⟩
noncomputable def o977 : Obj := cO s475 s490 s163 1502 1507 654 2 3 972 true 973 (.ref 974) (.ref 975) (.ref 976)
noncomputable def o978 (p : Program) : Obj := ⟨(.type PySem.W.SL.s7174869446012820540x8), none, fD (meth p 40 1) s490 .none .none (.ref 977) (.str s474 1465) 3, ⟨[]⟩⟩
noncomputable def o979 : Obj := tO []
noncomputable def o980 : Obj := nO []
noncomputable def o981 : Obj := tO [(.str s237 1513)]
noncomputable def o982 : Obj := tO []
noncomputable def o983 (p : Program) : Obj := ⟨.none, none, fD (meth p 40 2) s491 .none .none .none .none 0, ⟨[]⟩⟩
noncomputable def o984 : Obj := cO s476 s491 s163 1510 1514 657 1 3 979 true 980 (.ref 981) (.ref 982) (.ref 983)
noncomputable def o985 (p : Program) : Obj := ⟨(.type PySem.W.SL.s7174869446012820540x8), none, fD (meth p 40 2) s491 .none .none (.ref 984) (.str s474 1465) 3, ⟨[]⟩⟩
noncomputable def o986 : Obj := tO []
noncomputable def o987 : Obj := nO []
noncomputable def o988 : Obj := tO [(.str s237 1520)]
noncomputable def o989 : Obj := tO []
noncomputable def o990 (p : Program) : Obj := ⟨.none, none, fD (meth p 40 3) s492 .none .none .none .none 0, ⟨[]⟩⟩
noncomputable def o991 : Obj := cO s477 s492 s163 1517 1521 660 1 3 986 true 987 (.ref 988) (.ref 989) (.ref 990)
noncomputable def o992 (p : Program) : Obj := ⟨(.type PySem.W.SL.s7174869446012820540x8), none, fD (meth p 40 3) s492 .none .none (.ref 991) (.str s474 1465) 3, ⟨[]⟩⟩
noncomputable def o993 : Obj := tO []
noncomputable def o994 : Obj := nO []
noncomputable def o995 : Obj := tO [(.str s237 1527)]
noncomputable def o996 : Obj := tO []
noncomputable def o997 (p : Program) : Obj := ⟨.none, none, fD (meth p 40 4) s493 .none .none .none .none 0, ⟨[]⟩⟩
noncomputable def o998 : Obj := cO s478 s493 s163 1524 1528 663 1 3 993 true 994 (.ref 995) (.ref 996) (.ref 997)
noncomputable def o999 (p : Program) : Obj := ⟨(.type PySem.W.SL.s7174869446012820540x8), none, fD (meth p 40 4) s493 .none .none (.ref 998) (.str s474 1465) 3, ⟨[]⟩⟩
noncomputable def o1000 : Obj := tO []
noncomputable def o1001 : Obj := nO []
noncomputable def o1002 : Obj := tO [(.str s237 1534), (.str s375 1535)]
noncomputable def o1003 : Obj := tO []
noncomputable def o1004 (p : Program) : Obj := ⟨.none, none, fD (meth p 40 5) s494 .none .none .none .none 0, ⟨[]⟩⟩
noncomputable def o1005 : Obj := cO s247 s494 s163 1531 1536 668 2 3 1000 true 1001 (.ref 1002) (.ref 1003) (.ref 1004)
noncomputable def o1006 (p : Program) : Obj := ⟨(.type PySem.W.SL.s7174869446012820540x8), none, fD (meth p 40 5) s494 .none .none (.ref 1005) (.str s474 1465) 3, ⟨[]⟩⟩
noncomputable def o1007 : Obj := tO []
noncomputable def o1008 : Obj := nO []
noncomputable def o1009 : Obj := tO [(.str s237 1542)]
noncomputable def o1010 : Obj := tO []
noncomputable def o1011 (p : Program) : Obj := ⟨.none, none, fD (meth p 40 6) s495 .none .none .none .none 0, ⟨[]⟩⟩
noncomputable def o1012 : Obj := cO s479 s495 s163 1539 1543 682 1 3 1007 true 1008 (.ref 1009) (.ref 1010) (.ref 1011)
noncomputable def o1013 (p : Program) : Obj := ⟨(.type PySem.W.SL.s7174869446012820540x8), none, fD (meth p 40 6) s495 .none .none (.ref 1012) (.str s474 1465) 3, ⟨[]⟩⟩
noncomputable def o1014 : Obj := tO []
noncomputable def o1015 : Obj := nO []
noncomputable def o1016 : Obj := tO [(.str s237 1549), (.str s310 1550)]
noncomputable def o1017 : Obj := tO []
noncomputable def o1018 (p : Program) : Obj := ⟨.none, none, fD (meth p 40 7) s496 .none .none .none .none 0, ⟨[]⟩⟩
noncomputable def o1019 : Obj := cO s480 s496 s163 1546 1551 689 1 3 1014 true 1015 (.ref 1016) (.ref 1017) (.ref 1018)
noncomputable def o1020 (p : Program) : Obj := ⟨(.type PySem.W.SL.s7174869446012820540x8), none, fD (meth p 40 7) s496 .none .none (.ref 1019) (.str s474 1465) 3, ⟨[]⟩⟩
noncomputable def o1021 : Obj := tO []
noncomputable def o1022 : Obj := nO []
noncomputable def o1023 : Obj := tO [(.str s237 1557), (.str s344 1558), (.str s310 1559)]
noncomputable def o1024 : Obj := tO []
noncomputable def o1025 (p : Program) : Obj := ⟨.none, none, fD (meth p 40 8) s497 .none .none .none .none 0, ⟨[]⟩⟩
noncomputable def o1026 : Obj := cO s481 s497 s163 1554 1560 700 1 3 1021 true 1022 (.ref 1023) (.ref 1024) (.ref 1025)
noncomputable def o1027 (p : Program) : Obj := ⟨(.type PySem.W.SL.s7174869446012820540x8), none, fD (meth p 40 8) s497 .none .none (.ref 1026) (.str s474 1465) 3, ⟨[]⟩⟩
noncomputable def o1028 : Obj := tO []
noncomputable def o1029 : Obj := nO []
noncomputable def o1030 : Obj := tO [(.str s237 1566), (.str s498 1567)]
noncomputable def o1031 : Obj := tO []
noncomputable def o1032 (p : Program) : Obj := ⟨.none, none, fD (meth p 40 9) s499 .none .none .none .none 0, ⟨[]⟩⟩
noncomputable def o1033 : Obj := cO s482 s499 s163 1563 1568 705 2 3 1028 true 1029 (.ref 1030) (.ref 1031) (.ref 1032)
noncomputable def o1034 (p : Program) : Obj := ⟨(.type PySem.W.SL.s7174869446012820540x8), none, fD (meth p 40 9) s499 .none .none (.ref 1033) (.str s474 1465) 3, ⟨[]⟩⟩
noncomputable def o1035 : Obj := tO []
noncomputable def o1036 : Obj := nO []
noncomputable def o1037 : Obj := tO [(.str s237 1574), (.str s498 1575), (.str s500 1576), (.str s344 1577), (.str s310 1578), (.str s257 1579)]
noncomputable def o1038 : Obj := tO []
noncomputable def o1039 (p : Program) : Obj := ⟨.none, none, fD (meth p 40 10) s501 .none .none .none .none 0, ⟨[]⟩⟩
noncomputable def o1040 : Obj := cO s483 s501 s163 1571 1580 709 3 3 1035 true 1036 (.ref 1037) (.ref 1038) (.ref 1039)
noncomputable def o1041 (p : Program) : Obj := ⟨(.type PySem.W.SL.s7174869446012820540x8), none, fD (meth p 40 10) s501 .none .none (.ref 1040) (.str s474 1465) 3, ⟨[]⟩⟩
noncomputable def o1042 : Obj := tO []
noncomputable def o1043 : Obj := nO []
noncomputable def o1044 : Obj := tO [(.str s237 1586)]
noncomputable def o1045 : Obj := tO []
noncomputable def o1046 (p : Program) : Obj := ⟨.none, none, fD (meth p 40 11) s502 .none .none .none .none 0, ⟨[]⟩⟩
noncomputable def o1047 : Obj := cO s484 s502 s163 1583 1587 715 1 3 1042 true 1043 (.ref 1044) (.ref 1045) (.ref 1046)
noncomputable def o1048 (p : Program) : Obj := ⟨(.type PySem.W.SL.s7174869446012820540x8), none, fD (meth p 40 11) s502 .none .none (.ref 1047) (.str s474 1465) 3, ⟨[]⟩⟩
noncomputable def o1049 : Obj := tO []
noncomputable def o1050 : Obj := nO []
noncomputable def o1051 : Obj := tO [(.str s237 1593)]
noncomputable def o1052 : Obj := tO []
noncomputable def o1053 (p : Program) : Obj := ⟨.none, none, fD (meth p 40 12) s503 .none .none .none .none 0, ⟨[]⟩⟩
noncomputable def o1054 : Obj := cO s485 s503 s163 1590 1594 718 1 3 1049 true 1050 (.ref 1051) (.ref 1052) (.ref 1053)
noncomputable def o1055 (p : Program) : Obj := ⟨(.type PySem.W.SL.s7174869446012820540x8), none, fD (meth p 40 12) s503 .none .none (.ref 1054) (.str s474 1465) 3, ⟨[]⟩⟩
noncomputable def o1056 : Obj := tO [(.str s486 1597), (.str s504 1598), (.str s505 1599), (.str s488 1600), (.str s372 1601), (.str s506 1602), (.str s498 1603), (.str s507 1604), (.str s251 1605), (.str s487 1606)]
noncomputable def o1057 (P : Params) : Obj := dO [e P s230 1486 (.str s474 1465), e P s233 1490 (.int 634 1489), e P s234 1501 (.ref 971), e P s475 1509 (.ref 978), e P s476 1516 (.ref 985), e P s477 1523 (.ref 992), e P s478 1530 (.ref 999), e P s247 1538 (.ref 1006), e P s479 1545 (.ref 1013), e P s480 1553 (.ref 1020), e P s481 1562 (.ref 1027), e P s482 1570 (.ref 1034), e P s483 1582 (.ref 1041), e P s484 1589 (.ref 1048), e P s485 1596 (.ref 1055), e P s235 1607 (.ref 1056), e P s270 1609 (.ref 1059), e P s240 1611 (.ref 1060), e P s2 1612 .none] 4
noncomputable def o1058 : Obj := ⟨(.type PySem.W.SL.s17162191345867700912x4), none, kD s201 [(.type PySem.W.SL.s2742458400755230247x6)] [(.ref 1058), (.type PySem.W.SL.s2742458400755230247x6)] 1057 s201 true [] [] false none false, ⟨[none, none, some (.str s201 1479), some (.str s201 1487), some (.builtin PySem.W.SL.s11443829558043349243x14), some (.bool true)]⟩⟩
noncomputable def o1059 : Obj := ⟨(.type PySem.W.SL.s14755015743595814543x17), none, .fields ⟨[(.str s270 1608), (.ref 1058), (.builtin PySem.W.SL.s6511155373996960695x17), (.builtin PySem.W.SL.s12411053484034534018x21)]⟩, ⟨[]⟩⟩
noncomputable def o1060 : Obj := ⟨(.type PySem.W.SL.s14755015743595814543x17), none, .fields ⟨[(.str s240 1610), (.ref 1058), (.builtin PySem.W.SL.s10220274742760427390x26), .none]⟩, ⟨[]⟩⟩
noncomputable def o1061 : Obj := ⟨(.type PySem.W.SL.s4290257624100764138x5), none, .fields ⟨[(.ref 1058), (.ref 1058), (.ref 1058)]⟩, ⟨[]⟩⟩
noncomputable def o1062 : Obj := ⟨(.type PySem.W.SL.s11030030927630378310x26), none, .fields ⟨[(.builtin PySem.W.SL.s4860613602091757760x24), (.ref 1058)]⟩, ⟨[]⟩⟩
noncomputable def o1063 : Obj := tO []
noncomputable def o1064 : Obj := ⟨(.type PySem.W.SL.s11030030927630378310x26), none, .fields ⟨[(.builtin PySem.W.SL.s10062305145149207511x16), (.type PySem.W.SL.s17162191345867700912x4)]⟩, ⟨[]⟩⟩
noncomputable def o1065 (P : Params) : Obj := dO [e P s230 1636 (.str s508 1615), e P s232 1638 (.str s214 1637), e P s233 1640 (.int 727 1639), e P s234 1648 (.ref 1076), e P s336 1655 (.ref 1083), e P s509 1662 (.ref 1090), e P s510 1669 (.ref 1097), e P s251 1677 (.ref 1105), e P s392 1684 (.ref 1112), e P s235 1704 (.ref 1113)] 10
noncomputable def o1066 : Obj := tO []
noncomputable def o1067 : Obj := nO [(.int 729 0), (.int 4 0), (.ref 1075), (.int 733 0), (.int 4 0), (.ref 1082), (.int 753 0), (.int 4 0), (.ref 1089), (.int 756 0), (.int 4 0), (.ref 1096), (.int 760 0), (.int 4 0), (.ref 1103), (.int 763 0), (.int 4 0), (.ref 1111)]
noncomputable def o1068 : Obj := cO s214 s214 s163 1631 1634 727 0 0 1066 false 1067 .none .none .none
noncomputable def o1069 : Obj := ⟨(.type PySem.W.SL.s658472552662922059x5), none, .plain, ⟨[some (.ref 1068), some (.ref 3), some (.ref 1065), none, some (.str s508 1615), none, some (.ref 0)]⟩⟩
noncomputable def o1070 : Obj := tO []
noncomputable def o1071 : Obj := nO []
noncomputable def o1072 : Obj := tO [(.str s237 1644), (.str s344 1645)]
noncomputable def o1073 : Obj := tO []
noncomputable def o1074 (p : Program) : Obj := ⟨.none, none, fD (meth p 48 0) s511 .none .none .none .none 0, ⟨[]⟩⟩
noncomputable def o1075 : Obj := cO s234 s511 s163 1641 1646 729 2 3 1070 true 1071 (.ref 1072) (.ref 1073) (.ref 1074)
noncomputable def o1076 (p : Program) : Obj := ⟨(.type PySem.W.SL.s7174869446012820540x8), none, fD (meth p 48 0) s511 .none .none (.ref 1075) (.str s508 1615) 3, ⟨[]⟩⟩
noncomputable def o1077 : Obj := tO []
noncomputable def o1078 : Obj := nO []
noncomputable def o1079 : Obj := tO [(.str s237 1652)]
noncomputable def o1080 : Obj := tO []
noncomputable def o1081 (p : Program) : Obj := ⟨.none, none, fD (meth p 48 1) s512 .none .none .none .none 0, ⟨[]⟩⟩
noncomputable def o1082 : Obj := cO s336 s512 s163 1649 1653 733 1 3 1077 true 1078 (.ref 1079) (.ref 1080) (.ref 1081)
noncomputable def o1083 (p : Program) : Obj := ⟨(.type PySem.W.SL.s7174869446012820540x8), none, fD (meth p 48 1) s512 .none .none (.ref 1082) (.str s508 1615) 3, ⟨[]⟩⟩
noncomputable def o1084 : Obj := tO []
noncomputable def o1085 : Obj := nO []
noncomputable def o1086 : Obj := tO [(.str s237 1659)]
noncomputable def o1087 : Obj := tO []
noncomputable def o1088 (p : Program) : Obj := ⟨.none, none, fD (meth p 48 2) s513 .none .none .none .none 0, ⟨[]⟩⟩
noncomputable def o1089 : Obj := cO s509 s513 s163 1656 1660 753 1 3 1084 true 1085 (.ref 1086) (.ref 1087) (.ref 1088)
noncomputable def o1090 (p : Program) : Obj := ⟨(.type PySem.W.SL.s7174869446012820540x8), none, fD (meth p 48 2) s513 .none .none (.ref 1089) (.str s508 1615) 3, ⟨[]⟩⟩
noncomputable def o1091 : Obj := tO []
noncomputable def o1092 : Obj := nO []
noncomputable def o1093 : Obj := tO [(.str s237 1666)]
noncomputable def o1094 : Obj := tO []
noncomputable def o1095 (p : Program) : Obj := ⟨.none, none, fD (meth p 48 3) s514 .none .none .none .none 0, ⟨[]⟩⟩
noncomputable def o1096 : Obj := cO s510 s514 s163 1663 1667 756 1 3 1091 true 1092 (.ref 1093) (.ref 1094) (.ref 1095)
noncomputable def o1097 (p : Program) : Obj := ⟨(.type PySem.W.SL.s7174869446012820540x8), none, fD (meth p 48 3) s514 .none .none (.ref 1096) (.str s508 1615) 3, ⟨[]⟩⟩
noncomputable def o1098 : Obj := tO []
noncomputable def o1099 : Obj := nO []
noncomputable def o1100 : Obj := tO [(.str s237 1673)]
noncomputable def o1101 : Obj := tO []
noncomputable def o1102 (p : Program) : Obj := ⟨.none, none, fD (meth p 48 4) s515 .none .none .none .none 0, ⟨[]⟩⟩
noncomputable def o1103 : Obj := cO s251 s515 s163 1670 1674 759 1 3 1098 true 1099 (.ref 1100) (.ref 1101) (.ref 1102)
noncomputable def o1104 (p : Program) : Obj := ⟨(.type PySem.W.SL.s7174869446012820540x8), none, fD (meth p 48 4) s515 .none .none (.ref 1103) (.str s508 1615) 3, ⟨[]⟩⟩
noncomputable def o1105 : Obj := ⟨(.type PySem.W.SL.s8101838861749082086x8), none, .fields ⟨[(.ref 1104), .none, .none, .none, (.str s251 1677), (.bool false)]⟩, ⟨[]⟩⟩
noncomputable def o1106 : Obj := tO []
noncomputable def o1107 : Obj := nO []
noncomputable def o1108 : Obj := tO [(.str s237 1681)]
noncomputable def o1109 : Obj := tO []
noncomputable def o1110 (p : Program) : Obj := ⟨.none, none, fD (meth p 48 5) s516 .none .none .none .none 0, ⟨[]⟩⟩
noncomputable def o1111 : Obj := cO s392 s516 s163 1678 1682 763 1 3 1106 true 1107 (.ref 1108) (.ref 1109) (.ref 1110)
noncomputable def o1112 (p : Program) : Obj := ⟨(.type PySem.W.SL.s7174869446012820540x8), none, fD (meth p 48 5) s516 .none .none (.ref 1111) (.str s508 1615) 3, ⟨[]⟩⟩
noncomputable def o1113 : Obj := tO [(.str s246 1685), (.str s517 1686), (.str s281 1687), (.str s518 1688), (.str s519 1689), (.str s520 1690), (.str s521 1691), (.str s522 1692), (.str s523 1693), (.str s302 1694), (.str s344 1695), (.str s524 1696), (.str s525 1697), (.str s526 1698), (.str s326 1699), (.str s313 1700), (.str s527 1701), (.str s528 1702), (.str s529 1703)]
noncomputable def o1114 (P : Params) : Obj := dO [e P s230 1636 (.str s508 1615), e P s233 1640 (.int 727 1639), e P s234 1648 (.ref 1076), e P s336 1655 (.ref 1083), e P s509 1662 (.ref 1090), e P s510 1669 (.ref 1097), e P s251 1677 (.ref 1105), e P s392 1684 (.ref 1112), e P s235 1704 (.ref 1113), e P s270 1706 (.ref 1116), e P s240 1708 (.ref 1117), e P s2 1709 .none] 4
noncomputable def o1115 : Obj := ⟨(.type PySem.W.SL.s17162191345867700912x4), none, kD s214 [(.type PySem.W.SL.s2742458400755230247x6)] [(.ref 1115), (.type PySem.W.SL.s2742458400755230247x6)] 1114 s214 true [] [] false none false, ⟨[none, none, some (.str s214 1629), some (.str s214 1637), some (.builtin PySem.W.SL.s11443829558043349243x14), some (.bool true)]⟩⟩
noncomputable def o1116 : Obj := ⟨(.type PySem.W.SL.s14755015743595814543x17), none, .fields ⟨[(.str s270 1705), (.ref 1115), (.builtin PySem.W.SL.s6511155373996960695x17), (.builtin PySem.W.SL.s12411053484034534018x21)]⟩, ⟨[]⟩⟩
noncomputable def o1117 : Obj := ⟨(.type PySem.W.SL.s14755015743595814543x17), none, .fields ⟨[(.str s240 1707), (.ref 1115), (.builtin PySem.W.SL.s10220274742760427390x26), .none]⟩, ⟨[]⟩⟩
noncomputable def o1118 : Obj := ⟨(.type PySem.W.SL.s4290257624100764138x5), none, .fields ⟨[(.ref 1115), (.ref 1115), (.ref 1115)]⟩, ⟨[]⟩⟩
noncomputable def o1119 : Obj := ⟨(.type PySem.W.SL.s11030030927630378310x26), none, .fields ⟨[(.builtin PySem.W.SL.s4860613602091757760x24), (.ref 1115)]⟩, ⟨[]⟩⟩
noncomputable def o1120 : Obj := tO []
noncomputable def o1121 : Obj := ⟨(.type PySem.W.SL.s11030030927630378310x26), none, .fields ⟨[(.builtin PySem.W.SL.s10062305145149207511x16), (.type PySem.W.SL.s17162191345867700912x4)]⟩, ⟨[]⟩⟩
noncomputable def o1122 (P : Params) : Obj := dO [e P s230 1719 (.str s508 1615), e P s232 1721 (.str s215 1720), e P s233 1723 (.int 765 1722), e P s234 1729 (.ref 1131), e P s530 1737 (.ref 1138), e P s531 1747 (.ref 1146), e P s532 1756 (.ref 1153), e P s9 1762 (.ref 1158), e P s533 1768 (.ref 1163), e P s207 1776 (.ref 1170), e P s38 1786 (.ref 1177), e P s534 1793 (.ref 1184), e P s291 1802 (.ref 1192), e P s535 1811 (.ref 1199), e P s536 1819 (.ref 1206), e P s155 1828 (.ref 1213), e P s537 1837 (.ref 1220), e P s293 1847 (.ref 1227), e P s296 1856 (.ref 1234), e P s538 1866 (.ref 1241), e P s294 1874 (.ref 1248), e P s539 1881 (.ref 1255), e P s235 1887 (.ref 1256)] 23
noncomputable def o1123 : Obj := tO []
noncomputable def o1124 : Obj := nO [(.int 767 0), (.int 4 0), (.ref 1130), (.int 774 0), (.int 4 0), (.ref 1137), (.int 780 0), (.int 4 0), (.ref 1145), (.int 791 0), (.int 4 0), (.ref 1152), (.int 797 0), (.int 4 0), (.ref 1157), (.int 800 0), (.int 4 0), (.ref 1162), (.int 803 0), (.int 4 0), (.ref 1169), (.int 809 0), (.int 4 0), (.ref 1176), (.int 821 0), (.int 4 0), (.ref 1183), (.int 824 0), (.int 4 0), (.ref 1191), (.int 827 0), (.int 4 0), (.ref 1198), (.int 833 0), (.int 4 0), (.ref 1205), (.int 836 0), (.int 4 0), (.ref 1212), (.int 848 0), (.int 4 0), (.ref 1219), (.int 855 0), (.int 4 0), (.ref 1226), (.int 865 0), (.int 4 0), (.ref 1233), (.int 871 0), (.int 4 0), (.ref 1240), (.int 879 0), (.int 4 0), (.ref 1247), (.int 882 0), (.int 4 0), (.ref 1254)]
noncomputable def o1125 : Obj := cO s215 s215 s163 1714 1717 765 0 0 1123 false 1124 .none .none .none
noncomputable def o1126 : Obj := ⟨(.type PySem.W.SL.s658472552662922059x5), none, .plain, ⟨[some (.ref 1125), some (.ref 3), some (.ref 1122), none, some (.str s508 1615), none, some (.ref 0)]⟩⟩
noncomputable def o1127 : Obj := tO []
noncomputable def o1128 : Obj := nO []
noncomputable def o1129 (p : Program) : Obj := ⟨.none, none, fD (meth p 49 0) s540 .none .none .none .none 0, ⟨[]⟩⟩
noncomputable def o1130 : Obj := cO s234 s540 s163 1724 1727 767 2 3 1127 true 1128 .none .none (.ref 1129)
noncomputable def o1131 (p : Program) : Obj := ⟨(.type PySem.W.SL.s7174869446012820540x8), none, fD (meth p 49 0) s540 .none .none (.ref 1130) (.str s508 1615) 3, ⟨[]⟩⟩
noncomputable def o1132 : Obj := tO []
noncomputable def o1133 : Obj := nO []
noncomputable def o1134 : Obj := tO [(.str s237 1733), (.str s287 1734)]
noncomputable def o1135 : Obj := tO []
noncomputable def o1136 (p : Program) : Obj := ⟨.none, none, fD (meth p 49 1) s541 .none .none .none .none 0, ⟨[]⟩⟩
noncomputable def o1137 : Obj := cO s530 s541 s163 1730 1735 774 1 3 1132 true 1133 (.ref 1134) (.ref 1135) (.ref 1136)
noncomputable def o1138 (p : Program) : Obj := ⟨(.type PySem.W.SL.s7174869446012820540x8), none, fD (meth p 49 1) s541 .none .none (.ref 1137) (.str s508 1615) 3, ⟨[]⟩⟩
noncomputable def o1139 : Obj := tO [(.str s236 1738)]
noncomputable def o1140 : Obj := tO []
noncomputable def o1141 : Obj := nO []
noncomputable def o1142 : Obj := tO [(.str s237 1742), (.str s521 1743), (.str s287 1744)]
noncomputable def o1143 : Obj := tO []
noncomputable def o1144 (p : Program) : Obj := ⟨.none, none, fD (meth p 49 2) s542 .none .none .none .none 0, ⟨[]⟩⟩
noncomputable def o1145 : Obj := cO s531 s542 s163 1739 1745 780 2 3 1140 true 1141 (.ref 1142) (.ref 1143) (.ref 1144)
noncomputable def o1146 (p : Program) : Obj := ⟨(.type PySem.W.SL.s7174869446012820540x8), none, fD (meth p 49 2) s542 (.ref 1139) .none (.ref 1145) (.str s508 1615) 3, ⟨[]⟩⟩
noncomputable def o1147 : Obj := tO []
noncomputable def o1148 : Obj := nO []
noncomputable def o1149 : Obj := tO [(.str s237 1751), (.str s302 1752), (.str s287 1753)]
noncomputable def o1150 : Obj := tO []
noncomputable def o1151 (p : Program) : Obj := ⟨.none, none, fD (meth p 49 3) s543 .none .none .none .none 0, ⟨[]⟩⟩
noncomputable def o1152 : Obj := cO s532 s543 s163 1748 1754 791 2 3 1147 true 1148 (.ref 1149) (.ref 1150) (.ref 1151)
noncomputable def o1153 (p : Program) : Obj := ⟨(.type PySem.W.SL.s7174869446012820540x8), none, fD (meth p 49 3) s543 .none .none (.ref 1152) (.str s508 1615) 3, ⟨[]⟩⟩
noncomputable def o1154 : Obj := tO []
noncomputable def o1155 : Obj := nO []
noncomputable def o1156 (p : Program) : Obj := ⟨.none, none, fD (meth p 49 4) s544 .none .none .none .none 0, ⟨[]⟩⟩
noncomputable def o1157 : Obj := cO s9 s544 s163 1757 1760 797 1 3 1154 true 1155 .none .none (.ref 1156)
noncomputable def o1158 (p : Program) : Obj := ⟨(.type PySem.W.SL.s7174869446012820540x8), none, fD (meth p 49 4) s544 .none .none (.ref 1157) (.str s508 1615) 3, ⟨[]⟩⟩
noncomputable def o1159 : Obj := tO []
noncomputable def o1160 : Obj := nO []
noncomputable def o1161 (p : Program) : Obj := ⟨.none, none, fD (meth p 49 5) s545 .none .none .none .none 0, ⟨[]⟩⟩
noncomputable def o1162 : Obj := cO s533 s545 s163 1763 1766 800 2 3 1159 true 1160 .none .none (.ref 1161)
noncomputable def o1163 (p : Program) : Obj := ⟨(.type PySem.W.SL.s7174869446012820540x8), none, fD (meth p 49 5) s545 .none .none (.ref 1162) (.str s508 1615) 3, ⟨[]⟩⟩
noncomputable def o1164 : Obj := tO []
noncomputable def o1165 : Obj := nO []
noncomputable def o1166 : Obj := tO [(.str s237 1772), (.str s287 1773)]
noncomputable def o1167 : Obj := tO []
noncomputable def o1168 (p : Program) : Obj := ⟨.none, none, fD (meth p 49 6) s546 .none .none .none .none 0, ⟨[]⟩⟩
noncomputable def o1169 : Obj := cO s207 s546 s163 1769 1774 803 2 3 1164 true 1165 (.ref 1166) (.ref 1167) (.ref 1168)
noncomputable def o1170 (p : Program) : Obj := ⟨(.type PySem.W.SL.s7174869446012820540x8), none, fD (meth p 49 6) s546 .none .none (.ref 1169) (.str s508 1615) 3, ⟨[]⟩⟩
noncomputable def o1171 : Obj := tO []
noncomputable def o1172 : Obj := nO []
noncomputable def o1173 : Obj := tO [(.str s237 1780), (.str s444 1781), (.str s547 1782), (.str s287 1783)]
noncomputable def o1174 : Obj := tO []
noncomputable def o1175 (p : Program) : Obj := ⟨.none, none, fD (meth p 49 7) s548 .none .none .none .none 0, ⟨[]⟩⟩
noncomputable def o1176 : Obj := cO s38 s548 s163 1777 1784 809 1 3 1171 true 1172 (.ref 1173) (.ref 1174) (.ref 1175)
noncomputable def o1177 (p : Program) : Obj := ⟨(.type PySem.W.SL.s7174869446012820540x8), none, fD (meth p 49 7) s548 .none .none (.ref 1176) (.str s508 1615) 3, ⟨[]⟩⟩
noncomputable def o1178 : Obj := tO []
noncomputable def o1179 : Obj := nO []
noncomputable def o1180 : Obj := tO [(.str s237 1790)]
noncomputable def o1181 : Obj := tO []
noncomputable def o1182 (p : Program) : Obj := ⟨.none, none, fD (meth p 49 8) s549 .none .none .none .none 0, ⟨[]⟩⟩
noncomputable def o1183 : Obj := cO s534 s549 s163 1787 1791 821 1 3 1178 true 1179 (.ref 1180) (.ref 1181) (.ref 1182)
noncomputable def o1184 (p : Program) : Obj := ⟨(.type PySem.W.SL.s7174869446012820540x8), none, fD (meth p 49 8) s549 .none .none (.ref 1183) (.str s508 1615) 3, ⟨[]⟩⟩
noncomputable def o1185 : Obj := tO [.none]
noncomputable def o1186 : Obj := tO []
noncomputable def o1187 : Obj := nO []
noncomputable def o1188 : Obj := tO [(.str s237 1797), (.str s522 1798), (.str s281 1799)]
noncomputable def o1189 : Obj := tO []
noncomputable def o1190 (p : Program) : Obj := ⟨.none, none, fD (meth p 49 9) s550 .none .none .none .none 0, ⟨[]⟩⟩
noncomputable def o1191 : Obj := cO s291 s550 s163 1794 1800 824 3 3 1186 true 1187 (.ref 1188) (.ref 1189) (.ref 1190)
noncomputable def o1192 (p : Program) : Obj := ⟨(.type PySem.W.SL.s7174869446012820540x8), none, fD (meth p 49 9) s550 (.ref 1185) .none (.ref 1191) (.str s508 1615) 3, ⟨[]⟩⟩
noncomputable def o1193 : Obj := tO []
noncomputable def o1194 : Obj := nO []
noncomputable def o1195 : Obj := tO [(.str s237 1806), (.str s287 1807), (.str s551 1808)]
noncomputable def o1196 : Obj := tO []
noncomputable def o1197 (p : Program) : Obj := ⟨.none, none, fD (meth p 49 10) s552 .none .none .none .none 0, ⟨[]⟩⟩
noncomputable def o1198 : Obj := cO s535 s552 s163 1803 1809 827 2 3 1193 true 1194 (.ref 1195) (.ref 1196) (.ref 1197)
noncomputable def o1199 (p : Program) : Obj := ⟨(.type PySem.W.SL.s7174869446012820540x8), none, fD (meth p 49 10) s552 .none .none (.ref 1198) (.str s508 1615) 3, ⟨[]⟩⟩
noncomputable def o1200 : Obj := tO []
noncomputable def o1201 : Obj := nO []
noncomputable def o1202 : Obj := tO [(.str s237 1815), (.str s287 1816)]
noncomputable def o1203 : Obj := tO []
noncomputable def o1204 (p : Program) : Obj := ⟨.none, none, fD (meth p 49 11) s553 .none .none .none .none 0, ⟨[]⟩⟩
noncomputable def o1205 : Obj := cO s536 s553 s163 1812 1817 833 2 3 1200 true 1201 (.ref 1202) (.ref 1203) (.ref 1204)
noncomputable def o1206 (p : Program) : Obj := ⟨(.type PySem.W.SL.s7174869446012820540x8), none, fD (meth p 49 11) s553 .none .none (.ref 1205) (.str s508 1615) 3, ⟨[]⟩⟩
noncomputable def o1207 : Obj := tO []
noncomputable def o1208 : Obj := nO []
noncomputable def o1209 : Obj := tO [(.str s237 1823), (.str s287 1824), (.str s313 1825)]
noncomputable def o1210 : Obj := tO []
noncomputable def o1211 (p : Program) : Obj := ⟨.none, none, fD (meth p 49 12) s554 .none .none .none .none 0, ⟨[]⟩⟩
noncomputable def o1212 : Obj := cO s155 s554 s163 1820 1826 836 3 3 1207 true 1208 (.ref 1209) (.ref 1210) (.ref 1211)
noncomputable def o1213 (p : Program) : Obj := ⟨(.type PySem.W.SL.s7174869446012820540x8), none, fD (meth p 49 12) s554 .none .none (.ref 1212) (.str s508 1615) 3, ⟨[]⟩⟩
noncomputable def o1214 : Obj := tO []
noncomputable def o1215 : Obj := nO []
noncomputable def o1216 : Obj := tO [(.str s237 1832), (.str s287 1833), (.str s527 1834)]
noncomputable def o1217 : Obj := tO []
noncomputable def o1218 (p : Program) : Obj := ⟨.none, none, fD (meth p 49 13) s555 .none .none .none .none 0, ⟨[]⟩⟩
noncomputable def o1219 : Obj := cO s537 s555 s163 1829 1835 848 2 3 1214 true 1215 (.ref 1216) (.ref 1217) (.ref 1218)
noncomputable def o1220 (p : Program) : Obj := ⟨(.type PySem.W.SL.s7174869446012820540x8), none, fD (meth p 49 13) s555 .none .none (.ref 1219) (.str s508 1615) 3, ⟨[]⟩⟩
noncomputable def o1221 : Obj := tO []
noncomputable def o1222 : Obj := nO []
noncomputable def o1223 : Obj := tO [(.str s237 1841), (.str s287 1842), (.str s533 1843), (.str s551 1844)]
noncomputable def o1224 : Obj := tO []
noncomputable def o1225 (p : Program) : Obj := ⟨.none, none, fD (meth p 49 14) s556 .none .none .none .none 0, ⟨[]⟩⟩
noncomputable def o1226 : Obj := cO s293 s556 s163 1838 1845 855 2 3 1221 true 1222 (.ref 1223) (.ref 1224) (.ref 1225)
noncomputable def o1227 (p : Program) : Obj := ⟨(.type PySem.W.SL.s7174869446012820540x8), none, fD (meth p 49 14) s556 .none .none (.ref 1226) (.str s508 1615) 3, ⟨[]⟩⟩
noncomputable def o1228 : Obj := tO []
noncomputable def o1229 : Obj := nO []
noncomputable def o1230 : Obj := tO [(.str s237 1851), (.str s287 1852), (.str s246 1853)]
noncomputable def o1231 : Obj := tO []
noncomputable def o1232 (p : Program) : Obj := ⟨.none, none, fD (meth p 49 15) s557 .none .none .none .none 0, ⟨[]⟩⟩
noncomputable def o1233 : Obj := cO s296 s557 s163 1848 1854 865 3 3 1228 true 1229 (.ref 1230) (.ref 1231) (.ref 1232)
noncomputable def o1234 (p : Program) : Obj := ⟨(.type PySem.W.SL.s7174869446012820540x8), none, fD (meth p 49 15) s557 .none .none (.ref 1233) (.str s508 1615) 3, ⟨[]⟩⟩
noncomputable def o1235 : Obj := tO []
noncomputable def o1236 : Obj := nO []
noncomputable def o1237 : Obj := tO [(.str s237 1860), (.str s246 1861), (.str s444 1862), (.str s287 1863)]
noncomputable def o1238 : Obj := tO []
noncomputable def o1239 (p : Program) : Obj := ⟨.none, none, fD (meth p 49 16) s558 .none .none .none .none 0, ⟨[]⟩⟩
noncomputable def o1240 : Obj := cO s538 s558 s163 1857 1864 871 2 3 1235 true 1236 (.ref 1237) (.ref 1238) (.ref 1239)
noncomputable def o1241 (p : Program) : Obj := ⟨(.type PySem.W.SL.s7174869446012820540x8), none, fD (meth p 49 16) s558 .none .none (.ref 1240) (.str s508 1615) 3, ⟨[]⟩⟩
noncomputable def o1242 : Obj := tO []
noncomputable def o1243 : Obj := nO []
noncomputable def o1244 : Obj := tO [(.str s237 1870), (.str s302 1871)]
noncomputable def o1245 : Obj := tO []
noncomputable def o1246 (p : Program) : Obj := ⟨.none, none, fD (meth p 49 17) s559 .none .none .none .none 0, ⟨[]⟩⟩
noncomputable def o1247 : Obj := cO s294 s559 s163 1867 1872 879 2 3 1242 true 1243 (.ref 1244) (.ref 1245) (.ref 1246)
noncomputable def o1248 (p : Program) : Obj := ⟨(.type PySem.W.SL.s7174869446012820540x8), none, fD (meth p 49 17) s559 .none .none (.ref 1247) (.str s508 1615) 3, ⟨[]⟩⟩
noncomputable def o1249 : Obj := tO []
noncomputable def o1250 : Obj := nO []
noncomputable def o1251 : Obj := tO [(.str s237 1878)]
noncomputable def o1252 : Obj := tO []
noncomputable def o1253 (p : Program) : Obj := ⟨.none, none, fD (meth p 49 18) s560 .none .none .none .none 0, ⟨[]⟩⟩
noncomputable def o1254 : Obj := cO s539 s560 s163 1875 1879 882 1 3 1249 true 1250 (.ref 1251) (.ref 1252) (.ref 1253)
noncomputable def o1255 (p : Program) : Obj := ⟨(.type PySem.W.SL.s7174869446012820540x8), none, fD (meth p 49 18) s560 .none .none (.ref 1254) (.str s508 1615) 3, ⟨[]⟩⟩
noncomputable def o1256 : Obj := tO [(.str s561 1882), (.str s419 1883), (.str s562 1884), (.str s507 1885), (.str s209 1886)]
noncomputable def o1257 (P : Params) : Obj := dO [e P s230 1719 (.str s508 1615), e P s233 1723 (.int 765 1722), e P s234 1729 (.ref 1131), e P s530 1737 (.ref 1138), e P s531 1747 (.ref 1146), e P s532 1756 (.ref 1153), e P s9 1762 (.ref 1158), e P s533 1768 (.ref 1163), e P s207 1776 (.ref 1170), e P s38 1786 (.ref 1177), e P s534 1793 (.ref 1184), e P s291 1802 (.ref 1192), e P s535 1811 (.ref 1199), e P s536 1819 (.ref 1206), e P s155 1828 (.ref 1213), e P s537 1837 (.ref 1220), e P s293 1847 (.ref 1227), e P s296 1856 (.ref 1234), e P s538 1866 (.ref 1241), e P s294 1874 (.ref 1248), e P s539 1881 (.ref 1255), e P s235 1887 (.ref 1256), e P s270 1889 (.ref 1259), e P s240 1891 (.ref 1260), e P s2 1892 .none] 4
noncomputable def o1258 : Obj := ⟨(.type PySem.W.SL.s17162191345867700912x4), none, kD s215 [(.type PySem.W.SL.s2742458400755230247x6)] [(.ref 1258), (.type PySem.W.SL.s2742458400755230247x6)] 1257 s215 true [] [] false none false, ⟨[none, none, some (.str s215 1712), some (.str s215 1720), some (.builtin PySem.W.SL.s11443829558043349243x14), some (.bool true)]⟩⟩
noncomputable def o1259 : Obj := ⟨(.type PySem.W.SL.s14755015743595814543x17), none, .fields ⟨[(.str s270 1888), (.ref 1258), (.builtin PySem.W.SL.s6511155373996960695x17), (.builtin PySem.W.SL.s12411053484034534018x21)]⟩, ⟨[]⟩⟩
noncomputable def o1260 : Obj := ⟨(.type PySem.W.SL.s14755015743595814543x17), none, .fields ⟨[(.str s240 1890), (.ref 1258), (.builtin PySem.W.SL.s10220274742760427390x26), .none]⟩, ⟨[]⟩⟩
noncomputable def o1261 : Obj := ⟨(.type PySem.W.SL.s4290257624100764138x5), none, .fields ⟨[(.ref 1258), (.ref 1258), (.ref 1258)]⟩, ⟨[]⟩⟩
noncomputable def o1262 : Obj := ⟨(.type PySem.W.SL.s11030030927630378310x26), none, .fields ⟨[(.builtin PySem.W.SL.s4860613602091757760x24), (.ref 1258)]⟩, ⟨[]⟩⟩
noncomputable def o1263 : Obj := tO []
noncomputable def o1264 : Obj := nO []
noncomputable def o1265 : Obj := tO [(.str s563 1900), (.str s444 1901), (.str s229 1902)]
noncomputable def o1266 : Obj := tO []
noncomputable def o1267 (p : Program) : Obj := ⟨.none, none, fD (nth p.main.body 51) s216 .none .none .none .none 0, ⟨[]⟩⟩
noncomputable def o1268 : Obj := cO s216 s216 s163 1897 1903 885 2 3 1263 true 1264 (.ref 1265) (.ref 1266) (.ref 1267)
noncomputable def o1269 (p : Program) : Obj := ⟨(.type PySem.W.SL.s7174869446012820540x8), none, fD (nth p.main.body 51) s216 .none .none (.ref 1268) (.str s564 1895) 3, ⟨[]⟩⟩
noncomputable def o1270 : Obj := tO []
noncomputable def o1271 : Obj := nO []
noncomputable def o1272 : Obj := tO [(.str s284 1909), (.str s280 1910), (.str s504 1911), (.str s561 1912), (.str s565 1913)]
noncomputable def o1273 : Obj := tO []
noncomputable def o1274 (p : Program) : Obj := ⟨.none, none, fD (nth p.main.body 52) s217 .none .none .none .none 0, ⟨[]⟩⟩
noncomputable def o1275 : Obj := cO s217 s217 s163 1906 1914 889 0 3 1270 true 1271 (.ref 1272) (.ref 1273) (.ref 1274)
noncomputable def o1276 (p : Program) : Obj := ⟨(.type PySem.W.SL.s7174869446012820540x8), none, fD (nth p.main.body 52) s217 .none .none (.ref 1275) (.str s564 1895) 3, ⟨[]⟩⟩
noncomputable def o1277 : Obj := tO []
noncomputable def o1278 : Obj := nO []
noncomputable def o1279 : Obj := tO [(.str s425 1920)]
noncomputable def o1280 : Obj := tO []
noncomputable def o1281 (p : Program) : Obj := ⟨.none, none, fD (nth p.main.body 53) s218 .none .none .none .none 0, ⟨[]⟩⟩
noncomputable def o1282 : Obj := cO s218 s218 s163 1917 1921 899 1 3 1277 true 1278 (.ref 1279) (.ref 1280) (.ref 1281)
noncomputable def o1283 (p : Program) : Obj := ⟨(.type PySem.W.SL.s7174869446012820540x8), none, fD (nth p.main.body 53) s218 .none .none (.ref 1282) (.str s564 1895) 3, ⟨[]⟩⟩
noncomputable def o1284 : Obj := tO []
noncomputable def o1285 : Obj := nO []
noncomputable def o1286 : Obj := tO [(.str s306 1927)]
noncomputable def o1287 : Obj := tO []
noncomputable def o1288 (p : Program) : Obj := ⟨.none, none, fD (nth p.main.body 54) s219 .none .none .none .none 0, ⟨[]⟩⟩
noncomputable def o1289 : Obj := cO s219 s219 s163 1924 1928 903 1 3 1284 true 1285 (.ref 1286) (.ref 1287) (.ref 1288)
noncomputable def o1290 (p : Program) : Obj := ⟨(.type PySem.W.SL.s7174869446012820540x8), none, fD (nth p.main.body 54) s219 .none .none (.ref 1289) (.str s564 1895) 3, ⟨[]⟩⟩
noncomputable def o1291 : Obj := tO []
noncomputable def o1292 : Obj := nO []
noncomputable def o1293 : Obj := tO [(.str s563 1934), (.str s565 1935), (.str s566 1936), (.str s303 1937)]
noncomputable def o1294 : Obj := tO [(.str s565 1938), (.str s425 1939)]
noncomputable def o1295 (p : Program) : Obj := ⟨.none, none, fD (nth p.main.body 55) s220 .none .none .none .none 0, ⟨[]⟩⟩
noncomputable def o1296 : Obj := cO s220 s220 s163 1931 1940 919 2 3 1291 true 1292 (.ref 1293) (.ref 1294) (.ref 1295)
noncomputable def o1297 (p : Program) : Obj := ⟨(.type PySem.W.SL.s7174869446012820540x8), none, fD (nth p.main.body 55) s220 .none .none (.ref 1296) (.str s564 1895) 3, ⟨[]⟩⟩
noncomputable def o1298 : Obj := tO []
noncomputable def o1299 : Obj := nO []
noncomputable def o1300 : Obj := tO [(.str s563 1946), (.str s565 1947)]
noncomputable def o1301 : Obj := tO [(.str s565 1948), (.str s351 1949)]
noncomputable def o1302 (p : Program) : Obj := ⟨.none, none, fD (nth p.main.body 56) s221 .none .none .none .none 0, ⟨[]⟩⟩
noncomputable def o1303 : Obj := cO s221 s221 s163 1943 1950 926 2 3 1298 true 1299 (.ref 1300) (.ref 1301) (.ref 1302)
noncomputable def o1304 (p : Program) : Obj := ⟨(.type PySem.W.SL.s7174869446012820540x8), none, fD (nth p.main.body 56) s221 .none .none (.ref 1303) (.str s564 1895) 3, ⟨[]⟩⟩
noncomputable def o1305 : Obj := tO []
noncomputable def o1306 : Obj := nO []
noncomputable def o1307 : Obj := tO [(.str s565 1956), (.str s567 1957), (.str s303 1958)]
noncomputable def o1308 : Obj := tO [(.str s565 1959), (.str s561 1960)]
noncomputable def o1309 (p : Program) : Obj := ⟨.none, none, fD (nth p.main.body 57) s222 .none .none .none .none 0, ⟨[]⟩⟩
noncomputable def o1310 : Obj := cO s222 s222 s163 1953 1961 929 1 3 1305 true 1306 (.ref 1307) (.ref 1308) (.ref 1309)
noncomputable def o1311 (p : Program) : Obj := ⟨(.type PySem.W.SL.s7174869446012820540x8), none, fD (nth p.main.body 57) s222 .none .none (.ref 1310) (.str s564 1895) 3, ⟨[]⟩⟩
noncomputable def o1312 : Obj := tO []
noncomputable def o1313 : Obj := nO []
noncomputable def o1314 (p : Program) : Obj := ⟨.none, none, fD (nth p.main.body 58) s223 .none .none .none .none 0, ⟨[]⟩⟩
noncomputable def o1315 : Obj := cO s223 s223 s163 1964 1967 934 2 3 1312 true 1313 .none .none (.ref 1314)
noncomputable def o1316 (p : Program) : Obj := ⟨(.type PySem.W.SL.s7174869446012820540x8), none, fD (nth p.main.body 58) s223 .none .none (.ref 1315) (.str s564 1895) 3, ⟨[]⟩⟩
noncomputable def o1317 : Obj := tO []
noncomputable def o1318 : Obj := nO []
noncomputable def o1319 : Obj := tO [(.str s563 1973), (.str s565 1974), (.str s566 1975), (.str s255 1976)]
noncomputable def o1320 : Obj := tO []
noncomputable def o1321 (p : Program) : Obj := ⟨.none, none, fD (nth p.main.body 59) s224 .none .none .none .none 0, ⟨[]⟩⟩
noncomputable def o1322 : Obj := cO s224 s224 s163 1970 1977 943 2 3 1317 true 1318 (.ref 1319) (.ref 1320) (.ref 1321)
noncomputable def o1323 (p : Program) : Obj := ⟨(.type PySem.W.SL.s7174869446012820540x8), none, fD (nth p.main.body 59) s224 .none .none (.ref 1322) (.str s564 1895) 3, ⟨[]⟩⟩
noncomputable def o1324 : Obj := tO []
noncomputable def o1325 : Obj := nO []
noncomputable def o1326 : Obj := tO [(.str s565 1983)]
noncomputable def o1327 : Obj := tO []
noncomputable def o1328 (p : Program) : Obj := ⟨.none, none, fD (nth p.main.body 60) s225 .none .none .none .none 0, ⟨[]⟩⟩
noncomputable def o1329 : Obj := cO s225 s225 s163 1980 1984 957 1 3 1324 true 1325 (.ref 1326) (.ref 1327) (.ref 1328)
noncomputable def o1330 (p : Program) : Obj := ⟨(.type PySem.W.SL.s7174869446012820540x8), none, fD (nth p.main.body 60) s225 .none .none (.ref 1329) (.str s564 1895) 3, ⟨[]⟩⟩
noncomputable def o1331 : Obj := tO []
noncomputable def o1332 : Obj := nO []
noncomputable def o1333 : Obj := tO [(.str s568 1990), (.str s569 1991), (.str s563 1992), (.str s565 1993), (.str s570 1994)]
noncomputable def o1334 : Obj := tO []
noncomputable def o1335 (p : Program) : Obj := ⟨.none, none, fD (nth p.main.body 61) s226 .none .none .none .none 0, ⟨[]⟩⟩
noncomputable def o1336 : Obj := cO s226 s226 s163 1987 1995 961 1 3 1331 true 1332 (.ref 1333) (.ref 1334) (.ref 1335)
noncomputable def o1337 (p : Program) : Obj := ⟨(.type PySem.W.SL.s7174869446012820540x8), none, fD (nth p.main.body 61) s226 .none .none (.ref 1336) (.str s564 1895) 3, ⟨[]⟩⟩
noncomputable def base (P : Params) (nm : Value) (gc gn mc : Nat) : List Obj := [b0 P, PySem.W.boot_o_1 P, PySem.W.boot_o_2 P, o3 P nm gc gn, PySem.W.boot_o_4 P, PySem.W.boot_o_5 P, PySem.W.boot_o_6 P, PySem.W.boot_o_7 P, PySem.W.boot_o_8 P, PySem.W.boot_o_9 P, PySem.W.boot_o_10 P, o11, o12 mc, o13, o14]
noncomputable def more (p : Program) (P : Params) (c : Nat) : List Obj := [o15, o16, o17, o18, o19 p, o20, o21 p, o22, o23, o24 P, o25, o26, o27, o28, o29, o30, o31, o32, o33, o34 p, o35, o36 p, o37, o38 P, o39 c, o40, o41, o42, o43, o44, o45 P, o46, o47, o48, o49, o50, o51 P, o52, o53, o54, o55, o56, o57 P, o58, o59, o60, o61, o62, o63 P, o64, o65, o66, o67, o68, o69 P, o70, o71, o72, o73, o74, o75 P, o76, o77, o78, o79, o80, o81 P, o82, o83, o84, o85, o86, o87 P, o88, o89, o90, o91, o92, o93 P, o94, o95, o96, o97, o98, o99 P, o100, o101, o102, o103, o104, o105 P, o106, o107, o108, o109, o110, o111, o112, o113, o114 p, o115, o116 p, o117, o118 P, o119, o120, o121, o122, o123, o124 P, o125, o126, o127, o128, o129, o130, o131, o132, o133, o134 p, o135, o136 p, o137, o138, o139, o140, o141 p, o142, o143 p, o144, o145, o146, o147, o148 p, o149, o150 p, o151, o152, o153, o154, o155 p, o156, o157 p, o158, o159, o160, o161, o162 p, o163, o164 p, o165, o166, o167, o168, o169 p, o170, o171 p, o172, o173, o174, o175, o176 p, o177, o178 p, o179, o180 P, o181, o182, o183, o184, o185, o186, o187, o188 P, o189, o190, o191, o192, o193, o194, o195, o196, o197, o198 p, o199, o200 p, o201, o202, o203, o204, o205 p, o206, o207 p, o208, o209, o210, o211, o212 p, o213, o214 p, o215, o216, o217, o218, o219 p, o220, o221 p, o222, o223 P, o224, o225, o226, o227, o228, o229, o230, o231, o232 p, o233, o234 p, o235, o236, o237 P, o238, o239, o240, o241, o242, o243, o244, o245, o246, o247 p, o248, o249 p, o250, o251 P, o252, o253, o254, o255, o256, o257, o258, o259 P, o260, o261, o262, o263, o264, o265, o266, o267, o268 p, o269, o270 p, o271, o272, o273, o274, o275 p, o276, o277 p, o278, o279, o280, o281, o282 p, o283, o284 p, o285, o286, o287, o288, o289 p, o290, o291 p, o292, o293, o294, o295, o296 p, o297, o298 p, o299, o300, o301, o302, o303 p, o304, o305 p, o306, o307, o308, o309, o310 p, o311, o312 p, o313, o314, o315, o316, o317 p, o318, o319 p, o320, o321, o322, o323, o324 p, o325, o326 p, o327, o328, o329, o330, o331 p, o332, o333 p, o334, o335, o336, o337, o338 p, o339, o340 p, o341, o342, o343, o344, o345 p, o346, o347 p, o348, o349, o350, o351, o352 p, o353, o354 p, o355, o356, o357, o358, o359 p, o360, o361 p, o362, o363, o364, o365, o366 p, o367, o368 p, o369, o370, o371, o372, o373 p, o374, o375 p, o376, o377, o378, o379, o380 p, o381, o382 p, o383, o384, o385, o386, o387 p, o388, o389 p, o390, o391, o392, o393, o394 p, o395, o396 p, o397, o398 P, o399, o400, o401, o402, o403, o404, o405, o406 P, o407, o408, o409, o410, o411, o412, o413, o414, o415 p, o416, o417 p, o418, o419, o420, o421, o422 p, o423, o424 p, o425, o426, o427, o428, o429 p, o430, o431 p, o432, o433, o434, o435, o436 p, o437, o438 p, o439, o440, o441, o442, o443 p, o444, o445 p, o446, o447, o448, o449, o450 p, o451, o452 p, o453, o454, o455, o456, o457 p, o458, o459 p, o460, o461, o462, o463, o464 p, o465, o466 p, o467, o468, o469, o470, o471 p, o472, o473 p, o474, o475, o476, o477, o478 p, o479, o480 p, o481, o482, o483, o484, o485 p, o486, o487 p, o488, o489, o490, o491, o492 p, o493, o494 p, o495, o496 P, o497, o498, o499, o500, o501, o502, o503, o504 P, o505, o506, o507, o508, o509, o510, o511, o512, o513 p, o514, o515 p, o516, o517, o518, o519, o520 p, o521, o522 p, o523, o524, o525, o526, o527 p, o528, o529 p, o530, o531, o532, o533, o534 p, o535, o536 p, o537, o538, o539, o540, o541 p, o542, o543 p, o544, o545, o546, o547, o548 p, o549, o550 p, o551, o552, o553, o554, o555 p, o556, o557 p, o558, o559, o560, o561, o562 p, o563, o564 p, o565, o566, o567, o568, o569 p, o570, o571 p, o572, o573, o574, o575, o576 p, o577, o578 p, o579, o580, o581, o582, o583 p, o584, o585 p, o586, o587, o588, o589, o590 p, o591, o592 p, o593, o594, o595, o596, o597 p, o598, o599 p, o600, o601, o602, o603, o604 p, o605, o606 p, o607, o608, o609, o610, o611 p, o612, o613 p, o614, o615 P, o616, o617, o618, o619, o620, o621, o622, o623 P, o624, o625, o626, o627, o628, o629, o630, o631, o632 p, o633, o634 p, o635, o636, o637, o638, o639 p, o640, o641 p, o642, o643, o644, o645, o646 p, o647, o648 p, o649, o650, o651, o652, o653 p, o654, o655 p, o656, o657, o658, o659, o660 p, o661, o662 p, o663, o664, o665, o666, o667 p, o668, o669 p, o670, o671, o672, o673, o674 p, o675, o676 p, o677, o678, o679, o680, o681 p, o682, o683 p, o684, o685, o686, o687, o688 p, o689, o690 p, o691, o692, o693, o694, o695 p, o696, o697 p, o698, o699, o700, o701, o702 p, o703, o704 p, o705, o706, o707, o708, o709 p, o710, o711 p, o712, o713 P, o714, o715, o716, o717, o718, o719, o720, o721, o722, o723 p, o724, o725 p, o726, o727, o728 P, o729, o730, o731, o732, o733, o734, o735, o736, o737 p, o738, o739 p, o740, o741, o742, o743, o744 p, o745, o746 p, o747, o748, o749, o750, o751 p, o752, o753 p, o754, o755 P, o756, o757, o758, o759, o760, o761, o762, o763 P, o764, o765, o766, o767, o768, o769, o770, o771, o772 p, o773, o774 p, o775, o776, o777, o778, o779 p, o780, o781 p, o782, o783, o784, o785, o786 p, o787, o788 p, o789, o790, o791, o792, o793 p, o794, o795 p, o796, o797, o798, o799, o800 p, o801, o802 p, o803, o804, o805, o806, o807 p, o808, o809 p, o810, o811, o812, o813, o814 p, o815, o816 p, o817, o818, o819, o820, o821 p, o822, o823 p, o824, o825, o826 p, o827, o828 p, o829, o830, o831, o832, o833 p, o834, o835 p, o836, o837, o838, o839, o840 p, o841, o842 p, o843, o844, o845, o846, o847 p, o848, o849 p, o850, o851, o852, o853, o854 p, o855, o856 p, o857, o858, o859, o860, o861 p, o862, o863 p, o864, o865, o866, o867, o868 p, o869, o870 p, o871, o872, o873, o874, o875 p, o876, o877 p, o878, o879 P, o880, o881, o882, o883, o884, o885, o886, o887 P, o888, o889, o890, o891, o892, o893, o894, o895, o896, o897 p, o898, o899 p, o900, o901, o902, o903, o904 p, o905, o906 p, o907, o908, o909 p, o910, o911 p, o912, o913, o914, o915, o916 p, o917, o918 p, o919, o920, o921, o922, o923 p, o924, o925 p, o926, o927, o928 p, o929, o930 p, o931, o932, o933, o934, o935 p, o936, o937 p, o938, o939, o940, o941, o942 p, o943, o944 p, o945, o946 P, o947, o948, o949, o950, o951, o952, o953, o954 p, o955, o956 p, o957, o958, o959 P, o960, o961, o962, o963, o964, o965, o966, o967, o968, o969 p, o970, o971 p, o972, o973, o974, o975, o976 p, o977, o978 p, o979, o980, o981, o982, o983 p, o984, o985 p, o986, o987, o988, o989, o990 p, o991, o992 p, o993, o994, o995, o996, o997 p, o998, o999 p, o1000, o1001, o1002, o1003, o1004 p, o1005, o1006 p, o1007, o1008, o1009, o1010, o1011 p, o1012, o1013 p, o1014, o1015, o1016, o1017, o1018 p, o1019, o1020 p, o1021, o1022, o1023, o1024, o1025 p, o1026, o1027 p, o1028, o1029, o1030, o1031, o1032 p, o1033, o1034 p, o1035, o1036, o1037, o1038, o1039 p, o1040, o1041 p, o1042, o1043, o1044, o1045, o1046 p, o1047, o1048 p, o1049, o1050, o1051, o1052, o1053 p, o1054, o1055 p, o1056, o1057 P, o1058, o1059, o1060, o1061, o1062, o1063, o1064, o1065 P, o1066, o1067, o1068, o1069, o1070, o1071, o1072, o1073, o1074 p, o1075, o1076 p, o1077, o1078, o1079, o1080, o1081 p, o1082, o1083 p, o1084, o1085, o1086, o1087, o1088 p, o1089, o1090 p, o1091, o1092, o1093, o1094, o1095 p, o1096, o1097 p, o1098, o1099, o1100, o1101, o1102 p, o1103, o1104 p, o1105, o1106, o1107, o1108, o1109, o1110 p, o1111, o1112 p, o1113, o1114 P, o1115, o1116, o1117, o1118, o1119, o1120, o1121, o1122 P, o1123, o1124, o1125, o1126, o1127, o1128, o1129 p, o1130, o1131 p, o1132, o1133, o1134, o1135, o1136 p, o1137, o1138 p, o1139, o1140, o1141, o1142, o1143, o1144 p, o1145, o1146 p, o1147, o1148, o1149, o1150, o1151 p, o1152, o1153 p, o1154, o1155, o1156 p, o1157, o1158 p, o1159, o1160, o1161 p, o1162, o1163 p, o1164, o1165, o1166, o1167, o1168 p, o1169, o1170 p, o1171, o1172, o1173, o1174, o1175 p, o1176, o1177 p, o1178, o1179, o1180, o1181, o1182 p, o1183, o1184 p, o1185, o1186, o1187, o1188, o1189, o1190 p, o1191, o1192 p, o1193, o1194, o1195, o1196, o1197 p, o1198, o1199 p, o1200, o1201, o1202, o1203, o1204 p, o1205, o1206 p, o1207, o1208, o1209, o1210, o1211 p, o1212, o1213 p, o1214, o1215, o1216, o1217, o1218 p, o1219, o1220 p, o1221, o1222, o1223, o1224, o1225 p, o1226, o1227 p, o1228, o1229, o1230, o1231, o1232 p, o1233, o1234 p, o1235, o1236, o1237, o1238, o1239 p, o1240, o1241 p, o1242, o1243, o1244, o1245, o1246 p, o1247, o1248 p, o1249, o1250, o1251, o1252, o1253 p, o1254, o1255 p, o1256, o1257 P, o1258, o1259, o1260, o1261, o1262, o1263, o1264, o1265, o1266, o1267 p, o1268, o1269 p, o1270, o1271, o1272, o1273, o1274 p, o1275, o1276 p, o1277, o1278, o1279, o1280, o1281 p, o1282, o1283 p, o1284, o1285, o1286, o1287, o1288 p, o1289, o1290 p, o1291, o1292, o1293, o1294, o1295 p, o1296, o1297 p, o1298, o1299, o1300, o1301, o1302 p, o1303, o1304 p, o1305, o1306, o1307, o1308, o1309 p, o1310, o1311 p, o1312, o1313, o1314 p, o1315, o1316 p, o1317, o1318, o1319, o1320, o1321 p, o1322, o1323 p, o1324, o1325, o1326, o1327, o1328 p, o1329, o1330 p, o1331, o1332, o1333, o1334, o1335 p, o1336, o1337 p]
noncomputable def sp {α : Type} : List α → List α × List α
  | [] => ([], [])
  | x :: l => (x :: (sp l).2, (sp l).1)
noncomputable def tr : Nat → List Obj → BT
  | 0, _ => .nil
  | _ + 1, [] => .nil
  | n + 1, x :: l => .node x (tr n (sp l).1) (tr n (sp l).2)
noncomputable def ap {α : Type} : List α → List α → List α
  | [], m => m
  | x :: l, m => x :: ap l m
noncomputable def stg (p : Program) (P : Params) (nm : Value) (gc gn mc c n : Nat) : BT := tr 13 (ap (base P nm gc gn mc) (tk (n - 15) (more p P c)))
noncomputable def env (p : Program) : Env := { scope := p.main.scope, locals := mainNs, globals := mainNs, cells := [], code := .ref 13, frame := some 14 }
structure Desc where
  fst : Nat
  cnt : Nat
  steps : Nat
  n : Nat
  k : Nat
  pos : Pos
  n' : Nat
  k' : Nat
  pos' : Pos
noncomputable abbrev SRT := (String → Option Builtin) → Program → World → Nat → Option Value → Nat → Nat → SharedT → Thread → Option (Flow × SharedT × Code × Pos)
noncomputable def Piece (SR : SRT) (TB : String → Option Builtin) (EX : List Stmt → Env → Sem Flow) (p : Program) (w : World) (D : Desc) (T T' : Program → Params → BT) : Prop :=
  (fun os => SR TB p w 11 (some (.ref 6)) 1 D.steps ⟨T p w.params, D.n, {}, ⟨[]⟩, {}, D.k, os⟩ ⟨(EX (tk D.cnt (dr D.fst (behindTheImports p))) (env p)).wrap doneF deadEnd id id, .body (behindTheImports p) (env p), D.pos, [topFrame ⟨0, 0, 0, 0⟩]⟩) =
  fun os => some (.next, ⟨T' p w.params, D.n', {}, ⟨[]⟩, {}, D.k', os⟩, .body (behindTheImports p) (env p), D.pos')
noncomputable abbrev SR := PySem.W.Fast.tw10110043849684766642
noncomputable abbrev TB := PySem.W.Fast.tw14364793385576792824
noncomputable abbrev EX := PySem.W.Fast.tw12563942051412417395
noncomputable def T0 (p : Program) (P : Params) : BT := stg p P (.str s228 164) 9 9 0 0 15
noncomputable def T1 (p : Program) (P : Params) : BT := stg p P (.str s231 194) 11 11 6 0 43
noncomputable def T2 (p : Program) (P : Params) : BT := stg p P (.str s231 194) 12 12 9 1 55
noncomputable def T3 (p : Program) (P : Params) : BT := stg p P (.str s231 194) 13 13 12 2 67
noncomputable def T4 (p : Program) (P : Params) : BT := stg p P (.str s231 194) 14 14 15 3 79
noncomputable def T5 (p : Program) (P : Params) : BT := stg p P (.str s231 194) 15 15 18 4 91
noncomputable def T6 (p : Program) (P : Params) : BT := stg p P (.str s231 194) 16 16 21 5 103
noncomputable def T7 (p : Program) (P : Params) : BT := stg p P (.str s243 329) 22 22 24 6 122
noncomputable def T8 (p : Program) (P : Params) : BT := stg p P (.str s243 329) 23 23 27 6 186
noncomputable def T9 (p : Program) (P : Params) : BT := stg p P (.str s279 483) 26 26 33 6 235
noncomputable def T10 (p : Program) (P : Params) : BT := stg p P (.str s279 483) 27 27 36 6 257
noncomputable def T11 (p : Program) (P : Params) : BT := stg p P (.str s279 483) 28 28 39 6 404
noncomputable def T12 (p : Program) (P : Params) : BT := stg p P (.str s330 733) 28 28 39 6 404
noncomputable def T13 (p : Program) (P : Params) : BT := stg p P (.str s330 733) 29 29 42 6 502
noncomputable def T14 (p : Program) (P : Params) : BT := stg p P (.str s330 733) 30 30 45 6 621
noncomputable def T15 (p : Program) (P : Params) : BT := stg p P (.str s393 1012) 30 30 45 6 621
noncomputable def T16 (p : Program) (P : Params) : BT := stg p P (.str s393 1012) 31 31 48 6 719
noncomputable def T17 (p : Program) (P : Params) : BT := stg p P (.str s423 1147) 36 36 54 6 761
noncomputable def T18 (p : Program) (P : Params) : BT := stg p P (.str s423 1147) 37 37 57 6 885
noncomputable def T19 (p : Program) (P : Params) : BT := stg p P (.str s423 1147) 38 38 60 6 952
noncomputable def T20 (p : Program) (P : Params) : BT := stg p P (.str s474 1465) 42 42 63 6 957
noncomputable def T21 (p : Program) (P : Params) : BT := stg p P (.str s474 1465) 43 43 66 6 1063
noncomputable def T22 (p : Program) (P : Params) : BT := stg p P (.str s508 1615) 49 49 66 6 1063
noncomputable def T23 (p : Program) (P : Params) : BT := stg p P (.str s508 1615) 50 50 69 6 1120
noncomputable def T24 (p : Program) (P : Params) : BT := stg p P (.str s508 1615) 51 51 72 6 1263
noncomputable def T25 (p : Program) (P : Params) : BT := stg p P (.str s564 1895) 62 62 105 6 1338
noncomputable def D0 : Desc := ⟨0, 3, 259, 15, 187, ⟨0, 0, 0, 0⟩, 43, 224, ⟨5, 0, 9, 28⟩⟩
theorem c0 : ∀ w, Piece SR TB EX tw w D0 T0 T1 := by intro w; unfold Piece; kernel_rfl
noncomputable def D1 : Desc := ⟨3, 1, 214, 43, 224, ⟨5, 0, 9, 28⟩, 55, 240, ⟨10, 0, 11, 8⟩⟩
theorem c1 : ∀ w, Piece SR TB EX tw w D1 T1 T2 := by intro w; unfold Piece; kernel_rfl
noncomputable def D2 : Desc := ⟨4, 1, 214, 55, 240, ⟨10, 0, 11, 8⟩, 67, 256, ⟨12, 0, 13, 8⟩⟩
theorem c2 : ∀ w, Piece SR TB EX tw w D2 T2 T3 := by intro w; unfold Piece; kernel_rfl
noncomputable def D3 : Desc := ⟨5, 1, 214, 67, 256, ⟨12, 0, 13, 8⟩, 79, 272, ⟨14, 0, 15, 8⟩⟩
theorem c3 : ∀ w, Piece SR TB EX tw w D3 T3 T4 := by intro w; unfold Piece; kernel_rfl
noncomputable def D4 : Desc := ⟨6, 1, 214, 79, 272, ⟨14, 0, 15, 8⟩, 91, 288, ⟨16, 0, 17, 8⟩⟩
theorem c4 : ∀ w, Piece SR TB EX tw w D4 T4 T5 := by intro w; unfold Piece; kernel_rfl
noncomputable def D5 : Desc := ⟨7, 1, 214, 91, 288, ⟨16, 0, 17, 8⟩, 103, 304, ⟨18, 0, 19, 8⟩⟩
theorem c5 : ∀ w, Piece SR TB EX tw w D5 T5 T6 := by intro w; unfold Piece; kernel_rfl
noncomputable def D6 : Desc := ⟨8, 7, 300, 103, 304, ⟨18, 0, 19, 8⟩, 122, 341, ⟨30, 0, 30, 13⟩⟩
theorem c6 : ∀ w, Piece SR TB EX tw w D6 T6 T7 := by intro w; unfold Piece; kernel_rfl
noncomputable def D7 : Desc := ⟨15, 1, 425, 122, 341, ⟨30, 0, 30, 13⟩, 186, 427, ⟨31, 0, 78, 59⟩⟩
theorem c7 : ∀ w, Piece SR TB EX tw w D7 T7 T8 := by intro w; unfold Piece; kernel_rfl
noncomputable def D8 : Desc := ⟨16, 4, 369, 186, 427, ⟨31, 0, 78, 59⟩, 235, 493, ⟨100, 0, 107, 23⟩⟩
theorem c8 : ∀ w, Piece SR TB EX tw w D8 T8 T9 := by intro w; unfold Piece; kernel_rfl
noncomputable def D9 : Desc := ⟨20, 1, 235, 235, 493, ⟨100, 0, 107, 23⟩, 257, 533, ⟨108, 0, 117, 22⟩⟩
theorem c9 : ∀ w, Piece SR TB EX tw w D9 T9 T10 := by intro w; unfold Piece; kernel_rfl
noncomputable def D10 : Desc := ⟨21, 1, 826, 257, 533, ⟨108, 0, 117, 22⟩, 404, 733, ⟨118, 0, 230, 26⟩⟩
theorem c10 : ∀ w, Piece SR TB EX tw w D10 T10 T11 := by intro w; unfold Piece; kernel_rfl
noncomputable def D11 : Desc := ⟨22, 1, 10, 404, 733, ⟨118, 0, 230, 26⟩, 404, 735, ⟨231, 0, 231, 8⟩⟩
theorem c11 : ∀ w, Piece SR TB EX tw w D11 T11 T12 := by intro w; unfold Piece; kernel_rfl
noncomputable def D12 : Desc := ⟨23, 1, 583, 404, 735, ⟨231, 0, 231, 8⟩, 502, 860, ⟨232, 0, 276, 16⟩⟩
theorem c12 : ∀ w, Piece SR TB EX tw w D12 T12 T13 := by intro w; unfold Piece; kernel_rfl
noncomputable def D13 : Desc := ⟨24, 1, 682, 502, 860, ⟨232, 0, 276, 16⟩, 621, 1012, ⟨277, 0, 370, 17⟩⟩
theorem c13 : ∀ w, Piece SR TB EX tw w D13 T13 T14 := by intro w; unfold Piece; kernel_rfl
noncomputable def D14 : Desc := ⟨25, 1, 10, 621, 1012, ⟨277, 0, 370, 17⟩, 621, 1014, ⟨371, 0, 371, 8⟩⟩
theorem c14 : ∀ w, Piece SR TB EX tw w D14 T14 T15 := by intro w; unfold Piece; kernel_rfl
noncomputable def D15 : Desc := ⟨26, 1, 584, 621, 1014, ⟨371, 0, 371, 8⟩, 719, 1140, ⟨372, 0, 443, 17⟩⟩
theorem c15 : ∀ w, Piece SR TB EX tw w D15 T15 T16 := by intro w; unfold Piece; kernel_rfl
noncomputable def D16 : Desc := ⟨27, 6, 360, 719, 1140, ⟨372, 0, 443, 17⟩, 761, 1208, ⟨455, 0, 472, 31⟩⟩
theorem c16 : ∀ w, Piece SR TB EX tw w D16 T16 T17 := by intro w; unfold Piece; kernel_rfl
noncomputable def D17 : Desc := ⟨33, 1, 724, 761, 1208, ⟨455, 0, 472, 31⟩, 885, 1380, ⟨473, 0, 586, 42⟩⟩
theorem c17 : ∀ w, Piece SR TB EX tw w D17 T17 T18 := by intro w; unfold Piece; kernel_rfl
noncomputable def D18 : Desc := ⟨34, 1, 444, 885, 1380, ⟨473, 0, 586, 42⟩, 952, 1465, ⟨587, 0, 622, 17⟩⟩
theorem c18 : ∀ w, Piece SR TB EX tw w D18 T18 T19 := by intro w; unfold Piece; kernel_rfl
noncomputable def D19 : Desc := ⟨35, 5, 63, 952, 1465, ⟨587, 0, 622, 17⟩, 957, 1479, ⟨627, 0, 633, 50⟩⟩
theorem c19 : ∀ w, Piece SR TB EX tw w D19 T19 T20 := by intro w; unfold Piece; kernel_rfl
noncomputable def D20 : Desc := ⟨40, 1, 619, 957, 1479, ⟨627, 0, 633, 50⟩, 1063, 1615, ⟨634, 0, 719, 17⟩⟩
theorem c20 : ∀ w, Piece SR TB EX tw w D20 T20 T21 := by intro w; unfold Piece; kernel_rfl
noncomputable def D21 : Desc := ⟨41, 7, 64, 1063, 1615, ⟨634, 0, 719, 17⟩, 1063, 1629, ⟨726, 0, 726, 6⟩⟩
theorem c21 : ∀ w, Piece SR TB EX tw w D21 T21 T22 := by intro w; unfold Piece; kernel_rfl
noncomputable def D22 : Desc := ⟨48, 1, 454, 1063, 1629, ⟨726, 0, 726, 6⟩, 1120, 1712, ⟨727, 0, 764, 95⟩⟩
theorem c22 : ∀ w, Piece SR TB EX tw w D22 T22 T23 := by intro w; unfold Piece; kernel_rfl
noncomputable def D23 : Desc := ⟨49, 1, 805, 1120, 1712, ⟨727, 0, 764, 95⟩, 1263, 1895, ⟨765, 0, 883, 17⟩⟩
theorem c23 : ∀ w, Piece SR TB EX tw w D23 T23 T24 := by intro w; unfold Piece; kernel_rfl
noncomputable def D24 : Desc := ⟨50, 12, 351, 1263, 1895, ⟨765, 0, 883, 17⟩, 1338, 1998, ⟨961, 0, 967, 88⟩⟩
theorem c24 : ∀ w, Piece SR TB EX tw w D24 T24 T25 := by intro w; unfold Piece; kernel_rfl
end M9
end
section
open PySem PySem.W PyProof.Rows
namespace M9
theorem tk_dr {α : Type} : ∀ (n : Nat) (l : List α), l = tk n l ++ dr n l
  | 0, l => rfl
  | _ + 1, [] => rfl
  | n + 1, x :: l => congrArg (x :: ·) (tk_dr n l)
theorem dr_dr {α : Type} : ∀ (a b : Nat) (l : List α), dr b (dr a l) = dr (a + b) l
  | 0, b, l => by rw [Nat.zero_add]; rfl
  | a + 1, 0, [] => rfl
  | a + 1, b + 1, [] => by rw [show a + 1 + (b + 1) = (a + b + 1) + 1 by omega]; rfl
  | a + 1, b, x :: l => by rw [show a + 1 + b = (a + b) + 1 by omega]; exact dr_dr a b l
noncomputable abbrev code (p : Program) : Code := .body (behindTheImports p) (env p)
noncomputable abbrev at_ (p : Program) (w : World) (os : OsState) (T : Program → Params → BT) (n k : Nat) : Shared := SharedT.abs ⟨T p w.params, n, {}, ⟨[]⟩, {}, k, os⟩
noncomputable def AtP (p : Program) (w : World) (os : OsState) (r : Shared) (N : Nat) (T : Program → Params → BT) (n k i : Nat) (pos : Pos) : Prop :=
  topRun treeTable p w 11 (some (.ref 6)) N (at_ p w os T n k) (restOf (dr i (behindTheImports p)) (env p) (code p) pos [topFrame ⟨0, 0, 0, 0⟩]) = some r
theorem AtP.step {p : Program} {w : World} {os : OsState} {r : Shared} {N : Nat} {D : Desc} {T T' : Program → Params → BT} (h : ∀ w, Piece SR TB EX p w D T T')
    (k : AtP p w os r N T' D.n' D.k' (D.fst + D.cnt) D.pos') : AtP p w os r (D.steps + N) T D.n D.k D.fst D.pos := by
  have h2 : Piece segRunT treeTable execs p w D T T' := by
    rw [PySem.W.Fast.te10110043849684766642, PySem.W.Fast.te14364793385576792824, PySem.W.Fast.te12563942051412417395]; exact h w
  have h3 := segRun_of (congrFun h2 os)
  unfold AtP
  rw [tk_dr D.cnt (dr D.fst (behindTheImports p)), dr_dr]
  exact piece_app h3 k
theorem rest_end : dr 62 (behindTheImports tw) = [] := by kernel_rfl
theorem fin0 : ∀ w : World, (fun os => PySem.W.Fast.tw14082659384304107361 TB tw w 11 (some (.ref 6)) 2 (at_ tw w os T25 1338 1998) ⟨doneF .next, code tw, ⟨961, 0, 967, 88⟩, [topFrame ⟨0, 0, 0, 0⟩]⟩) = fun os => some (at_ tw w os T25 1338 1998) := by intro w; kernel_rfl
theorem pre0 : ∀ w : World, (fun os => PySem.W.Fast.tw15667345088766844465 TB tw w 11 (some (.ref 6)) 12 ⟨boot_heap w.params, ⟨[]⟩, boot_drawn, boot_toks, os⟩ (topStub tw)) = fun os => some (at_ tw w os T0 15 187, ⟨PySem.W.Fast.tw11892475500146522536 TB (code tw), code tw, ⟨0, 0, 0, 0⟩, [topFrame ⟨0, 0, 0, 0⟩]⟩) := by intro w; kernel_rfl
theorem block0 : ∀ w : World, (fun os => PySem.W.Fast.tw10110043849684766642 TB tw w 11 (some (.ref 6)) 1 1 ⟨T0 tw w.params, 15, {}, ⟨[]⟩, {}, 187, os⟩ (blockOf (behindTheImports tw) (env tw) (code tw) ⟨0, 0, 0, 0⟩ [topFrame ⟨0, 0, 0, 0⟩])) = fun os => some (.next, ⟨T0 tw w.params, 15, {}, ⟨[]⟩, {}, 187, os⟩, code tw, ⟨0, 0, 0, 0⟩) := by intro w; kernel_rfl
noncomputable def M0 : Nat := 12 + (1 + (D0.steps + (D1.steps + (D2.steps + (D3.steps + (D4.steps + (D5.steps + (D6.steps + (D7.steps + (D8.steps + (D9.steps + (D10.steps + (D11.steps + (D12.steps + (D13.steps + (D14.steps + (D15.steps + (D16.steps + (D17.steps + (D18.steps + (D19.steps + (D20.steps + (D21.steps + (D22.steps + (D23.steps + (D24.steps + 2))))))))))))))))))))))))))
theorem run0 (w : World) (os : OsState) : topRun treeTable tw w 11 (some (.ref 6)) M0 ⟨boot_heap w.params, ⟨[]⟩, boot_drawn, boot_toks, os⟩ (topStub tw) = some (at_ tw w os T25 1338 1998) := by
  have f : topRun treeTable tw w 11 (some (.ref 6)) 2 (at_ tw w os T25 1338 1998) ⟨doneF .next, code tw, ⟨961, 0, 967, 88⟩, [topFrame ⟨0, 0, 0, 0⟩]⟩ = some (at_ tw w os T25 1338 1998) := by
    rw [PySem.W.Fast.te14364793385576792824, PySem.W.Fast.te14082659384304107361]; exact congrFun (fin0 w) os
  have a25 : AtP tw w os (at_ tw w os T25 1338 1998) 2 T25 1338 1998 62 ⟨961, 0, 967, 88⟩ := by unfold AtP; rw [rest_end]; exact piece_nil f
  have a24 := AtP.step (D := D24) c24 a25
  have a23 := AtP.step (D := D23) c23 a24
  have a22 := AtP.step (D := D22) c22 a23
  have a21 := AtP.step (D := D21) c21 a22
  have a20 := AtP.step (D := D20) c20 a21
  have a19 := AtP.step (D := D19) c19 a20
  have a18 := AtP.step (D := D18) c18 a19
  have a17 := AtP.step (D := D17) c17 a18
  have a16 := AtP.step (D := D16) c16 a17
  have a15 := AtP.step (D := D15) c15 a16
  have a14 := AtP.step (D := D14) c14 a15
  have a13 := AtP.step (D := D13) c13 a14
  have a12 := AtP.step (D := D12) c12 a13
  have a11 := AtP.step (D := D11) c11 a12
  have a10 := AtP.step (D := D10) c10 a11
  have a9 := AtP.step (D := D9) c9 a10
  have a8 := AtP.step (D := D8) c8 a9
  have a7 := AtP.step (D := D7) c7 a8
  have a6 := AtP.step (D := D6) c6 a7
  have a5 := AtP.step (D := D5) c5 a6
  have a4 := AtP.step (D := D4) c4 a5
  have a3 := AtP.step (D := D3) c3 a4
  have a2 := AtP.step (D := D2) c2 a3
  have a1 := AtP.step (D := D1) c1 a2
  have a0 := AtP.step (D := D0) c0 a1
  have b : segRun treeTable tw w 11 (some (.ref 6)) 1 1 (at_ tw w os T0 15 187) (blockOf (behindTheImports tw) (env tw) (code tw) ⟨0, 0, 0, 0⟩ [topFrame ⟨0, 0, 0, 0⟩]) = some (.next, at_ tw w os T0 15 187, code tw, ⟨0, 0, 0, 0⟩) := by
    refine segRun_of (s := ⟨T0 tw w.params, 15, {}, ⟨[]⟩, {}, 187, os⟩) (s' := ⟨T0 tw w.params, 15, {}, ⟨[]⟩, {}, 187, os⟩) ?_
    rw [PySem.W.Fast.te14364793385576792824, PySem.W.Fast.te10110043849684766642]; exact congrFun (block0 w) os
  have g : topGo treeTable tw w 11 (some (.ref 6)) 12 ⟨boot_heap w.params, ⟨[]⟩, boot_drawn, boot_toks, os⟩ (topStub tw) = some (at_ tw w os T0 15 187, ⟨denote treeTable (code tw), code tw, ⟨0, 0, 0, 0⟩, [topFrame ⟨0, 0, 0, 0⟩]⟩) := by
    rw [PySem.W.Fast.te14364793385576792824, PySem.W.Fast.te15667345088766844465, PySem.W.Fast.te11892475500146522536]; exact congrFun (pre0 w) os
  exact go_top g (piece_block b a0)
end M9
end
section
open PySem PySem.W PyProof.Rows
namespace M9
noncomputable abbrev q9 (p : Program) : Program := { p with main := { p.main with body := [nth p.main.body 61] } }
noncomputable abbrev loose9 : List Str := [Str.ofString "_wall", Str.ofString "BoardError", Str.ofString "BadArgument", Str.ofString "BadDisk", Str.ofString "NoRoom", Str.ofString "BadCall", Str.ofString "Stuck", Str.ofString "Crash", Str.ofString "DONE", Str.ofString "SLEEP", Str.ofString "BROKEN", Str.ofString "READ_CHANNEL", Str.ofString "WRITE_CHANNEL", Str.ofString "Pipe", Str.ofString "PipeTable", Str.ofString "TICKS", Str.ofString "octets_of", Str.ofString "Parts", Str.ofString "ProcessCalls", Str.ofString "Buffer", Str.ofString "Cache", Str.ofString "Disk", Str.ofString "octets_in", Str.ofString "PIPE", Str.ofString "NODE", Str.ofString "DEVICE", Str.ofString "OpenFile", Str.ofString "FileTable", Str.ofString "Descriptors", Str.ofString "NUMBER", Str.ofString "MOST_EACH", Str.ofString "SPARE", Str.ofString "packed_head", Str.ofString "Journal", Str.ofString "UNUSED", Str.ofString "FRESH", Str.ofString "READY", Str.ofString "RUNNING", Str.ofString "SLEEPING", Str.ofString "ZOMBIE", Str.ofString "Process", Str.ofString "Table", Str.ofString "_law_take", Str.ofString "_law_world", Str.ofString "_law_told", Str.ofString "_law_met", Str.ofString "_law_called", Str.ofString "_law_written", Str.ofString "_law_ended", Str.ofString "_law_shut", Str.ofString "_law_deed", Str.ofString "_law_stands"]
theorem openS0 : ∀ w : World, (fun os => PySem.W.Fast.tw4187177175401517315 (q9 tw) loose9 (importedModules tw.main.body) (fun s => xlAt (q9 tw) [] s && recOk [] s) true (at_ tw w os T25 1338 1998)) = fun _ => openGood (q9 tw) loose9 := by intro w; kernel_rfl
theorem size0 : ∀ w : World, ((boot_heap w.params).isNs mainGlobals && (⟨[]⟩ : Array GenState).size == 0, (boot_heap w.params).objs.size, (boot_heap w.params).nsMap mainGlobals "__annotations__") = (true, 11, some (.ref 6)) := by intro w; kernel_rfl
theorem look0 : ∀ w : World, (fun os => (staticsOk (importedModules tw.main.body) (boot_heap w.params) (absHeap (T25 tw w.params) 1338 {}) && namesBound tw (absHeap (T25 tw w.params) 1338 {}) && gensDone (at_ tw w os T25 1338 1998) && laidKept (boot_heap w.params) (absHeap (T25 tw w.params) 1338 {}))) = fun _ => true := by intro w; kernel_rfl
theorem open0 : ∀ w : World, (fencedOpening treeTable tw w 18550).map (fun s => (s.heap, s.gens, s.drawn, s.toks)) = some (boot_heap w.params, Array.mk [], boot_drawn, boot_toks) :=
  boot_open (by kernel_rfl) (by kernel_rfl) (by intro s; kernel_rfl)
end M9
end
section
open PySem PySem.W PySem.Calls PyProof.Rows
set_option maxHeartbeats 0
namespace M9
theorem ok9 : (chainsOk (q9 PySem.Challenge.pw_pq0909_01) && opensWell PySem.Challenge.rw_pq0909_01.row.prog && (frees PySem.Challenge.rw_pq0909_01.row.toRowW && PySem.Challenge.rw_pq0909_01.row.within.isEmpty)) = true := by kernel_rfl
end M9
end
section
open PySem PySem.W PyProof.Rows
namespace M9
theorem left10p : LeftO tw (q9 tw) loose9 (fun s => xlAt (q9 tw) [] s && recOk [] s) (fun s => (s.heap, s.gens, s.toks)) (fun w => (absHeap (T25 tw w.params) 1338 {}, ⟨[]⟩, 1998)) 18550 := by
  refine LeftO.of_pieces (H₀ := boot_heap) (H₁ := fun P => absHeap (T25 tw P) 1338 {}) (gs₀ := Array.mk []) (gs₁ := ⟨[]⟩) (d₀ := boot_drawn) (d₁ := {}) (k₀ := boot_toks) (k₁ := 1998) (m₀ := 11) (ann := some (.ref 6)) (M := M0) open0 size0 run0 (by kernel_rfl) fun w => funext fun os => ?_
  have h1 := congrFun (look0 w) os
  have h2 : (fun os => openSeen (q9 tw) loose9 (importedModules tw.main.body) (fun s => xlAt (q9 tw) [] s && recOk [] s) true (at_ tw w os T25 1338 1998)) = fun _ => openGood (q9 tw) loose9 := by
    rw [PySem.W.Fast.te4187177175401517315]; exact openS0 w
  exact looks_pair h1 (looks_pair (congrFun h2 os) rfl)
end M9
end
section
open PySem PySem.W PySem.Calls PyProof.Rows PySem.Spec
namespace M9
noncomputable abbrev callerC : PySem.Ctx := ⟨.builtin "claim.caller" {}, none, none, [], none⟩
noncomputable abbrev GoodC9 (r : RowW) (s₀ : Shared) (args : List WData) (s₁ : Shared) : Result → Shared → Prop := GoodWG r.claim (classAt s₀.heap) (ExcName.means s₀.heap) args s₁
noncomputable abbrev stubT (name : Str) (vs : List Value) : Sem Fin := do match ← nsGet mainNs name with
      | some f => do ret (← PySem.call f vs)
      | none => unsupported "claim.caller:no-such-global"
theorem stub_wp {prog : Program} {w : World} {name : Str} {vs : List Value} {s : Shared} {mg : Str → Option Value} {f : Value} {R : Result → Shared → Prop} (hg : s.heap.Ns mainGlobals mg) (hf : mg name = some f)
    (h : Sem.wp (model prog w) callerC (PySem.call f vs) (fun v _ s' => R (.ok (.ret v)) s') (fun e _ s' => R (.error e) s') default s) :
    Sem.wp (model prog w) callerC (stubT name vs) (Sem.finPost (model prog w) callerC R) (fun e _ s' => R (.error e) s') default s := by
  unfold stubT
  rw [Sem.wp_bind']
  show Sem.wp (model prog w) callerC (nsGet mainGlobals name) _ _ default s
  rw [Sem.wp_nsGet _ _ _ _ _ hg, hf]
  show Sem.wp (model prog w) callerC (PySem.call f vs >>= fun v => ret v) _ _ default s
  rw [Sem.wp_bind']
  exact h
end M9
end
section
open PySem PySem.W PySem.Calls PyProof.Rows PySem.Spec
namespace M9
structure Cf where
  prog : Program
  par : Params
  parT : Params
  parF : Params
  look : Nat → Option Obj
  ext : List (Nat × Obj)
  dk : Nat → Str → Option Value
  se : String → String → Bool
  den : Code → Sem Fin
  qt : Code → Bool
  isIt : Obj → Bool
  exs : List Stmt → Env → Sem Flow
  ev : Expr → Env → Sem Value
  hb : Value → Env → List ExceptHandler → Sem Flow
  ro : Code → Env → Option Value → Sem Flow
  sf : Value → Option Addr → Sem Unit
  tt : Value → Sem Unit
  po : Value → Env → Sem Flow
  bi : Env → List Env → Sem Bool
  kb : Env → Bool → List Env → Sem Value
  bb : Sem Bool → (Bool → Sem Unit) → Sem Unit
  nf : List Value → Sem Value
  st : Value → Nat → Value → Sem Unit
  cl : Addr → Bool → List (Code × Pos) → List Value
  bu : Sem Unit → (Unit → Sem Fin) → Sem Fin
  bf : Sem Flow → (Flow → Sem Fin) → Sem Fin
  bw : Sem Unit → (Unit → Sem Unit) → Sem Unit
  bv : Sem Value → (Value → Sem Unit) → Sem Unit
  bx : Sem Value → (Value → Sem Fin) → Sem Fin
  lo : PySem.Expr → Value → Value → Sem Unit
  ct : PySem.Expr → Nat → Value → Value → Env → Sem Fin
inductive LF where
  | seq (rest : List Stmt) (env : Env)
  | fn (env : Env)
  | blk (env : Env)
  | tryH (hs : List ExceptHandler) (orelse : List Stmt) (env : Env)
  | tryF (final : List Stmt) (env : Env)
  | cmp (c : Code) (env : Env)
structure K1 where
  Γ : PySem.Ctx
  p : Pos
  k : Result → Sem Fin
  l : List LF
noncomputable abbrev DL := List (Nat × Obj)
structure Hs where
  D : DL
  X : BT
  m : Nat
  bs : List (Nat × Nat)
  tb : Nat
  i : Nat
structure Bk where
  orc : Nat
  o1 : List Nat
  o2 : List Nat
  t1 : List (Sem Fin)
  t2 : List (Sem Fin)
structure St where
  Γ : PySem.Ctx
  p : Pos
  κ : List K1
  l : List LF
  t : Sem Fin
  h : Hs
  b : Bk
structure Ans where
  res : Result
  up : Hs → Hs
  orc : Nat
inductive Stp where
  | go (S : St)
  | fin (r : Result) (h : Hs) (b : Bk)
  | need (tag : Nat) (c : Code) (g : PySem.Ctx) (p : Pos) (f : Ans → St) (h : Hs) (b : Bk)
  | stop (S : St)
  | bad (n : Nat)
noncomputable def lookD : DL → Nat → Option Obj
  | [], _ => none
  | x :: l, a => match Nat.beq x.1 a with
    | true => some x.2
    | false => lookD l a
noncomputable def updD : DL → Nat → (Obj → Obj) → DL
  | [], _, _ => []
  | x :: l, a, f => match Nat.beq x.1 a with
    | true => (x.1, f x.2) :: l
    | false => x :: updD l a f
noncomputable def nthD : DL → Nat → Option (Nat × Obj)
  | [], _ => none
  | x :: l, i => match i with
    | 0 => some x
    | i + 1 => nthD l i
noncomputable def adr : List (Nat × Nat) → Nat → Nat
  | [], _ => 0
  | x :: l, j => match Nat.ble x.1 j with
    | true => x.2 + Nat.sub j x.1
    | false => adr l j
noncomputable def dig (b : Bk) : Nat := Nat.mod b.orc 1024
noncomputable def pop (b : Bk) : Bk := ⟨Nat.div b.orc 1024, b.o1, b.o2, b.t1, b.t2⟩
noncomputable def say (b : Bk) (a a' : Nat) : Bk := ⟨b.orc, a :: b.o1, a' :: b.o2, b.t1, b.t2⟩
noncomputable def sayT (b : Bk) (t t' : Sem Fin) : Bk := ⟨b.orc, b.o1, b.o2, t :: b.t1, t' :: b.t2⟩
noncomputable def got (C : Cf) (h : Hs) (b : Bk) (a : Nat) : Option (Obj × Bk) := match dig b with
  | 0 => match lookD h.D a with
    | some o => some (o, pop b)
    | none => match C.look a with
      | some o => some (o, pop b)
      | none => none
  | j + 1 => match Nat.ble 512 j with
    | true => match nthD C.ext (Nat.sub j 512) with
      | some x => some (x.2, say (pop b) a x.1)
      | none => none
    | false => match h.X.get j with
      | some o => some (o, say (pop b) a (adr h.bs j))
      | none => none
noncomputable def eqL : List Nat → List Nat → Bool
  | [], [] => true
  | [], _ :: _ => false
  | _ :: _, [] => false
  | x :: l, y :: r => match Nat.beq x y with
    | true => eqL l r
    | false => false
noncomputable def eqS (x y : Str) : Bool := eqL x.cps.toList y.cps.toList
noncomputable def inS (C : Cf) (id : String) : List String → Bool
  | [] => false
  | x :: l => match C.se id x with
    | true => true
    | false => inS C id l
noncomputable def isS (C : Cf) (id x : String) : Bool := C.se id x
noncomputable def exIds : List String := ["bytearray.__contains__", "bytearray.__mod__", "bytearray.__rmod__", "_struct.pack_into.held", "bytearray.find.held"] ++ Builtin.Bytes.decodersThatHold
noncomputable def noExp (C : Cf) : List (Code × Pos) → Bool
  | [] => true
  | x :: l => match x.1 with
    | .builtin id _ => match inS C id exIds with
      | true => false
      | false => noExp C l
    | _ => noExp C l
noncomputable def intsD : List DictEntry → Option (List (Nat × Value))
  | [] => some []
  | e :: l => match e.key with
    | .int i _ => match i with
      | .ofNat n => match Nat.ble n 1000 with
        | true => match e.hash with
          | .ofNat m => match Nat.beq m n with
            | true => match intsD l with
              | some r => some ((n, e.val) :: r)
              | none => none
            | false => none
          | .negSucc _ => none
        | false => none
      | .negSucc _ => none
    | _ => none
noncomputable def findN : List (Nat × Value) → Nat → Value
  | [], _ => .none
  | x :: l, n => match Nat.beq x.1 n with
    | true => x.2
    | false => findN l n
noncomputable def noSlots (o : Obj) : Bool := match o.dict with
  | none => match o.slots.toList with
    | [] => true
    | _ :: _ => false
  | some _ => false
noncomputable def clsS (o : Obj) : String := match o.cls with
  | .type n => n
  | _ => ""
noncomputable def baF1 : Obj → Obj := Obj.mapBytearray fun _ => #[]
noncomputable def baF2 : Obj → Obj := Obj.mapBytearray fun _ => Array.replicate (3 : Int).toNat 0
noncomputable def tick (h : Hs) : Hs := ⟨h.D, h.X, h.m, h.bs, h.tb, h.i + 1⟩
noncomputable def idxN : List (Nat × Value) → Nat → Option Nat
  | [], _ => none
  | x :: l, n => match Nat.beq x.1 n with
    | true => some 0
    | false => match idxN l n with
      | some k => some (Nat.succ k)
      | none => none
noncomputable def delF (k : Nat) (o : Obj) : Obj := ⟨o.cls, o.dict, (match o.data with
  | .dict es ep => .dict ⟨es.toList.eraseIdx k⟩ (ep + 1)
  | d => d), o.slots⟩
noncomputable def seqOf (C : Cf) (n : String) (o : Obj) : Option (List Value) := match isS C (clsS o) n with
  | true => match o.data with
    | .seq xs _ => some xs.toList
    | _ => none
  | false => none
noncomputable def eqVs : List Value → List Value → Bk → Option Bk
  | [], [], b => some b
  | [], _ :: _, _ => none
  | _ :: _, [], _ => none
  | v :: xs, u :: ys, b => match v with
    | .int i _ => match u with
      | .int j _ => match i with
        | .ofNat m => match j with
          | .ofNat n => match Nat.beq m n with
            | true => eqVs xs ys b
            | false => none
          | .negSucc _ => none
        | .negSucc _ => none
      | _ => none
    | .ref a => match u with
      | .ref a' => eqVs xs ys (say b a a')
      | _ => none
    | _ => none
noncomputable def eqT (C : Cf) (h : Hs) : List Value → List Value → Bk → Option Bk
  | [], [], b => some b
  | [], _ :: _, _ => none
  | _ :: _, [], _ => none
  | v :: xs, u :: ys, b => match v with
    | .ref a => match u with
      | .ref a' => match got C h b a with
        | some x => match got C h x.2 a' with
          | some y => match seqOf C "tuple" x.1 with
            | some vs => match seqOf C "tuple" y.1 with
              | some us => match eqVs vs us y.2 with
                | some b' => eqT C h xs ys b'
                | none => none
              | none => none
            | none => none
          | none => none
        | none => none
      | _ => none
    | _ => none
noncomputable def nat0 (C : Cf) (acts : List (Code × Pos)) (h : Hs) (b : Bk) (id : String) (pos : List Value) : Nat → Option (Value × Hs × Bk)
  | 0 => match isS C id "dict.__getitem__" with
    | true => match pos with
      | [.ref d, .str x _] => match lookD h.D d with
        | none => match C.dk d x with
          | some v => some (v, tick h, b)
          | none => none
        | some _ => none
      | _ => none
    | false => none
  | 1 => match isS C id "dict.get" with
    | true => match pos with
      | [.ref d, .int i _] => match i with
        | .ofNat n => match Nat.beq d sysModules with
          | true => none
          | false => match lookD h.D d with
            | some o => match isS C (clsS o) "dict" with
              | true => match noSlots o with
                | true => match o.data with
                  | .dict es _ => match intsD es.toList with
                    | some r => some (findN r n, tick h, b)
                    | none => none
                  | _ => none
                | false => none
              | false => none
            | none => none
        | .negSucc _ => none
      | _ => none
    | false => none
  | 2 => match isS C id "bytearray.__init__" with
    | true => match noExp C acts with
      | true => match pos with
        | [.ref a, .int i _] => match i with
          | .ofNat n => match Nat.beq n 3 with
            | true => match dig b with
              | 0 => none
              | j + 1 => match h.X.get j with
                | some o => match isS C (clsS o) "bytearray" with
                  | true => match noSlots o with
                    | true => match o.data with
                      | .bytearray arr k => match arr.toList with
                        | [] => match Nat.beq k 0 with
                          | true => some (.none, ⟨h.D, (h.X.set j baF1).set j baF2, h.m, h.bs, h.tb, h.i⟩, say (pop b) a (adr h.bs j))
                          | false => none
                        | _ :: _ => none
                      | _ => none
                    | false => none
                  | false => none
                | none => none
            | false => none
          | .negSucc _ => none
        | _ => none
      | false => none
    | false => none
  | 3 => match isS C id "dict.__delitem__" with
    | true => match pos with
      | [.ref d, .int i _] => match i with
        | .ofNat n => match lookD h.D d with
          | some o => match isS C (clsS o) "dict" with
            | true => match noSlots o with
              | true => match o.data with
                | .dict es _ => match Nat.ble es.toList.length 1000 with
                  | true => match intsD es.toList with
                    | some r => match idxN r n with
                      | some k => some (.none, ⟨updD h.D d (delF k), h.X, h.m, h.bs, h.tb, h.i + 1⟩, b)
                      | none => none
                    | none => none
                  | false => none
                | _ => none
              | false => none
            | false => none
          | none => none
        | .negSucc _ => none
      | _ => none
    | false => none
  | 4 => match isS C id "list.__eq__" with
    | true => match pos with
      | [.ref l, .ref r] => match got C h b l with
        | some x => match got C h x.2 r with
          | some y => match seqOf C "list" x.1 with
            | some xs => match seqOf C "list" y.1 with
              | some ys => match Nat.ble (unitsOf acts) 9000 with
                | true => match eqT C h xs ys y.2 with
                  | some b' => some (.bool true, h, b')
                  | none => none
                | false => none
              | none => none
            | none => none
          | none => none
        | none => none
      | _ => none
    | false => none
  | _ => none
noncomputable def nat1 (C : Cf) (acts : List (Code × Pos)) (h : Hs) (b : Bk) (c : Code) (n : Nat) : Option (Value × Hs × Bk) := match c with
  | .call f args => match args.kw with
    | [] => match f with
      | .builtin id => nat0 C acts h b id args.pos n
      | _ => none
    | _ :: _ => none
  | _ => none
noncomputable def exe1 (C : Cf) (st : Stmt) (env : Env) : Sem Fin := C.bf (C.exs [st] env) fun f => .pure (.done f)
noncomputable def begin2 (C : Cf) (Γ : PySem.Ctx) (p : Pos) (κ : List K1) (l : List LF) (h : Hs) (b : Bk) (st : Stmt) (rest : List Stmt) (env : Env) : Stp := match st with
  | .Try body hs orelse final pos => match body with
    | [] => .bad 61
    | st1 :: body => .go ⟨Γ, pos, κ, .seq body env :: .tryH hs orelse env :: (match final with | [] => .seq rest env :: l | _ :: _ => .tryF final env :: .seq rest env :: l), exe1 C st1 env, h, b⟩
  | st => .go ⟨Γ, p, κ, .seq rest env :: l, exe1 C st env, h, b⟩
noncomputable def begin1 (C : Cf) (Γ : PySem.Ctx) (p : Pos) (κ : List K1) (l : List LF) (h : Hs) (b : Bk) (rest : List Stmt) (env : Env) : Stp := match rest with
  | [] => .go ⟨Γ, p, κ, l, .pure (.done .next), h, b⟩
  | st :: rest => match dig b with
    | 0 => begin2 C Γ p κ l h (pop b) st rest env
    | _ + 1 => .stop ⟨Γ, p, κ, .seq (st :: rest) env :: l, .pure (.done .next), h, pop b⟩
noncomputable def start (C : Cf) (Γ : PySem.Ctx) (p : Pos) (κ : List K1) (h : Hs) (b : Bk) : Stp :=
  let plain (b : Bk) : Stp := .go ⟨Γ, p, κ, [], C.den Γ.code, h, b⟩
  match Γ.code with
  | .func body env => match dig b with
    | 0 => plain (pop b)
    | _ + 1 => begin1 C Γ p κ [.fn env] h (pop b) body env
  | .block body env => match dig b with
    | 0 => plain (pop b)
    | _ + 1 => begin1 C Γ p κ [.blk env] h (pop b) body env
  | .expr e env => match dig b with
    | 0 => plain (pop b)
    | _ + 1 => .go ⟨Γ, p, κ, [.fn env], C.bx (C.ev e env) fun v => .pure (.done (.ret v)), h, pop b⟩
  | .compStart e depth it acc env => match dig b with
    | 0 => plain (pop b)
    | _ + 1 => match ((clausesOf e)[depth]?).elim false (fun g => g.is_async != 0) with
      | true => .bad 70
      | false => match it with
        | .ref a => match got C h (pop b) a with
          | some (o, b) => match C.isIt o with
            | true => .go ⟨Γ.goto (.compLoop e depth it acc env), p, κ, [.cmp (.compLoop e depth it acc env) env], C.ct e depth it acc env, h, b⟩
            | false => .bad 71
          | none => .bad 72
        | _ => .bad 73
  | .compLoop e depth it acc env => .go ⟨Γ, p, κ, [.cmp (.compLoop e depth it acc env) env], C.ct e depth it acc env, h, b⟩
  | _ => plain b
noncomputable def vals (o : Obj) : Option (Array Value) := match o.data with
  | .fields vs => some vs
  | _ => none
noncomputable def framesOf (Γ : PySem.Ctx) (p : Pos) : List Env := (((Γ.code, p) :: Γ.below).filter (·.1.isFrame)).filterMap (·.1.env?)
noncomputable def markS (env : Env) (back : Value) (sl : Array (Option Value)) : Array (Option Value) :=
  #[some env.code, some (.ref env.globals), sl.getD 2 none, some back, sl.getD 4 none, env.func.map Value.ref, some (.ref env.builtins)] ++ (env.cells.map fun c => some (.ref c.2)).toArray
noncomputable def markL (env : Env) (back : Value) (sl : Array (Option Value)) : Array (Option Value) := match (sl.getD 3 none).isSome with
  | true => sl
  | false => markS env back sl
noncomputable def rfm (C : Cf) : List Env → Sem Unit
  | [] => .pure ()
  | env :: outer => match env.frame with
    | none => .unsupported "no frame"
    | some f => match outer with
      | [] => C.bv (C.kb env false []) fun back => .update f none (fun o => { o with slots := markL env back o.slots }) fun _ => .pure ()
      | _ :: _ => .load f none fun o => match (o.slots.getD 3 none).isSome with
        | true => .pure ()
        | false => C.bb (C.bi env outer) fun im => C.bv (C.kb env im outer) fun back => .update f none (fun o => { o with slots := markS env back o.slots }) fun _ => rfm C outer
noncomputable def entry (C : Cf) (x head : Value) (f : Addr) (hn : Bool) (Γ : PySem.Ctx) (p : Pos) : Sem Unit :=
  C.bw (rfm C (framesOf Γ p)) fun _ => .stack fun acts => C.bv (C.nf ([head, .ref f, .none, rawInt f, .none] ++ C.cl f hn acts)) fun t => C.st x 1 t
noncomputable def note (C : Cf) (Γ : PySem.Ctx) (p : Pos) (x : Value) (env : Env) (h : Hs) (b : Bk) : Option (Sem Unit × Bk) := match x with
  | .ref a => match env.frame with
    | some f => match got C h b a with
      | some (o, b) => match vals o with
        | some vs => match vs[1]? with
          | some head => match framesOf Γ p with
            | e0 :: _ => match e0.frame with
              | some f0 => match head with
                | .none => some (entry C x .none f false Γ p, say b f0 f)
                | .ref hd => match got C h b hd with
                  | some (o2, b) => match vals o2 with
                    | some vs2 => match vs2[3]? with
                      | some v => match v with
                        | .none => some (C.bw (C.st (.ref hd) 3 .none) fun _ => entry C x (.ref hd) f true Γ p, say b f0 f)
                        | .int i tk => match i with
                          | .ofNat a1 => match dig b with
                            | 0 => match Nat.beq tk 0 with
                              | true => some (.pure (), say (pop b) a1 f)
                              | false => none
                            | _ + 1 => match Nat.beq (dig (pop b)) (dig (pop (pop b))) with
                              | true => none
                              | false => some (C.bw (C.st (.ref hd) 3 .none) fun _ => entry C x (.ref hd) f true Γ p,
                                  say (say (say (pop (pop (pop b))) f0 f) a1 (adr h.bs (dig (pop b)))) f (adr h.bs (dig (pop (pop b)))))
                          | .negSucc _ => none
                        | _ => none
                      | none => none
                    | none => none
                  | none => none
                | _ => none
              | none => none
            | [] => none
          | none => none
        | none => none
      | none => none
    | none => none
  | _ => none
noncomputable def behind (C : Cf) (x : Value) : LF → Sem Fin
  | .seq _ _ => .raise x
  | .fn _ => C.bu (C.sf x none) fun _ => .raise x
  | .blk _ => C.bu (C.tt x) fun _ => .raise x
  | .tryH hs _ env => match hs with
    | [] => .raise x
    | hs => C.bu (C.sf x none) fun _ => C.bf (C.hb x env hs) fun f => .pure (.done f)
  | .tryF final env => C.bu (C.sf x none) fun _ => C.bf (C.ro (.block final env) env (some x)) fun f => match f with
    | .next => C.bf (C.po x env) fun f => .pure (.done f)
    | _ => .unsupported "no return in a last suite"
  | .cmp _ _ => .raise x
noncomputable def isCmp : LF → Bool
  | .cmp _ _ => true
  | _ => false
noncomputable def isNote : LF → Option Env
  | .seq _ _ => none
  | .fn env => some env
  | .blk env => some env
  | .tryH _ _ env => some env
  | .tryF _ env => some env
  | .cmp _ _ => none
noncomputable def leafOk (C : Cf) (f : Flow) (Γ : PySem.Ctx) (p : Pos) (κ : List K1) (l : List LF) (h : Hs) (b : Bk) : Stp := match l with
  | [] => match κ with
    | [] => .fin (.ok f) h b
    | k :: κ => .go ⟨k.Γ, k.p, κ, k.l, k.k (.ok f), h, b⟩
  | lf :: l => match lf with
    | .seq rest env => match f with
      | .next => begin1 C Γ p κ l h b rest env
      | f => .go ⟨Γ, p, κ, l, .pure (.done f), h, b⟩
    | .fn _ => .go ⟨Γ, p, κ, l, .pure (.done (match f with | .ret v => .ret v | _ => .ret .none)), h, b⟩
    | .blk _ => .go ⟨Γ, p, κ, l, .pure (.done f), h, b⟩
    | .tryH _ orelse env => match f with
      | .next => begin1 C Γ p κ l h b orelse env
      | f => .go ⟨Γ, p, κ, l, .pure (.done f), h, b⟩
    | .tryF final env => .go ⟨Γ, p, κ, l, C.bf (C.ro (.block final env) env none) (fun g => match g with
      | .next => .pure (.done f)
      | _ => .unsupported "no return in a last suite"), h, b⟩
    | .cmp _ _ => .go ⟨Γ, p, κ, l, .pure (.done f), h, b⟩
noncomputable def leafErr (C : Cf) (x : Value) (Γ : PySem.Ctx) (p : Pos) (κ : List K1) (l : List LF) (h : Hs) (b : Bk) : Stp := match l with
  | [] => match κ with
    | [] => .fin (.error x) h b
    | k :: κ => .go ⟨k.Γ, k.p, κ, k.l, k.k (.error x), h, b⟩
  | lf :: l => match isCmp lf with
    | true => .bad 63
    | false => match isNote lf with
      | none => .go ⟨Γ, p, κ, l, .raise x, h, b⟩
      | some env => match note C Γ p x env h b with
        | some (t, b) => .go ⟨Γ, p, κ, l, C.bu t fun _ => behind C x lf, h, b⟩
        | none => .bad 62
noncomputable def isLoop : Code → Bool
  | .forLoop .. => true
  | _ => false
noncomputable def tgtOf (c : Code) : Option PySem.Expr := match c with
  | .compLoop e depth _ _ _ => match (clausesOf e)[depth]? with
    | some g => match g.target with
      | .Tuple .. => some g.target
      | _ => none
    | none => none
  | _ => none
noncomputable def noO : Obj := { cls := .none, data := .plain }
noncomputable def ownF : Obj → Obj := Obj.mapFields (·.setIfInBounds 0 .none)
noncomputable def ownT (C : Cf) (S : St) (a : Nat) (k : Obj → Sem Fin) : Option St := match Nat.beq (dig S.b) 1000 with
  | false => none
  | true => match dig (pop S.b) with
    | 0 => none
    | j + 1 => match dig (pop (pop S.b)) with
      | 0 => none
      | i2 + 1 => match S.h.X.get j with
        | some o => match isS C (clsS o) "enumerate" with
          | true => match o.data with
            | .fields vs => match vs.toList with
              | v0 :: _ => match v0 with
                | .int z tk => match z with
                  | .ofNat x => match Nat.beq tk 0 with
                    | true => match tgtOf S.Γ.code with
                      | some tgt => some ⟨S.Γ, S.p, S.κ, S.l, k noO, ⟨S.h.D, S.h.X.set j ownF, S.h.m, S.h.bs, S.h.tb, S.h.i⟩,
                          sayT (say (say (pop (pop (pop S.b))) a (adr S.h.bs j)) x (adr S.h.bs i2)) S.t (C.bu (C.lo tgt (.ref a) (.ref (adr S.h.bs i2))) fun _ => k noO)⟩
                      | none => none
                    | false => none
                  | .negSucc _ => none
                | _ => none
              | [] => none
            | _ => none
          | false => none
        | none => none
noncomputable def step1 (C : Cf) (S : St) : Stp :=
  let next (t : Sem Fin) : Stp := .go ⟨S.Γ, S.p, S.κ, S.l, t, S.h, S.b⟩
  match S.t with
  | .pure fin => match fin with
    | .done f => leafOk C f S.Γ S.p S.κ S.l S.h S.b
    | .again c => match S.l with
      | [] => match C.qt c with
        | true => match isLoop c with
          | true => match dig S.b with
            | 0 => start C (S.Γ.goto c) S.p S.κ S.h (pop S.b)
            | _ + 1 => .stop ⟨S.Γ, S.p, S.κ, [], .pure (.again c), S.h, pop S.b⟩
          | false => start C (S.Γ.goto c) S.p S.κ S.h S.b
        | false => .bad 1
      | lf :: l => match isCmp lf with
        | true => .go ⟨S.Γ, S.p, S.κ, l, .pure (.again c), S.h, S.b⟩
        | false => .bad 2
  | .raise x => leafErr C x S.Γ S.p S.κ S.l S.h S.b
  | .rule _ k => next (k ())
  | .at q k => .go ⟨S.Γ, q, S.κ, S.l, k (), S.h, S.b⟩
  | .point _ k => next (k ())
  | .ask k => match dig S.b with
    | 0 => .go ⟨S.Γ, S.p, S.κ, S.l, k ⟨C.prog, C.par⟩, S.h, pop S.b⟩
    | _ + 1 => .go ⟨S.Γ, S.p, S.κ, S.l, k ⟨C.prog, C.parT⟩, S.h, sayT (pop S.b) (k ⟨C.prog, C.parF⟩) (k ⟨C.prog, C.parT⟩)⟩
  | .load a _ k => match got C S.h S.b a with
    | some (o, b) => .go ⟨S.Γ, S.p, S.κ, S.l, k o, S.h, b⟩
    | none => match ownT C S a k with
      | some S => .go S
      | none => .bad 3
  | .loadIfAlive a k => match got C S.h S.b a with
    | some (o, b) => .go ⟨S.Γ, S.p, S.κ, S.l, k (some o), S.h, b⟩
    | none => .bad 4
  | .alloc o k => match o.isFreed with
    | true => .bad 5
    | false => match (S.h.X.ins S.h.m o).get S.h.m with
      | some _ => .go ⟨S.Γ, S.p, S.κ, S.l, k (adr S.h.bs S.h.m), ⟨S.h.D, S.h.X.ins S.h.m o, Nat.succ S.h.m, S.h.bs, S.h.tb, S.h.i⟩, S.b⟩
      | none => .bad 6
  | .update a _ f k => match dig S.b with
    | 0 => match lookD S.h.D a with
      | some o => match (f o).isFreed with
        | true => .bad 7
        | false => .go ⟨S.Γ, S.p, S.κ, S.l, k (), ⟨updD S.h.D a f, S.h.X, S.h.m, S.h.bs, S.h.tb, S.h.i⟩, pop S.b⟩
      | none => .bad 8
    | j + 1 => match S.h.X.get j with
      | some o => match (f o).isFreed with
        | true => .bad 9
        | false => .go ⟨S.Γ, S.p, S.κ, S.l, k (), ⟨S.h.D, S.h.X.set j f, S.h.m, S.h.bs, S.h.tb, S.h.i⟩, say (pop S.b) a (adr S.h.bs j)⟩
      | none => .bad 10
  | .fresh k => .go ⟨S.Γ, S.p, S.κ, S.l, k (S.h.tb + S.h.i), ⟨S.h.D, S.h.X, S.h.m, S.h.bs, S.h.tb, Nat.succ S.h.i⟩, S.b⟩
  | .handled own k => next (k (match own with | true => S.Γ.own | false => S.Γ.handled))
  | .stack k => next (k ((S.Γ.code, S.p) :: S.Γ.below))
  | .call c hd _ _ k => match dig S.b with
    | 0 => start C (S.Γ.enter c hd S.p) S.p (⟨S.Γ, S.p, k, S.l⟩ :: S.κ) S.h (pop S.b)
    | tag + 1 => match Nat.ble 900 tag with
      | true => match hd with
        | none => match nat1 C ((S.Γ.code, S.p) :: S.Γ.below) S.h (pop S.b) c (Nat.sub tag 900) with
          | some r => .go ⟨S.Γ, S.p, S.κ, S.l, k (.ok (.ret r.1)), r.2.1, r.2.2⟩
          | none => .bad 81
        | some _ => .bad 80
      | false => .need tag c (S.Γ.enter c hd S.p) S.p (fun a => ⟨S.Γ, S.p, S.κ, S.l, k a.res, a.up S.h, ⟨a.orc, [], [], [], []⟩⟩) S.h (pop S.b)
  | .newGen .. => .bad 11
  | .genState .. => .bad 12
  | .resume .. => .bad 13
  | .yield .. => .bad 14
  | .unsupported _ => .bad 15
  | .finish _ => .bad 16
  | .register .. => .bad 17
  | .choose .. => .bad 18
  | .os .. => .bad 19
  | .fork .. => .bad 20
  | .thread _ => .bad 21
  | .await .. => .bad 22
inductive Out where
  | fin (r : Result) (h : Hs) (b : Bk)
  | need (tag : Nat) (c : Code) (g : PySem.Ctx) (p : Pos) (h : Hs) (b : Bk)
  | stop (S : St)
  | bad (n : Nat)
noncomputable def om (C : Cf) : Nat → St → List Ans → Out :=
  @Nat.rec (fun _ => St → List Ans → Out) (fun _ _ => .bad 40) fun _ ih S as => match step1 C S with
    | .go S => ih S as
    | .fin r h b => .fin r h b
    | .need tag c g p f h b => match as with
      | [] => .need tag c g p h b
      | a :: as => ih (f a) as
    | .stop S => .stop S
    | .bad n => .bad n
end M9
end
section
open PySem PySem.W PySem.Calls PyProof.Rows PySem.Spec
namespace M9
noncomputable def cellL (f : Addr) (hn : Bool) (acts : List (Code × Pos)) : List Value := [Z.cellQ 0 (Z.placeOf f hn acts), Z.cellQ 1 (Z.placeOf f hn acts), Z.cellQ 2 (Z.placeOf f hn acts), Z.cellQ 3 (Z.placeOf f hn acts), Z.cellQ 4 (Z.placeOf f hn acts), Z.cellQ 5 (Z.placeOf f hn acts)]
structure CfOk (C : Cf) (M : Model) : Prop where
  prog : M.prog = C.prog
  par : M.w.params = C.par
  rows : C.par = C.parT ∨ C.par = C.parF
  den : ∀ c, C.den c = M.den c
  tab : M.den = denote table
  qt : ∀ c, C.qt c = c.quiet
  exs : C.exs = execs
  ev : C.ev = eval
  hb : C.hb = handleBy
  ro : ∀ c e h, C.ro c e h = runOwn c e h
  sf : C.sf = setFlight
  tt : C.tt = theTreesLotGoes
  po : ∀ x e, C.po x e = passOn "try.finally" x e
  bi : C.bi = behindIsImport
  kb : C.kb = keptBack
  nf : C.nf = newFields "traceback"
  st : C.st = setField
  bu : C.bu = Sem.bind
  bf : C.bf = Sem.bind
  bw : C.bw = Sem.bind
  bv : C.bv = Sem.bind
  bx : C.bx = Sem.bind
  bb : C.bb = Sem.bind
  cl : C.cl = cellL
  se : ∀ a b, C.se a b = decide (a = b)
  lo : C.lo = letOwnedTupleGo
  ct : C.ct = compTurn
structure Rep (h₀ : Heap) (E₁ : DL) (os : OsState) (dr : Drawn) (h : Hs) (s : Shared) : Prop where
  size : s.heap.objs.size = adr h.bs h.m
  seg : ∃ i b r, h.bs = (i, b) :: r ∧ i ≤ h.m
  inj : ∀ i j, i < j → j ≤ h.m → adr h.bs i ≠ adr h.bs j
  bnd : ∀ j, j < h.m → adr h.bs j < s.heap.objs.size
  low : ∀ j, j ≤ h.m → h₀.objs.size ≤ adr h.bs j
  own : ∀ j o, h.X.get j = some o → j < h.m ∧ s.heap.get? (adr h.bs j) = some o
  D : ∀ a o, lookD h.D a = some o → s.heap.get? a = some o ∧ a < h₀.objs.size
  keep : ∀ a o, h₀.get? a = some o → lookD h.D a = none → s.heap.get? a = some o
  toks : s.toks = h.tb + h.i
  gens : s.gens = #[]
  os : s.os = os
  dr : s.drawn = dr
  ext : ∀ x, x ∈ E₁ → h₀.get? x.1 = some x.2 ∧ lookD h.D x.1 = none
theorem lookD_cons (x : Nat × Obj) (l : DL) (b : Nat) : lookD (x :: l) b = if x.1 = b then some x.2 else lookD l b := by
  show (match Nat.beq x.1 b with | true => some x.2 | false => lookD l b) = _
  rw [BT.beq_eq]
  by_cases h : x.1 = b <;> simp [h]
theorem updD_cons (x : Nat × Obj) (l : DL) (a : Nat) (f : Obj → Obj) : updD (x :: l) a f = if x.1 = a then (x.1, f x.2) :: l else x :: updD l a f := by
  show (match Nat.beq x.1 a with | true => (x.1, f x.2) :: l | false => x :: updD l a f) = _
  rw [BT.beq_eq]
  by_cases h : x.1 = a <;> simp [h]
theorem lookD_upd (a : Nat) (f : Obj → Obj) (b : Nat) : ∀ D : DL, lookD (updD D a f) b = if a = b then (lookD D a).map f else lookD D b
  | [] => by simp [updD, lookD]
  | x :: l => by
    have ih := lookD_upd a f b l
    rw [updD_cons, lookD_cons x l a, lookD_cons x l b]
    by_cases h : x.1 = a
    · rw [if_pos h, if_pos h, lookD_cons]
      by_cases q : a = b
      · rw [if_pos q, if_pos (h.trans q)]; rfl
      · rw [if_neg q, if_neg (fun e => q (h.symm.trans e)), if_neg (fun e => q (h.symm.trans e))]
    · rw [if_neg h, if_neg h, lookD_cons, ih]
      by_cases q : x.1 = b
      · rw [if_pos q, if_pos q, if_neg (fun e => h (q.trans e.symm))]
      · rw [if_neg q, if_neg q]
theorem adr_seg {i b j : Nat} {r : List (Nat × Nat)} (h : i ≤ j) : adr ((i, b) :: r) j = b + (j - i) := by
  unfold adr
  rw [Nat.ble_eq_true_of_le h]
  rfl
theorem adr_old {i b j : Nat} {r : List (Nat × Nat)} (h : j < i) : adr ((i, b) :: r) j = adr r j := by
  have : Nat.ble i j = false := by
    cases q : Nat.ble i j with
    | false => rfl
    | true => exact absurd (Nat.le_of_ble_eq_true q) (Nat.not_le.mpr h)
  rw [adr, this]
section
variable {C : Cf} {M : Model} {h₀ : Heap} {E₁ : DL} {os : OsState} {dr : Drawn} {h : Hs} {s : Shared}
noncomputable def okb (b : Bk) : Prop := b.o1 = b.o2 ∧ b.t1 = b.t2
theorem okb_pop {b : Bk} (h : okb (pop b)) : okb b := h
theorem okb_say {b : Bk} {a a' : Nat} (h : okb (say b a a')) : a = a' ∧ okb b := by
  obtain ⟨h1, h2⟩ := h
  have e := List.cons.inj (show a :: b.o1 = a' :: b.o2 from h1)
  exact ⟨e.1, e.2, h2⟩
theorem okb_sayT {b : Bk} {t t' : Sem Fin} (h : okb (sayT b t t')) : t = t' ∧ okb b := by
  obtain ⟨h1, h2⟩ := h
  have e := List.cons.inj (show t :: b.t1 = t' :: b.t2 from h2)
  exact ⟨e.1, h1, e.2⟩
theorem Rep.alloc (D : Rep h₀ E₁ os dr h s) {o : Obj} (hf : o.isFreed = false) (hg : ((h.X.ins h.m o).get h.m).isSome = true) :
    Rep h₀ E₁ os dr ⟨h.D, h.X.ins h.m o, Nat.succ h.m, h.bs, h.tb, h.i⟩ { s with heap := s.heap.push o } := by
  obtain ⟨i, b, r, e, le⟩ := D.seg
  have am : adr h.bs (h.m + 1) = adr h.bs h.m + 1 := by
    rw [e, adr_seg le, adr_seg (Nat.le_succ_of_le le)]; omega
  have sz : (s.heap.push o).objs.size = adr h.bs h.m + 1 := by rw [Heap.size_push, D.size]
  refine ⟨by show (s.heap.push o).objs.size = adr h.bs (h.m + 1); rw [sz, am], ⟨i, b, r, e, Nat.le_succ_of_le le⟩, fun x y l1 l2 => ?_, fun j hj => ?_, fun j hj => ?_, fun j o' e' => ?_, fun a o' e' => ⟨Heap.get?_push_of_some _ (D.D a o' e').1, (D.D a o' e').2⟩, fun a o' e1 e2 => Heap.get?_push_of_some _ (D.keep a o' e1 e2), D.toks, D.gens, D.os, D.dr, D.ext⟩
  · by_cases q : y ≤ h.m
    · exact D.inj x y l1 q
    · have : y = h.m + 1 := Nat.le_antisymm l2 (Nat.succ_le_of_lt (Nat.lt_of_not_le q))
      subst this
      show adr h.bs x ≠ adr h.bs (h.m + 1)
      rw [am]
      by_cases p : x < h.m
      · have := D.bnd x p
        rw [D.size] at this
        omega
      · have : x = h.m := by omega
        subst this
        omega
  · show adr h.bs j < (s.heap.push o).objs.size
    rw [sz]
    by_cases p : j < h.m
    · have := D.bnd j p
      rw [D.size] at this
      omega
    · have : j = h.m := by have : j < h.m + 1 := hj; omega
      subst this
      omega
  · by_cases q : j ≤ h.m
    · exact D.low j q
    · have : j = h.m + 1 := Nat.le_antisymm hj (Nat.succ_le_of_lt (Nat.lt_of_not_le q))
      subst this
      show h₀.objs.size ≤ adr h.bs (h.m + 1)
      rw [am]
      have := D.low h.m (Nat.le_refl _)
      omega
  · have e' : (h.X.ins h.m o).get j = some o' := e'
    rw [BT.get_ins o h.X h.m hg] at e'
    by_cases hj : j = h.m
    · subst hj
      rw [if_pos rfl] at e'
      cases e'
      refine ⟨Nat.lt_succ_self _, ?_⟩
      show (s.heap.push o).get? (adr h.bs h.m) = some o
      rw [← D.size]
      exact Heap.get?_push_size _ hf
    · rw [if_neg hj] at e'
      have z := D.own j o' e'
      exact ⟨Nat.lt_succ_of_lt z.1, Heap.get?_push_of_some _ z.2⟩
theorem Rep.updX (D : Rep h₀ E₁ os dr h s) {j : Nat} {o : Obj} {f : Obj → Obj} (e : h.X.get j = some o) (hf : (f o).isFreed = false) :
    s.heap.get? (adr h.bs j) = some o ∧ Rep h₀ E₁ os dr ⟨h.D, h.X.set j f, h.m, h.bs, h.tb, h.i⟩ { s with heap := s.heap.update (adr h.bs j) f } := by
  have z := D.own j o e
  have hs : Heap.SameBut (adr h.bs j) s.heap (s.heap.update (adr h.bs j) f) := Heap.SameBut.update ..
  refine ⟨z.2, (hs.1.trans D.size : _), D.seg, D.inj, fun i hi => ?_, D.low, fun i o' e' => ?_, fun a o' e' => ?_, fun a o' e1 e2 => ?_, D.toks, D.gens, D.os, D.dr, D.ext⟩
  · exact Nat.lt_of_lt_of_eq (D.bnd i hi) hs.1.symm
  · have e' : (h.X.set j f).get i = some o' := e'
    rw [BT.get_set] at e'
    by_cases q : i = j
    · subst q
      rw [if_pos rfl, e] at e'
      cases e'
      refine ⟨z.1, ?_⟩
      first | exact Heap.get?_update_self f z.2 hf | exact Heap.get?_update_self _ z.2 hf
    · rw [if_neg q] at e'
      have y := D.own i o' e'
      have ne : adr h.bs i ≠ adr h.bs j := by
        rcases Nat.lt_or_gt_of_ne q with l | l
        · exact D.inj i j l (Nat.le_of_lt z.1)
        · exact (D.inj j i l (Nat.le_of_lt y.1)).symm
      exact ⟨y.1, (hs.2 _ ne).trans y.2⟩
  · have y := D.D a o' e'
    have := D.low j (Nat.le_of_lt z.1)
    exact ⟨(hs.2 a (Nat.ne_of_lt (Nat.lt_of_lt_of_le y.2 this))).trans y.1, y.2⟩
  · have y := D.keep a o' e1 e2
    have q := D.low j (Nat.le_of_lt z.1)
    have := Heap.lt_size e1
    exact (hs.2 a (Nat.ne_of_lt (Nat.lt_of_lt_of_le this q))).trans y
theorem Rep.updD (D : Rep h₀ E₁ os dr h s) {a : Nat} {o : Obj} {f : Obj → Obj} (e : lookD h.D a = some o) (hf : (f o).isFreed = false) :
    s.heap.get? a = some o ∧ Rep h₀ E₁ os dr ⟨updD h.D a f, h.X, h.m, h.bs, h.tb, h.i⟩ { s with heap := s.heap.update a f } := by
  have z := D.D a o e
  have hs : Heap.SameBut a s.heap (s.heap.update a f) := Heap.SameBut.update ..
  refine ⟨z.1, (hs.1.trans D.size : _), D.seg, D.inj, fun i hi => ?_, D.low, fun i o' e' => ?_, fun b o' e' => ?_, fun b o' e1 e2 => ?_, D.toks, D.gens, D.os, D.dr, fun x hx => ⟨(D.ext x hx).1, ?_⟩⟩
  · exact Nat.lt_of_lt_of_eq (D.bnd i hi) hs.1.symm
  · have y := D.own i o' e'
    have := D.low i (Nat.le_of_lt y.1)
    exact ⟨y.1, (hs.2 _ (Nat.ne_of_gt (Nat.lt_of_lt_of_le z.2 this))).trans y.2⟩
  · have e' : lookD (M9.updD h.D a f) b = some o' := e'
    rw [lookD_upd] at e'
    by_cases q : a = b
    · subst q
      rw [if_pos rfl, e] at e'
      cases e'
      refine ⟨?_, z.2⟩
      first | exact Heap.get?_update_self f z.1 hf | exact Heap.get?_update_self _ z.1 hf
    · rw [if_neg q] at e'
      have y := D.D b o' e'
      exact ⟨(hs.2 b (Ne.symm q)).trans y.1, y.2⟩
  · have e2 : lookD (M9.updD h.D a f) b = none := e2
    rw [lookD_upd] at e2
    by_cases q : a = b
    · subst q
      rw [if_pos rfl, e] at e2
      cases e2
    · rw [if_neg q] at e2
      exact (hs.2 b (Ne.symm q)).trans (D.keep b o' e1 e2)
  · show lookD (M9.updD h.D a f) x.1 = none
    rw [lookD_upd]
    by_cases q : a = x.1
    · rw [q, (D.ext x hx).2] at e; cases e
    · rw [if_neg q]; exact (D.ext x hx).2
theorem nthD_mem {x : Nat × Obj} : ∀ {l : DL} {i : Nat}, nthD l i = some x → x ∈ l
  | [], _, h => by cases h
  | y :: l, 0, h => by cases h; exact .head _
  | y :: l, i + 1, h => .tail _ (nthD_mem (l := l) h)
theorem got_at (hl : ∀ a o, C.look a = some o → h₀.get? a = some o) (D : Rep h₀ C.ext os dr h s) {b b' : Bk} {a : Nat} {o : Obj} (e : got C h b a = some (o, b')) (ok : okb b') : s.heap.get? a = some o ∧ okb b := by
  unfold got at e
  split at e
  · split at e
    · rename_i o1 e1
      cases e
      exact ⟨(D.D a _ e1).1, okb_pop ok⟩
    · rename_i e1
      split at e
      · rename_i o1 e2
        cases e
        exact ⟨D.keep a _ (hl _ _ e2) e1, okb_pop ok⟩
      · cases e
  · split at e
    · split at e
      · rename_i x e1
        cases e
        obtain ⟨q, ok⟩ := okb_say ok
        have z := D.ext x (nthD_mem e1)
        exact ⟨q ▸ D.keep _ _ z.1 z.2, okb_pop ok⟩
      · cases e
    · split at e
      · rename_i o1 e1
        cases e
        obtain ⟨q, ok⟩ := okb_say ok
        exact ⟨q ▸ (D.own _ _ e1).2, okb_pop ok⟩
      · cases e
end
end M9
end
section
open PySem PySem.W PySem.Calls PyProof.Rows PySem.Spec
namespace M9
noncomputable abbrev Wf (M : Model) (Γ : PySem.Ctx) (t : Sem Flow) (Q : Flow → Pos → Shared → Prop) (E : Value → Pos → Shared → Prop) (p : Pos) (s : Shared) : Prop := Sem.wp M Γ t Q E p s
noncomputable def mainErr (x : Value) (hs : List ExceptHandler) (env : Env) : Sem Flow := do
  noteFrame x env
  match hs with
  | [] => throw x
  | hs => setFlight x none; handleBy x env hs
noncomputable def lastOk (f : Flow) (final : List Stmt) (env : Env) : Sem Flow := do
  match ← holding (match f with | .ret v => [v] | _ => []) (runOwn (.block final env) env) with
  | .next => pure f
  | f' => rule "try.finally-overrides-flow"; pure f'
noncomputable def lastErr (x : Value) (final : List Stmt) (env : Env) : Sem Flow := do
  noteFrame x env
  setFlight x none
  match ← holding [x] (runOwn (.block final env) env (some x)) with
  | .next => passOn "try.finally" x env
  | f' => rule "try.finally-swallows-exception"; setFlight x none; pure f'
noncomputable def QE (M : Model) (Γ : PySem.Ctx) (R : Result → Shared → Prop) : List LF → (Fin → Pos → Shared → Prop) × (Value → Pos → Shared → Prop)
  | [] => (Sem.finPost M Γ R, fun e _ s => R (.error e) s)
  | .seq rest env :: l => (fun fin p s => match fin with
      | .done f => match f with
        | .next => Wf M Γ (execs rest env) (fun f => (QE M Γ R l).1 (.done f)) (QE M Γ R l).2 p s
        | f => (QE M Γ R l).1 (.done f) p s
      | .again _ => False, (QE M Γ R l).2)
  | .fn env :: l => (fun fin p s => match fin with
      | .done f => (QE M Γ R l).1 (.done (match f with | .ret v => .ret v | _ => .ret .none)) p s
      | .again _ => False, fun x p s => Sem.wp M Γ (leaving env x) (fun _ => (QE M Γ R l).2 x) (QE M Γ R l).2 p s)
  | .blk env :: l => (fun fin p s => match fin with
      | .done f => (QE M Γ R l).1 (.done f) p s
      | .again _ => False, fun x p s => Sem.wp M Γ (do noteFrame x env; theTreesLotGoes x) (fun _ => (QE M Γ R l).2 x) (QE M Γ R l).2 p s)
  | .tryH hs orelse env :: l => (fun fin p s => match fin with
      | .done f => match f with
        | .next => Wf M Γ (execs orelse env) (fun f => (QE M Γ R l).1 (.done f)) (QE M Γ R l).2 p s
        | f => (QE M Γ R l).1 (.done f) p s
      | .again _ => False, fun x p s => Wf M Γ (mainErr x hs env) (fun f => (QE M Γ R l).1 (.done f)) (QE M Γ R l).2 p s)
  | .tryF final env :: l => (fun fin p s => match fin with
      | .done f => Wf M Γ (lastOk f final env) (fun f => (QE M Γ R l).1 (.done f)) (QE M Γ R l).2 p s
      | .again _ => False, fun x p s => Wf M Γ (lastErr x final env) (fun f => (QE M Γ R l).1 (.done f)) (QE M Γ R l).2 p s)
  | .cmp c env :: l => (fun fin p s => (QE M Γ R l).1 fin p s, fun x p s => Sem.wp M Γ (if c.isFrame then leaving env x else (do noteFrame x env; theTreesLotGoes x)) (fun _ => (QE M Γ R l).2 x) (QE M Γ R l).2 p s)
noncomputable def Conf (M : Model) (R : Result → Shared → Prop) (Γ : PySem.Ctx) (l : List LF) (t : Sem Fin) (p : Pos) (s : Shared) : Prop := Sem.wp M Γ t (QE M Γ R l).1 (QE M Γ R l).2 p s
noncomputable def KR (M : Model) (R : Result → Shared → Prop) : List K1 → Result → Shared → Prop
  | [] => R
  | k :: κ => fun r s => Conf M (KR M R κ) k.Γ k.l (k.k r) k.p s
noncomputable def Full (M : Model) (R : Result → Shared → Prop) (S : St) (s : Shared) : Prop := Conf M (KR M R S.κ) S.Γ S.l S.t S.p s
section
variable {M : Model} {Γ : PySem.Ctx} {Q : Flow → Pos → Shared → Prop} {E : Value → Pos → Shared → Prop} {p : Pos} {s : Shared}
theorem execs_one {st : Stmt} {rest : List Stmt} {env : Env} (h : Wf M Γ (execs [st] env) (fun f p s => match f with | .next => Wf M Γ (execs rest env) Q E p s | f => Q f p s) E p s) : Wf M Γ (execs (st :: rest) env) Q E p s := by
  have e1 : execs (st :: rest) env = (exec st env >>= fun f => match f with | .next => execs rest env | f => pure f) := rfl
  have e2 : execs [st] env = (exec st env >>= fun f => match f with | .next => execs [] env | f => pure f) := rfl
  unfold Wf at h ⊢
  rw [e1, Sem.wp_bind']
  rw [e2, Sem.wp_bind'] at h
  refine Sem.wp_mono _ _ _ (fun f p s h => ?_) (fun _ _ _ h => h) _ _ h
  cases f <;> exact h
theorem try_wp {B O : Sem Flow} {hs : List ExceptHandler} {final : List Stmt} {env : Env} {Qm : Flow → Pos → Shared → Prop} {Em : Value → Pos → Shared → Prop}
    (hQ : ∀ f p s, Qm f p s → (match final with | [] => Q f p s | _ :: _ => Wf M Γ (lastOk f final env) Q E p s))
    (hE : ∀ x p s, Em x p s → (match final with | [] => E x p s | _ :: _ => Wf M Γ (lastErr x final env) Q E p s))
    (h : Sem.wp M Γ B (fun f p s => match f with | .next => Wf M Γ O Qm Em p s | f => Qm f p s) (fun x p s => Wf M Γ (mainErr x hs env) Qm Em p s) p s) : Wf M Γ (tryStmt false B hs O final env) Q E p s := by
  have key : Sem.wp M Γ (do
      match ← B.attempt with
      | .ok .next => O
      | .ok f => pure f
      | .error e =>
        noteFrame e env
        if hs.isEmpty then throw e
        setFlight e none
        if false && hs.any (fun | .ExceptHandler none .. => true | _ => false) then unsupported "internal:except-star-without-type"
        if false then runOwn (.starHandlers e e (← newList []) hs env) env (some e) else handleBy e env hs : Sem Flow) Qm Em p s := by
    rw [Sem.wp_bind', Sem.wp_attempt]
    refine Sem.wp_mono _ _ _ (fun f p s h => ?_) (fun x p s h => ?_) _ _ h
    · cases f <;> exact h
    · unfold Wf mainErr at h
      cases hs with
      | nil => exact h
      | cons a hs => exact h
  cases final with
  | nil =>
    refine Sem.wp_mono _ _ _ hQ hE _ _ ?_
    exact key
  | cons a final =>
    have e : tryStmt false B hs O (a :: final) env = (do
      match ← (do
      match ← B.attempt with
      | .ok .next => O
      | .ok f => pure f
      | .error e =>
        noteFrame e env
        if hs.isEmpty then throw e
        setFlight e none
        if false && hs.any (fun | .ExceptHandler none .. => true | _ => false) then unsupported "internal:except-star-without-type"
        if false then runOwn (.starHandlers e e (← newList []) hs env) env (some e) else handleBy e env hs : Sem Flow).attempt with
      | .ok f => lastOk f (a :: final) env
      | .error x => lastErr x (a :: final) env : Sem Flow) := rfl
    rw [e]
    unfold Wf
    rw [Sem.wp_bind', Sem.wp_attempt]
    exact Sem.wp_mono _ _ _ hQ hE _ _ key
end
end M9
end
section
open PySem PySem.W PySem.Calls PyProof.Rows PySem.Spec
namespace M9
noncomputable def aroundOf (Γ : PySem.Ctx) : Around := { handled := Γ.handled, depth := frameCount Γ.below + Γ.code.weight, frames := none, guards := none, units := Γ.units }
theorem in_around (Γ : PySem.Ctx) : Γ.In (aroundOf Γ) := ⟨rfl, Nat.le_refl _, (fun _ h => by cases h), (fun _ h => by cases h), Nat.le_refl _⟩
theorem wp_of_any {α : Type} {M : Model} {Γ : PySem.Ctx} {t : Sem α} {Q : α → Shared → Prop} {E : Value → Shared → Prop} {p : Pos} {s : Shared} (h : wpAny M (aroundOf Γ) t Q E s) :
    Sem.wp M Γ t (fun a _ s => Q a s) (fun e _ s => E e s) p s := h Γ p (in_around Γ)
noncomputable def itCls (o : Obj) : Prop := o.cls = .type "list_iterator" ∨ o.cls = .type "range_iterator" ∨ o.cls = .type "enumerate"
theorem pyIter_self {prog : Program} {w : World} {A : Around} {E : Value → Shared → Prop} {s : Shared} {it : Addr} {o : Obj} {Q : Value → Shared → Prop} (ho : s.heap.get? it = some o) (hc : itCls o) (h : Q (.ref it) s) :
    wpAny (model prog w) A (pyIter (.ref it)) Q E s := by
  rcases hc with hc | hc | hc
  · have hT : s.TypeIs (.ref it) "list_iterator" := ⟨_, ho, hc⟩
    refine wpAny_pyIter_slot hT slot_listiter_iter (wpAny_call_entry slot_listiter_iter hT entry_listiter_iter ?_ (args_listiter_iter _))
    show wpAny _ _ (ret (.ref it)) _ _ s
    exact wpAny_pure ⟨_, rfl, "list_iterator", _, hT, slot_listiter_next.lookup, h⟩
  · have hT : s.TypeIs (.ref it) "range_iterator" := ⟨_, ho, hc⟩
    refine wpAny_pyIter_slot hT F.slot_range_iterator_iter (wpAny_call_entry F.slot_range_iterator_iter hT F.entry_range_iterator_iter ?_ (F.args_range_iterator_iter_1 _))
    show wpAny _ _ (ret (.ref it)) _ _ s
    exact wpAny_pure ⟨_, rfl, "range_iterator", _, hT, F.slot_range_iterator_next.lookup, h⟩
  · have hT : s.TypeIs (.ref it) "enumerate" := ⟨_, ho, hc⟩
    refine wpAny_pyIter_slot hT F.slot_enumerate_iter (wpAny_call_entry F.slot_enumerate_iter hT F.entry_enumerate_iter ?_ (F.args_enumerate_iter_1 _))
    show wpAny _ _ (ret (.ref it)) _ _ s
    exact wpAny_pure ⟨_, rfl, "enumerate", _, hT, F.slot_enumerate_next.lookup, h⟩
theorem wp_keepsPos {α : Type} {M : Model} {Γ : PySem.Ctx} {t : Sem α} {a : α} {p : Pos} {s : Shared} {Q : α → Pos → Shared → Prop} {E : Value → Pos → Shared → Prop}
    (h : Sem.wp M Γ t (fun a' _ s' => a' = a ∧ s' = s) (fun _ _ _ => False) p s) (k : ∀ p', Q a p' s) : Sem.wp M Γ t Q E p s :=
  Sem.wp_mono _ _ _ (fun a' p' s' h => by obtain ⟨rfl, rfl⟩ := h; exact k p') (fun _ _ _ h => h.elim) _ _ h
noncomputable def Stp.st? : Stp → Option St
  | .go S => some S
  | .stop S => some S
  | _ => none
section
variable {C : Cf} {M : Model} (hC : CfOk C M) {R : Result → Shared → Prop} {Γ : PySem.Ctx} {p : Pos} {κ : List K1} {l : List LF} {h : Hs} {b : Bk} {s : Shared}
include hC
theorem exe1_wp {st : Stmt} {env : Env} {Q : Fin → Pos → Shared → Prop} {E : Value → Pos → Shared → Prop} (x : Sem.wp M Γ (exe1 C st env) Q E p s) : Wf M Γ (execs [st] env) (fun f => Q (.done f)) E p s := by
  unfold exe1 at x
  rw [hC.bf, hC.exs] at x
  have x : Sem.wp M Γ (execs [st] env >>= fun f => (Sem.pure (Fin.done f) : Sem Fin)) Q E p s := x
  rw [Sem.wp_bind'] at x
  exact x
theorem begin2_st {st : Stmt} {rest : List Stmt} {env : Env} {S' : St} (e : (begin2 C Γ p κ l h b st rest env).st? = some S') :
    (Full M R S' s → Wf M Γ (execs (st :: rest) env) (fun f => (QE M Γ (KR M R κ) l).1 (.done f)) (QE M Γ (KR M R κ) l).2 p s) ∧ S'.h = h ∧ S'.b = b := by
  have plain : ∀ S', Stp.st? (.go ⟨Γ, p, κ, .seq rest env :: l, exe1 C st env, h, b⟩) = some S' →
      (Full M R S' s → Wf M Γ (execs (st :: rest) env) (fun f => (QE M Γ (KR M R κ) l).1 (.done f)) (QE M Γ (KR M R κ) l).2 p s) ∧ S'.h = h ∧ S'.b = b := by
    intro S' e
    cases e
    refine ⟨fun F => ?_, rfl, rfl⟩
    have z := exe1_wp hC F
    refine execs_one (Sem.wp_mono _ _ _ (fun f p s h => ?_) (fun _ _ _ h => h) _ _ z)
    cases f <;> exact h
  unfold begin2 at e
  split at e
  · rename_i body hs orelse final pos
    split at e
    · cases e
    · rename_i st1 body
      cases e
      refine ⟨fun F => ?_, rfl, rfl⟩
      have hL : ∃ L, L = (match final with | [] => LF.seq rest env :: l | _ :: _ => .tryF final env :: .seq rest env :: l) := ⟨_, rfl⟩
      obtain ⟨L, hL⟩ := hL
      have z : Wf M Γ (execs [st1] env) (fun f => (QE M Γ (KR M R κ) (.seq body env :: .tryH hs orelse env :: L)).1 (.done f)) (QE M Γ (KR M R κ) (.seq body env :: .tryH hs orelse env :: L)).2 pos s := by
        rw [hL]; exact exe1_wp hC F
      have z1 : Wf M Γ (execs (st1 :: body) env) (fun f => (QE M Γ (KR M R κ) (.tryH hs orelse env :: L)).1 (.done f)) (QE M Γ (KR M R κ) (.tryH hs orelse env :: L)).2 pos s := by
        refine execs_one (Sem.wp_mono _ _ _ (fun f p s h => ?_) (fun _ _ _ h => h) _ _ z)
        cases f <;> exact h
      refine execs_one ?_
      have e1 : execs [Stmt.Try (st1 :: body) hs orelse final pos] env = (exec (.Try (st1 :: body) hs orelse final pos) env >>= fun f => match f with | .next => execs [] env | f => pure f) := rfl
      have e2 : exec (.Try (st1 :: body) hs orelse final pos) env = (standAt pos >>= fun _ => tryStmt false (execs (st1 :: body) env) hs (execs orelse env) final env) := rfl
      unfold Wf
      rw [e1, Sem.wp_bind', e2, Sem.wp_bind']
      show Sem.wp M Γ (tryStmt false (execs (st1 :: body) env) hs (execs orelse env) final env) _ _ pos s
      have last : ∀ (f : Flow) (p : Pos) (s : Shared), (QE M Γ (KR M R κ) (.seq rest env :: l)).1 (.done f) p s →
          Sem.wp M Γ (match f with | .next => execs [] env | f => pure f : Sem Flow) (fun f p s => match f with | .next => Wf M Γ (execs rest env) (fun f => (QE M Γ (KR M R κ) l).1 (.done f)) (QE M Γ (KR M R κ) l).2 p s | f => (QE M Γ (KR M R κ) l).1 (.done f) p s) (QE M Γ (KR M R κ) l).2 p s := by
        intro f p s h
        cases f <;> exact h
      refine Sem.wp_mono _ _ _ last (fun _ _ _ h => h) _ _ (try_wp (Q := fun f => (QE M Γ (KR M R κ) (.seq rest env :: l)).1 (.done f)) (E := (QE M Γ (KR M R κ) (.seq rest env :: l)).2)
        (Qm := fun f => (QE M Γ (KR M R κ) L).1 (.done f)) (Em := (QE M Γ (KR M R κ) L).2) ?_ ?_ (Sem.wp_mono _ _ _ (fun f p s h => ?_) (fun x p s h => ?_) _ _ z1))
      · intro f p s h
        subst hL
        cases final <;> exact h
      · intro f p s h
        subst hL
        cases final <;> exact h
      · cases f <;> exact h
      · exact h
  · exact plain S' e
theorem begin1_st {rest : List Stmt} {env : Env} {S' : St} (e : (begin1 C Γ p κ l h b rest env).st? = some S') :
    (Full M R S' s → Wf M Γ (execs rest env) (fun f => (QE M Γ (KR M R κ) l).1 (.done f)) (QE M Γ (KR M R κ) l).2 p s) ∧ S'.h = h ∧ (okb S'.b → okb b) := by
  unfold begin1 at e
  split at e
  · cases e
    exact ⟨fun F => F, rfl, fun x => x⟩
  · split at e
    · have z := begin2_st hC (R := R) (s := s) e
      exact ⟨z.1, z.2.1, fun x => okb_pop (z.2.2 ▸ x)⟩
    · cases e
      exact ⟨fun F => F, rfl, fun x => okb_pop x⟩
end
end M9
end
section
open PySem PySem.W PySem.Calls PyProof.Rows PySem.Spec
namespace M9
section
variable {C : Cf} {M : Model} {R : Result → Shared → Prop} {Γ : PySem.Ctx} {p : Pos} {κ : List K1} {l : List LF} {h : Hs} {b : Bk} {s : Shared} {h₀ : Heap} {os : OsState} {dr : Drawn}
theorem at_objs {H : Heap} {a : Addr} {o : Obj} (ho : H.get? a = some o) : H.objs[a]? = some o := by
  unfold Heap.get? at ho
  split at ho
  · cases ho
  · exact ho
theorem upd_same {H : Heap} {a : Addr} {o : Obj} {f g : Obj → Obj} (ho : H.get? a = some o) (e : f o = g o) : H.update a f = H.update a g := by
  have hx := at_objs ho
  obtain ⟨objs, life⟩ := H
  have : objs.modify a f = objs.modify a g := by
    apply Array.ext_getElem?
    intro i
    rw [Array.getElem?_modify, Array.getElem?_modify]
    by_cases q : a = i
    · subst q
      rw [if_pos rfl, if_pos rfl, hx]
      simp [e]
    · rw [if_neg q, if_neg q]
  exact congrArg (Heap.mk · life) this
theorem upd_id {H : Heap} {a : Addr} {o : Obj} {f : Obj → Obj} (ho : H.get? a = some o) (e : f o = o) : H.update a f = H := by
  rw [upd_same (g := id) ho (by rw [e]; rfl)]
  obtain ⟨objs, life⟩ := H
  have : objs.modify a id = objs := by
    apply Array.ext_getElem?
    intro i
    rw [Array.getElem?_modify]
    split
    · simp
    · rfl
  exact congrArg (Heap.mk · life) this
theorem kept_nil {env : Env} {E : Value → Pos → Shared → Prop} : ∃ v, ∀ Q, Sem.wp M Γ (keptBack env false []) Q E p s = Q v p s := by
  unfold keptBack
  cases hb : (env.scope.isGenerator || env.scope.isCoroutine) with
  | true => exact ⟨.none, fun Q => by simp only [if_true]; rfl⟩
  | false =>
    refine ⟨(if (((Γ.code, p) :: Γ.below).any fun x => match x.1 with | .builtin "claim.caller" _ => true | _ => false) = true then .notImplemented else .none), fun Q => ?_⟩
    simp only [Bool.false_eq_true, if_false, underTheClaimsCaller, Sem.wp_bind']
    rfl
theorem rfm_wp (hC : CfOk C M) {Q : Pos → Shared → Prop} {E : Value → Pos → Shared → Prop} : ∀ (L : List Env) (p : Pos) (s : Shared), Sem.wp M Γ (rfm C L) (fun _ => Q) E p s → Sem.wp M Γ (readyFrames L) (fun _ => Q) E p s
  | [], _, _, x => x
  | env :: [], p, s, x => by
    unfold rfm at x
    unfold readyFrames
    cases hf : env.frame with
    | none => rw [hf] at x; exact x.elim
    | some f =>
      rw [hf] at x
      dsimp only at x ⊢
      rw [hC.bv, hC.kb] at x
      have x : Sem.wp M Γ (keptBack env false [] >>= fun back => (.update f none (fun o => { o with slots := markL env back o.slots }) fun _ => .pure () : Sem Unit)) (fun _ => Q) E p s := x
      rw [Sem.wp_bind'] at x
      obtain ⟨v, hv⟩ := kept_nil (M := M) (Γ := Γ) (p := p) (s := s) (E := E) (env := env)
      rw [hv] at x
      obtain ⟨hs, x⟩ := x
      obtain ⟨o, ho⟩ := Option.isSome_iff_exists.mp hs
      have x : Q p { s with heap := s.heap.update f (fun o => { o with slots := markL env v o.slots }) } := x
      rw [Sem.wp_bind']
      refine ⟨o, ho, ?_⟩
      cases hq : (o.slots.getD 3 none).isSome with
      | true =>
        have e : ({ o with slots := markL env v o.slots } : Obj) = o := by
          have : markL env v o.slots = o.slots := by unfold markL; rw [hq]
          rw [this]
        rw [upd_id ho e] at x
        rw [Sem.wp_pure]
        simp only [hq, if_true]
        exact x
      | false =>
        have e : ({ o with slots := markL env v o.slots } : Obj) = { o with slots := markS env v o.slots } := by
          have : markL env v o.slots = markS env v o.slots := by unfold markL; rw [hq]
          rw [this]
        rw [upd_same (g := fun o => { o with slots := markS env v o.slots }) ho e] at x
        have e0 : behindIsImport env [] = pure false := by
          unfold behindIsImport
          simp
        rw [Sem.wp_pure]
        simp only [hq, Bool.false_eq_true, if_false]
        rw [Sem.wp_bind', e0, Sem.wp_pure', Sem.wp_bind', hv, Sem.wp_bind']
        exact ⟨by rw [ho]; rfl, x⟩
  | env :: e1 :: r, p, s, x => by
    unfold rfm at x
    unfold readyFrames
    cases hf : env.frame with
    | none => rw [hf] at x; exact x.elim
    | some f =>
      rw [hf] at x
      dsimp only at x ⊢
      obtain ⟨o, ho, x⟩ := x
      rw [Sem.wp_bind']
      refine ⟨o, ho, ?_⟩
      cases hq : (o.slots.getD 3 none).isSome with
      | true =>
        dsimp only at x
        rw [hq] at x
        rw [Sem.wp_pure]
        simp only [hq, if_true]
        exact x
      | false =>
        dsimp only at x
        rw [hq] at x
        rw [Sem.wp_pure]
        simp only [hq, Bool.false_eq_true, if_false]
        dsimp only at x
        rw [hC.bb, hC.bv, hC.bi, hC.kb] at x
        have x : Sem.wp M Γ (behindIsImport env (e1 :: r) >>= fun im => keptBack env im (e1 :: r) >>= fun back => (.update f none (fun o => { o with slots := markS env back o.slots }) fun _ => rfm C (e1 :: r) : Sem Unit)) (fun _ => Q) E p s := x
        rw [Sem.wp_bind'] at x ⊢
        refine Sem.wp_mono _ _ _ (fun im p s x => ?_) (fun _ _ _ h => h) _ _ x
        rw [Sem.wp_bind'] at x ⊢
        refine Sem.wp_mono _ _ _ (fun back p s x => ?_) (fun _ _ _ h => h) _ _ x
        obtain ⟨hs, x⟩ := x
        rw [Sem.wp_bind']
        exact ⟨hs, rfm_wp hC (e1 :: r) _ _ x⟩
theorem field_wp {a : Addr} {i : Nat} {o : Obj} {vs : Array Value} {v : Value} {Q : Value → Pos → Shared → Prop} {E : Value → Pos → Shared → Prop} (ho : s.heap.get? a = some o) (hd : o.data = .fields vs) (hv : vs[i]? = some v)
    (x : Q v p s) : Sem.wp M Γ (field (.ref a) i) Q E p s := by
  unfold field fieldsOf
  rw [Sem.wp_bind']
  show Sem.wp M Γ (load a >>= fun o => match o.data with | .fields vs => pure vs | _ => unsupported "internal:no-fields") _ E p s
  rw [Sem.wp_bind']
  refine ⟨o, ho, ?_⟩
  rw [Sem.wp_pure, hd]
  show Sem.wp M Γ (match vs[i]? with | some x => pure x | none => unsupported "internal:no-such-field") Q E p s
  rw [hv]
  exact x
theorem frameOf_wp (hC : CfOk C M) {env e0 : Env} {r : List Env} {f : Addr} {Q : Value → Pos → Shared → Prop} {E : Value → Pos → Shared → Prop} (hL : framesOf Γ p = e0 :: r) (h0 : e0.frame = some f) (hf : env.frame = some f)
    (x : Sem.wp M Γ (rfm C (framesOf Γ p)) (fun _ => Q (.ref f)) E p s) : Sem.wp M Γ (PySem.frameOf env) Q E p s := by
  unfold PySem.frameOf
  rw [Sem.wp_bind']
  unfold frameEnvs
  rw [Sem.wp_bind']
  show Sem.wp M Γ (frameObject ((framesOf Γ p).dropWhile (·.frame != env.frame)) >>= _) _ E p s
  have z := rfm_wp hC _ _ _ x
  rw [hL] at z ⊢
  have : ((e0 :: r).dropWhile (·.frame != env.frame)) = e0 :: r := by
    rw [List.dropWhile_cons, h0, hf]
    simp
  rw [this, Sem.wp_bind']
  unfold frameObject
  rw [Sem.wp_bind']
  refine Sem.wp_mono _ _ _ (fun _ p s x => ?_) (fun _ _ _ h => h) _ _ z
  rw [h0]
  exact x
theorem entry_wp (hC : CfOk C M) {x head : Value} {hn : Bool} {env e0 : Env} {r : List Env} {f : Addr} {Q : Pos → Shared → Prop} {E : Value → Pos → Shared → Prop} (hL : framesOf Γ p = e0 :: r) (h0 : e0.frame = some f) (hf : env.frame = some f)
    (z : Sem.wp M Γ (entry C x head f hn Γ p) (fun _ => Q) E p s) :
    Sem.wp M Γ (PySem.frameOf env >>= fun fr => stack >>= fun acts => newFields "traceback" [head, fr, .none, rawInt f, .none, Z.cellQ 0 (Z.placeOf f hn acts), Z.cellQ 1 (Z.placeOf f hn acts), Z.cellQ 2 (Z.placeOf f hn acts), Z.cellQ 3 (Z.placeOf f hn acts), Z.cellQ 4 (Z.placeOf f hn acts), Z.cellQ 5 (Z.placeOf f hn acts)] >>= fun t => setField x 1 t) (fun _ => Q) E p s := by
  unfold entry at z
  rw [hC.bw, hC.bv, hC.nf, hC.st, hC.cl] at z
  have z : Sem.wp M Γ (rfm C (framesOf Γ p) >>= fun _ => (.stack fun acts => (newFields "traceback" ([head, .ref f, .none, rawInt f, .none] ++ cellL f hn acts) >>= fun t => setField x 1 t) : Sem Unit)) (fun _ => Q) E p s := z
  rw [Sem.wp_bind'] at z ⊢
  exact frameOf_wp hC hL h0 hf z
theorem Rep.farX (D : Rep h₀ C.ext os dr h s) {i j : Nat} (l : i < j) : adr h.bs i ≠ adr h.bs j := by
  by_cases q : j ≤ h.m
  · exact D.inj i j l q
  · obtain ⟨k, c, r, e, le⟩ := D.seg
    have am : ∀ x, h.m ≤ x → adr h.bs x = adr h.bs h.m + (x - h.m) := fun x hx => by
      rw [e, adr_seg le, adr_seg (Nat.le_trans le hx)]; omega
    have aj := am j (by omega)
    by_cases q2 : i < h.m
    · have := D.bnd i q2
      rw [D.size] at this
      omega
    · have := am i (by omega)
      omega
theorem Rep.apart (D : Rep h₀ C.ext os dr h s) {i j : Nat} (l : Nat.beq i j = false) : adr h.bs i ≠ adr h.bs j := by
  have := Nat.ne_of_beq_eq_false l
  rcases Nat.lt_or_gt_of_ne this with q | q
  · exact D.farX q
  · exact (D.farX q).symm
theorem framesOf_pos {p' : Pos} : framesOf Γ p = framesOf Γ p' := by
  unfold framesOf
  rw [List.filter_cons, List.filter_cons]
  cases Γ.code.isFrame <;> rfl
theorem entry_pos {x head : Value} {f : Addr} {hn : Bool} {p' : Pos} : entry C x head f hn Γ p = entry C x head f hn Γ p' := by
  unfold entry
  rw [framesOf_pos (p' := p')]
theorem note_wp (hC : CfOk C M) (hl : ∀ a o, C.look a = some o → h₀.get? a = some o) (D : Rep h₀ C.ext os dr h s) {x : Value} {env : Env} {t : Sem Unit} {b' : Bk} (e : note C Γ p x env h b = some (t, b')) (ok : okb b') :
    okb b ∧ ∀ {Q : Pos → Shared → Prop} {E : Value → Pos → Shared → Prop}, Sem.wp M Γ t (fun _ => Q) E p s → Sem.wp M Γ (noteFrame x env) (fun _ => Q) E p s := by
  unfold note at e
  split at e
  · rename_i a
    split at e
    · rename_i f hf
      split at e
      · rename_i o b1 g1
        split at e
        · rename_i vs hv
          have hd : o.data = .fields vs := by
            unfold vals at hv
            split at hv
            · rename_i q; cases hv; exact q
            · cases hv
          split at e
          · rename_i head hh
            split at e
            · rename_i e0 r hL
              split at e
              · rename_i f0 h0
                split at e
                · -- no entry yet
                  cases e
                  obtain ⟨q, ok1⟩ := okb_say ok
                  obtain ⟨ho, ok2⟩ := got_at hl D g1 ok1
                  subst q
                  refine ⟨ok2, fun z => ?_⟩
                  rw [Z.noteFrameQ_eq]
                  unfold Z.noteFrameQ
                  rw [hf]
                  show Sem.wp M Γ (field (.ref a) 1 >>= _) _ _ p s
                  rw [Sem.wp_bind']
                  refine field_wp ho hd hh ?_
                  exact entry_wp hC hL h0 hf z
                · rename_i hd2
                  split at e
                  · rename_i o2 b2 g2
                    split at e
                    · rename_i vs2 hv2
                      have hdd : o2.data = .fields vs2 := by
                        unfold vals at hv2
                        split at hv2
                        · rename_i q; cases hv2; exact q
                        · cases hv2
                      split at e
                      · rename_i v hv3
                        -- what the real one does behind its two looks
                        have real : ∀ {Q : Pos → Shared → Prop} {E : Value → Pos → Shared → Prop}, s.heap.get? a = some o → s.heap.get? hd2 = some o2 →
                            Sem.wp M Γ (if (v == rawInt f) = true then pure () else setField (.ref hd2) 3 .none >>= fun _ => PySem.frameOf env >>= fun fr => stack >>= fun acts => newFields "traceback" [.ref hd2, fr, .none, rawInt f, .none, Z.cellQ 0 (Z.placeOf f true acts), Z.cellQ 1 (Z.placeOf f true acts), Z.cellQ 2 (Z.placeOf f true acts), Z.cellQ 3 (Z.placeOf f true acts), Z.cellQ 4 (Z.placeOf f true acts), Z.cellQ 5 (Z.placeOf f true acts)] >>= fun t => setField (.ref a) 1 t) (fun _ => Q) E p s →
                            Sem.wp M Γ (noteFrame (.ref a) env) (fun _ => Q) E p s := by
                          intro Q E ho ho2 z
                          rw [Z.noteFrameQ_eq]
                          unfold Z.noteFrameQ
                          rw [hf]
                          show Sem.wp M Γ (field (.ref a) 1 >>= _) _ _ p s
                          rw [Sem.wp_bind']
                          refine field_wp ho hd hh ?_
                          show Sem.wp M Γ (field (.ref hd2) 3 >>= _) _ _ p s
                          rw [Sem.wp_bind']
                          refine field_wp ho2 hdd hv3 ?_
                          dsimp only
                          cases q : (v == rawInt f) with
                          | true => rw [q] at z; exact z
                          | false => rw [q] at z; exact z
                        have diff : (v == rawInt f) = false → f0 = f → s.heap.get? a = some o → s.heap.get? hd2 = some o2 → ∀ {Q : Pos → Shared → Prop} {E : Value → Pos → Shared → Prop},
                            Sem.wp M Γ (C.bw (C.st (.ref hd2) 3 .none) fun _ => entry C (.ref a) (.ref hd2) f true Γ p) (fun _ => Q) E p s → Sem.wp M Γ (noteFrame (.ref a) env) (fun _ => Q) E p s := by
                          intro ne e0 ho ho2 Q E z
                          subst e0
                          refine real ho ho2 ?_
                          rw [ne, if_neg Bool.false_ne_true]
                          rw [hC.bw, hC.st] at z
                          have z : Sem.wp M Γ (setField (.ref hd2) 3 .none >>= fun _ => entry C (.ref a) (.ref hd2) f0 true Γ p) (fun _ => Q) E p s := z
                          rw [Sem.wp_bind'] at z ⊢
                          refine Sem.wp_mono _ _ _ (fun _ p' s' z => ?_) (fun _ _ _ h => h) _ _ z
                          rw [entry_pos (p' := p')] at z
                          rw [framesOf_pos (p' := p')] at hL
                          exact entry_wp hC hL h0 hf z
                        split at e
                        · cases e
                          obtain ⟨q, ok1⟩ := okb_say ok
                          obtain ⟨ho2, ok2⟩ := got_at hl D g2 ok1
                          obtain ⟨ho, ok3⟩ := got_at hl D g1 ok2
                          exact ⟨ok3, diff rfl q ho ho2⟩
                        · rename_i i tk
                          split at e
                          · rename_i a1
                            split at e
                            · split at e
                              · rename_i ht
                                cases e
                                obtain ⟨q, ok1⟩ := okb_say ok
                                obtain ⟨ho2, ok2⟩ := got_at hl D g2 (okb_pop ok1)
                                obtain ⟨ho, ok3⟩ := got_at hl D g1 ok2
                                refine ⟨ok3, fun z => real ho ho2 ?_⟩
                                have : tk = 0 := Nat.eq_of_beq_eq_true ht
                                subst this q
                                have : ((Value.int (Int.ofNat a1) 0) == rawInt a1) = true := by
                                  show ((Value.int (Int.ofNat a1) 0) == Value.int (Int.ofNat a1) 0) = true
                                  exact beq_self_eq_true _
                                rw [this, if_pos rfl]
                                exact z
                              · cases e
                            · split at e
                              · cases e
                              · rename_i hb
                                cases e
                                obtain ⟨q1, ok1⟩ := okb_say ok
                                obtain ⟨q2, ok1⟩ := okb_say ok1
                                obtain ⟨q3, ok1⟩ := okb_say ok1
                                obtain ⟨ho2, ok2⟩ := got_at hl D g2 (okb_pop (okb_pop (okb_pop ok1)))
                                obtain ⟨ho, ok3⟩ := got_at hl D g1 ok2
                                have ne : a1 ≠ f := by rw [q1, q2]; exact D.apart hb
                                refine ⟨ok3, diff ?_ q3 ho ho2⟩
                                refine beq_eq_false_iff_ne.mpr fun e => ne ?_
                                have e : Value.int (Int.ofNat a1) tk = Value.int (Int.ofNat f) 0 := e
                                injection e with e1 e2
                                injection e1
                          · cases e
                        · cases e
                      · cases e
                    · cases e
                  · cases e
                · cases e
              · cases e
            · cases e
          · cases e
        · cases e
      · cases e
    · cases e
  · cases e
end
end M9
end
section
open PySem PySem.W PySem.Calls PyProof.Rows PySem.Spec
namespace M9
theorem compLoop_pos {M : Model} {Γ : PySem.Ctx} {ex : Expr} {depth : Nat} {it acc : Value} {env : Env} {Q : Fin → Pos → Shared → Prop} {E : Value → Pos → Shared → Prop} {p p' : Pos} {s : Shared}
    (h : Sem.wp M Γ (compTurn ex depth it acc env) Q E p s) : Sem.wp M Γ (compTurn ex depth it acc env) Q E p' s := by
  unfold compTurn at h ⊢
  dsimp only at h ⊢
  cases ex <;> dsimp only at h ⊢ <;> first
    | exact h.elim
    | (split at h
       · rename_i g hg
         exact h
       · exact h.elim)
theorem compLoop_den {M : Model} {Γ : PySem.Ctx} {ex : Expr} {depth : Nat} {it acc : Value} {env : Env} {Q : Fin → Pos → Shared → Prop} {E : Value → Pos → Shared → Prop} {p p' : Pos} {s : Shared}
    (h : Sem.wp M Γ (denote table (.compLoop ex depth it acc env)) Q E p s) : Sem.wp M Γ (denote table (.compLoop ex depth it acc env)) Q E p' s := by
  have e : denote table (.compLoop ex depth it acc env) = if (Code.compLoop ex depth it acc env).isFrame = true then (compTurn ex depth it acc env).onRaise (leaving env) else (compTurn ex depth it acc env).onRaise (fun x => do noteFrame x env; theTreesLotGoes x) := rfl
  rw [e] at h ⊢
  split at h
  · rename_i q
    rw [if_pos q, Sem.wp_onRaise]
    rw [Sem.wp_onRaise] at h
    exact compLoop_pos h
  · rename_i q
    rw [if_neg q, Sem.wp_onRaise]
    rw [Sem.wp_onRaise] at h
    exact compLoop_pos h
theorem compStart_wp {prog : Program} {w : World} {Γ : PySem.Ctx} {ex : Expr} {depth : Nat} {a : Addr} {acc : Value} {env : Env} {R : Result → Shared → Prop} {E : Value → Pos → Shared → Prop} {p : Pos} {s : Shared} {o : Obj}
    (ha : ((clausesOf ex)[depth]?).elim false (fun g => g.is_async != 0) = false) (ho : s.heap.get? a = some o) (hi : itCls o)
    (h : ∀ p, wpCode (model prog w) (Γ.goto (.compLoop ex depth (.ref a) acc env)) R p s) : Sem.wp (model prog w) Γ (compStart ex depth (.ref a) acc env) (Sem.finPost (model prog w) Γ R) E p s := by
  have hq : (Code.compLoop ex depth (.ref a) acc env).quiet = true := rfl
  have last : ∀ p, Sem.wp (model prog w) Γ (pyIter (.ref a) >>= fun it => again (.compLoop ex depth it acc env)) (Sem.finPost (model prog w) Γ R) E p s := by
    intro p
    rw [Sem.wp_bind']
    refine wp_keepsPos (a := Value.ref a) (wp_of_any (Q := fun a' s' => a' = .ref a ∧ s' = s) (E := fun _ _ => False) (pyIter_self ho hi ⟨rfl, rfl⟩)) fun p' => ?_
    exact ⟨hq, h p'⟩
  unfold compStart
  rw [ha]
  simp only [Bool.false_eq_true, if_false]
  rw [Sem.wp_bind']
  show Sem.wp (model prog w) Γ (if (w.params.followText "comprehension-iter-twice") = true then _ else _ : Sem Fin) _ E p s
  cases hf : w.params.followText "comprehension-iter-twice" with
  | true =>
    rw [if_pos rfl]
    exact ⟨hq, h p⟩
  | false =>
    rw [if_neg Bool.false_ne_true]
    rw [Sem.wp_bind']
    cases hg : (clausesOf ex)[depth]? with
    | none => exact last p
    | some g => exact last _
theorem cmp_st {C : Cf} {M : Model} (hC : CfOk C M) {R : Result → Shared → Prop} {Γ : PySem.Ctx} {ex : PySem.Expr} {depth : Nat} {it acc : Value} {env : Env} {p : Pos} {s : Shared}
    (F : Conf M R Γ [.cmp (.compLoop ex depth it acc env) env] (C.ct ex depth it acc env) p s) : Conf M R Γ [] (denote table (.compLoop ex depth it acc env)) p s := by
  have F : Sem.wp M Γ (C.ct ex depth it acc env) (QE M Γ R [.cmp (.compLoop ex depth it acc env) env]).1 (QE M Γ R [.cmp (.compLoop ex depth it acc env) env]).2 p s := F
  rw [hC.ct] at F
  have e : denote table (.compLoop ex depth it acc env) = if (Code.compLoop ex depth it acc env).isFrame = true then (compTurn ex depth it acc env).onRaise (leaving env) else (compTurn ex depth it acc env).onRaise (fun x => do noteFrame x env; theTreesLotGoes x) := rfl
  unfold Conf
  rw [e]
  split
  · rename_i q
    rw [Sem.wp_onRaise]
    refine Sem.wp_mono _ _ _ (fun fin p s h => h) (fun x p s h => ?_) _ _ F
    have h : Sem.wp M Γ (if (Code.compLoop ex depth it acc env).isFrame then leaving env x else (do noteFrame x env; theTreesLotGoes x)) _ _ p s := h
    rw [if_pos q] at h
    exact h
  · rename_i q
    rw [Sem.wp_onRaise]
    refine Sem.wp_mono _ _ _ (fun fin p s h => h) (fun x p s h => ?_) _ _ F
    have h : Sem.wp M Γ (if (Code.compLoop ex depth it acc env).isFrame then leaving env x else (do noteFrame x env; theTreesLotGoes x)) _ _ p s := h
    rw [if_neg q] at h
    exact h
section
variable {C : Cf} {prog : Program} {w : World} {R : Result → Shared → Prop} {Γ : PySem.Ctx} {p : Pos} {κ : List K1} {l : List LF} {h : Hs} {b : Bk} {s : Shared} {h₀ : Heap} {os : OsState} {dr : Drawn}
variable (hC : CfOk C (model prog w)) (hI : ∀ o, C.isIt o = true → itCls o) (hl : ∀ a o, C.look a = some o → h₀.get? a = some o)
include hC hI hl
theorem start_st (D : Rep h₀ C.ext os dr h s) {S' : St} (e : (start C Γ p κ h b).st? = some S') (ok : okb S'.b) :
    (Full (model prog w) R S' s → Conf (model prog w) (KR (model prog w) R κ) Γ [] ((model prog w).den Γ.code) p s) ∧ S'.h = h ∧ okb b := by
  have plain : ∀ {b' : Bk} {S' : St}, Stp.st? (.go ⟨Γ, p, κ, [], C.den Γ.code, h, b'⟩) = some S' →
      (Full (model prog w) R S' s → Conf (model prog w) (KR (model prog w) R κ) Γ [] ((model prog w).den Γ.code) p s) ∧ S'.h = h ∧ S'.b = b' := by
    intro b' S' e
    cases e
    refine ⟨fun F => ?_, rfl, rfl⟩
    have F : Conf (model prog w) (KR (model prog w) R κ) Γ [] (C.den Γ.code) p s := F
    rw [hC.den] at F
    exact F
  have bod : ∀ (body : List Stmt) (env : Env), Γ.code = .func body env → Wf (model prog w) Γ (execs body env) (fun f => (QE (model prog w) Γ (KR (model prog w) R κ) [.fn env]).1 (.done f)) (QE (model prog w) Γ (KR (model prog w) R κ) [.fn env]).2 p s →
      Conf (model prog w) (KR (model prog w) R κ) Γ [] ((model prog w).den Γ.code) p s := by
    intro body env hc F
    rw [hc, hC.tab]
    unfold Conf
    show Sem.wp (model prog w) Γ ((execs body env).onRaise (leaving env) >>= fun f => match f with | .ret v => ret v | _ => ret .none) _ _ p s
    rw [Sem.wp_bind', Sem.wp_onRaise]
    refine Sem.wp_mono _ _ _ (fun f p s h => ?_) (fun x p s h => h) _ _ F
    cases f <;> exact h
  unfold start at e
  dsimp only at e
  split at e
  · rename_i body env hc
    split at e
    · obtain ⟨z1, z2, z3⟩ := plain e
      exact ⟨z1, z2, okb_pop (z3 ▸ ok)⟩
    · obtain ⟨z1, z2, z3⟩ := begin1_st hC (R := R) (s := s) e
      exact ⟨fun F => bod body env hc (z1 F), z2, okb_pop (z3 ok)⟩
  · rename_i body env hc
    split at e
    · obtain ⟨z1, z2, z3⟩ := plain e
      exact ⟨z1, z2, okb_pop (z3 ▸ ok)⟩
    · obtain ⟨z1, z2, z3⟩ := begin1_st hC (R := R) (s := s) e
      refine ⟨fun F => ?_, z2, okb_pop (z3 ok)⟩
      have F := z1 F
      rw [hc, hC.tab]
      unfold Conf
      show Sem.wp (model prog w) Γ ((execs body env).onRaise (fun x => do noteFrame x env; theTreesLotGoes x) >>= fun f => (Sem.pure (Fin.done f) : Sem Fin)) _ _ p s
      rw [Sem.wp_bind', Sem.wp_onRaise]
      exact Sem.wp_mono _ _ _ (fun f p s h => h) (fun x p s h => h) _ _ F
  · rename_i ex env hc
    split at e
    · obtain ⟨z1, z2, z3⟩ := plain e
      exact ⟨z1, z2, okb_pop (z3 ▸ ok)⟩
    · cases e
      refine ⟨fun F => ?_, rfl, okb_pop ok⟩
      have F : Sem.wp (model prog w) Γ (C.bx (C.ev ex env) fun v => .pure (.done (.ret v))) (QE (model prog w) Γ (KR (model prog w) R κ) [.fn env]).1 (QE (model prog w) Γ (KR (model prog w) R κ) [.fn env]).2 p s := F
      rw [hC.bx, hC.ev] at F
      have F : Sem.wp (model prog w) Γ (eval ex env >>= fun v => (.pure (.done (.ret v)) : Sem Fin)) (QE (model prog w) Γ (KR (model prog w) R κ) [.fn env]).1 (QE (model prog w) Γ (KR (model prog w) R κ) [.fn env]).2 p s := F
      rw [Sem.wp_bind'] at F
      rw [hc, hC.tab]
      unfold Conf
      show Sem.wp (model prog w) Γ ((eval ex env).onRaise (leaving env) >>= fun v => ret v) _ _ p s
      rw [Sem.wp_bind', Sem.wp_onRaise]
      exact Sem.wp_mono _ _ _ (fun f p s h => h) (fun x p s h => h) _ _ F
  · rename_i ex depth it acc env hc
    split at e
    · obtain ⟨z1, z2, z3⟩ := plain e
      exact ⟨z1, z2, okb_pop (z3 ▸ ok)⟩
    · split at e
      · cases e
      · rename_i ha
        split at e
        · rename_i a
          split at e
          · rename_i o b1 g
            split at e
            · rename_i hi
              cases e
              obtain ⟨ho, ok2⟩ := got_at hl D g ok
              refine ⟨fun F => ?_, rfl, okb_pop ok2⟩
              have F := cmp_st hC F
              have F' : ∀ p, wpCode (model prog w) (Γ.goto (.compLoop ex depth (.ref a) acc env)) (KR (model prog w) R κ) p s := by
                intro p'
                refine (Sem.wp_iff_runs (model prog w) (Γ.goto (.compLoop ex depth (.ref a) acc env)) _ _ p' s).mp ?_
                show Sem.wp (model prog w) _ ((model prog w).den (.compLoop ex depth (.ref a) acc env)) _ _ p' s
                rw [hC.tab]
                exact compLoop_den F
              rw [hc, hC.tab]
              unfold Conf
              have e1 : denote table (.compStart ex depth (.ref a) acc env) = if (Code.compStart ex depth (.ref a) acc env).isFrame = true then (compStart ex depth (.ref a) acc env).onRaise (leaving env) else (compStart ex depth (.ref a) acc env).onRaise (fun x => do noteFrame x env; standAt theWindowsPlace) := rfl
              rw [e1]
              split
              · rw [Sem.wp_onRaise]; exact compStart_wp ha ho (hI o hi) F'
              · rw [Sem.wp_onRaise]; exact compStart_wp ha ho (hI o hi) F'
            · cases e
          · cases e
        · cases e
  · rename_i ex depth it acc env hc
    cases e
    refine ⟨fun F => ?_, rfl, ok⟩
    rw [hc, hC.tab]
    exact cmp_st hC F
  · obtain ⟨z1, z2, z3⟩ := plain e
    exact ⟨z1, z2, z3 ▸ ok⟩
end
end M9
end
section
open PySem PySem.W PySem.Calls PyProof.Rows PySem.Spec
namespace M9
section
variable {C : Cf} {prog : Program} {w : World} {R : Result → Shared → Prop} {Γ : PySem.Ctx} {p : Pos} {κ : List K1} {l : List LF} {h : Hs} {b : Bk} {s : Shared} {h₀ : Heap} {os : OsState} {dr : Drawn}
variable (hC : CfOk C (model prog w)) (hI : ∀ o, C.isIt o = true → itCls o) (hl : ∀ a o, C.look a = some o → h₀.get? a = some o)
include hC
theorem leafOk_st {f : Flow} {S' : St} (e : (leafOk C f Γ p κ l h b).st? = some S') (ok : okb S'.b) :
    (Full (model prog w) R S' s → (QE (model prog w) Γ (KR (model prog w) R κ) l).1 (.done f) p s) ∧ S'.h = h ∧ okb b := by
  unfold leafOk at e
  split at e
  · split at e
    · cases e
    · cases e
      exact ⟨fun F => F, rfl, ok⟩
  · rename_i lf l
    split at e
    · rename_i rest env
      split at e
      · obtain ⟨z1, z2, z3⟩ := begin1_st hC (R := R) (s := s) e
        exact ⟨fun F => z1 F, z2, z3 ok⟩
      · rename_i hf
        cases e
        refine ⟨fun F => ?_, rfl, ok⟩
        cases f <;> first | exact absurd rfl hf | exact F
    · cases e
      exact ⟨fun F => F, rfl, ok⟩
    · cases e
      exact ⟨fun F => F, rfl, ok⟩
    · rename_i hs orelse env
      split at e
      · obtain ⟨z1, z2, z3⟩ := begin1_st hC (R := R) (s := s) e
        exact ⟨fun F => z1 F, z2, z3 ok⟩
      · rename_i hf
        cases e
        refine ⟨fun F => ?_, rfl, ok⟩
        cases f <;> first | exact absurd rfl hf | exact F
    · rename_i final env
      cases e
      refine ⟨fun F => ?_, rfl, ok⟩
      have F : Sem.wp (model prog w) Γ (C.bf (C.ro (.block final env) env none) (fun g => match g with | .next => .pure (.done f) | _ => .unsupported "no return in a last suite")) (QE (model prog w) Γ (KR (model prog w) R κ) l).1 (QE (model prog w) Γ (KR (model prog w) R κ) l).2 p s := F
      rw [hC.bf, hC.ro] at F
      have F : Sem.wp (model prog w) Γ (runOwn (.block final env) env none >>= (fun g => match g with | .next => .pure (.done f) | _ => .unsupported "no return in a last suite")) (QE (model prog w) Γ (KR (model prog w) R κ) l).1 (QE (model prog w) Γ (KR (model prog w) R κ) l).2 p s := F
      rw [Sem.wp_bind'] at F
      show Wf (model prog w) Γ (lastOk f final env) (fun f => (QE (model prog w) Γ (KR (model prog w) R κ) l).1 (.done f)) (QE (model prog w) Γ (KR (model prog w) R κ) l).2 p s
      unfold Wf lastOk
      rw [Sem.wp_bind', Sem.wp_holding]
      refine Sem.wp_mono _ _ _ (fun g p s F => ?_) (fun _ _ _ h => h) _ _ F
      cases g <;> first | exact F | exact F.elim
    · cases e
      exact ⟨fun F => F, rfl, ok⟩
include hl in
theorem leafErr_st (D : Rep h₀ C.ext os dr h s) {x : Value} {S' : St} (e : (leafErr C x Γ p κ l h b).st? = some S') (ok : okb S'.b) :
    (Full (model prog w) R S' s → (QE (model prog w) Γ (KR (model prog w) R κ) l).2 x p s) ∧ S'.h = h ∧ okb b := by
  unfold leafErr at e
  split at e
  · split at e
    · cases e
    · cases e
      exact ⟨fun F => F, rfl, ok⟩
  · rename_i lf l
    split at e
    · cases e
    rename_i hcm
    split at e
    · rename_i hn
      cases e
      refine ⟨fun F => ?_, rfl, ok⟩
      cases lf <;> first | exact F | (cases hn; done) | (cases hcm; done)
    · rename_i env hn
      split at e
      · rename_i t b1 hnote
        cases e
        obtain ⟨ok1, nt⟩ := note_wp hC hl D hnote ok
        refine ⟨fun F => ?_, rfl, ok1⟩
        have F : Sem.wp (model prog w) Γ (C.bu t fun _ => behind C x lf) (QE (model prog w) Γ (KR (model prog w) R κ) l).1 (QE (model prog w) Γ (KR (model prog w) R κ) l).2 p s := F
        rw [hC.bu] at F
        have F : Sem.wp (model prog w) Γ (t >>= fun _ => behind C x lf) (QE (model prog w) Γ (KR (model prog w) R κ) l).1 (QE (model prog w) Γ (KR (model prog w) R κ) l).2 p s := F
        rw [Sem.wp_bind'] at F
        have F := nt F
        cases lf with
        | seq => cases hn
        | fn env' =>
          cases hn
          show Sem.wp (model prog w) Γ (leaving env x) (fun _ => (QE (model prog w) Γ (KR (model prog w) R κ) l).2 x) (QE (model prog w) Γ (KR (model prog w) R κ) l).2 p s
          unfold leaving
          rw [Sem.wp_bind']
          refine Sem.wp_mono _ _ _ (fun _ p s F => ?_) (fun _ _ _ h => h) _ _ F
          unfold behind at F
          rw [hC.bu, hC.sf] at F
          have F : Sem.wp (model prog w) Γ (setFlight x none >>= fun _ => (.raise x : Sem Fin)) (QE (model prog w) Γ (KR (model prog w) R κ) l).1 (QE (model prog w) Γ (KR (model prog w) R κ) l).2 p s := F
          rw [Sem.wp_bind'] at F
          exact F
        | blk env' =>
          cases hn
          show Sem.wp (model prog w) Γ (noteFrame x env >>= fun _ => theTreesLotGoes x) (fun _ => (QE (model prog w) Γ (KR (model prog w) R κ) l).2 x) (QE (model prog w) Γ (KR (model prog w) R κ) l).2 p s
          rw [Sem.wp_bind']
          refine Sem.wp_mono _ _ _ (fun _ p s F => ?_) (fun _ _ _ h => h) _ _ F
          unfold behind at F
          rw [hC.bu, hC.tt] at F
          have F : Sem.wp (model prog w) Γ (theTreesLotGoes x >>= fun _ => (.raise x : Sem Fin)) (QE (model prog w) Γ (KR (model prog w) R κ) l).1 (QE (model prog w) Γ (KR (model prog w) R κ) l).2 p s := F
          rw [Sem.wp_bind'] at F
          exact F
        | tryH hs orelse env' =>
          cases hn
          show Wf (model prog w) Γ (mainErr x hs env) (fun f => (QE (model prog w) Γ (KR (model prog w) R κ) l).1 (.done f)) (QE (model prog w) Γ (KR (model prog w) R κ) l).2 p s
          unfold Wf mainErr
          rw [Sem.wp_bind']
          refine Sem.wp_mono _ _ _ (fun _ p s F => ?_) (fun _ _ _ h => h) _ _ F
          cases hs with
          | nil => exact F
          | cons h1 hs =>
            unfold behind at F
            dsimp only at F ⊢
            rw [hC.bu, hC.sf, hC.bf, hC.hb] at F
            have F : Sem.wp (model prog w) Γ (setFlight x none >>= fun _ => handleBy x env (h1 :: hs) >>= fun f => (.pure (.done f) : Sem Fin)) (QE (model prog w) Γ (KR (model prog w) R κ) l).1 (QE (model prog w) Γ (KR (model prog w) R κ) l).2 p s := F
            rw [Sem.wp_bind'] at F ⊢
            refine Sem.wp_mono _ _ _ (fun _ p s F => ?_) (fun _ _ _ h => h) _ _ F
            rw [Sem.wp_bind'] at F
            exact F
        | tryF final env' =>
          cases hn
          show Wf (model prog w) Γ (lastErr x final env) (fun f => (QE (model prog w) Γ (KR (model prog w) R κ) l).1 (.done f)) (QE (model prog w) Γ (KR (model prog w) R κ) l).2 p s
          unfold Wf lastErr
          rw [Sem.wp_bind']
          refine Sem.wp_mono _ _ _ (fun _ p s F => ?_) (fun _ _ _ h => h) _ _ F
          unfold behind at F
          dsimp only at F
          rw [hC.bu, hC.sf, hC.bf] at F
          have F : Sem.wp (model prog w) Γ (setFlight x none >>= fun _ => C.ro (.block final env) env (some x) >>= fun f => match f with | .next => (C.po x env >>= fun f => (.pure (.done f) : Sem Fin)) | _ => .unsupported "no return in a last suite") (QE (model prog w) Γ (KR (model prog w) R κ) l).1 (QE (model prog w) Γ (KR (model prog w) R κ) l).2 p s := F
          rw [Sem.wp_bind'] at F ⊢
          refine Sem.wp_mono _ _ _ (fun _ p s F => ?_) (fun _ _ _ h => h) _ _ F
          rw [hC.ro, Sem.wp_bind'] at F
          rw [Sem.wp_bind', Sem.wp_holding]
          refine Sem.wp_mono _ _ _ (fun g p s F => ?_) (fun _ _ _ h => h) _ _ F
          cases g with
          | next =>
            have F : Sem.wp (model prog w) Γ (C.po x env >>= fun f => (.pure (.done f) : Sem Fin)) (QE (model prog w) Γ (KR (model prog w) R κ) l).1 (QE (model prog w) Γ (KR (model prog w) R κ) l).2 p s := F
            rw [hC.po, Sem.wp_bind'] at F
            exact F
          | _ => exact F.elim
        | cmp => cases hn
      · cases e
end
end M9
end
section
open PySem PySem.W PySem.Calls PyProof.Rows PySem.Spec
set_option pp.maxSteps 600
set_option linter.deprecated false
namespace M9
theorem slot_ba_init : Slot "bytearray" "__init__" "bytearray.__init__" :=
  .of (owner := "bytearray") (n := "__init__") (by rw [typeLookup_type, builtinLookup_eq_fast]; kernel_rfl) (by decide +kernel) (by decide +kernel) (by decide +kernel)
    (by first | exact .inl (by decide +kernel) | exact .inr (by decide +kernel)) (by rw [isSubtype_type]; kernel_rfl)
theorem entry_ba_init : entryFor table "bytearray.__init__" = some Builtin.«bytearray.__init__» := entryFor_of_tree (by kernel_rfl)
theorem args_ba_init (a b : Value) : argsOk "bytearray.__init__" ⟨[a, b], []⟩ := by unfold argsOk; kernel_rfl
theorem ba_release : typeLookup (.type "bytearray") "__release_buffer__" = pure (some (.builtin "bytearray.__release_buffer__")) := by rw [typeLookup_type, builtinLookup_eq_fast]; kernel_rfl
theorem ba_sub : isSubtype (.type "bytearray") (.type "bytearray") = pure true := by rw [isSubtype_type]; kernel_rfl
noncomputable def wpAt {α : Type} (M : Model) (Γ : PySem.Ctx) (t : Sem α) (Q : α → Shared → Prop) (s : Shared) : Prop := ∀ p, Sem.wp M Γ t (fun a _ s' => Q a s') (fun _ _ _ => False) p s
section
variable {M : Model} {Γ : PySem.Ctx} {s : Shared} {α β : Type}
theorem wpAt_bind {m : Sem α} {f : α → Sem β} {Q : β → Shared → Prop} (h : wpAt M Γ m (fun a s' => wpAt M Γ (f a) Q s') s) : wpAt M Γ (m >>= f) Q s := fun p => by
  rw [Sem.wp_bind']
  exact Sem.wp_mono _ _ _ (fun a p' s' h => h p') (fun _ _ _ h => h) _ _ (h p)
theorem wpAt_any {t : Sem α} {Q : α → Shared → Prop} (h : wpAny M (aroundOf Γ) t Q (fun _ _ => False) s) : wpAt M Γ t Q s := fun _ => wp_of_any h
theorem wpAt_pure {a : α} {Q : α → Shared → Prop} (h : Q a s) : wpAt M Γ (pure a) Q s := fun _ => h
end
noncomputable def exF (self : Value) : Code × Pos → Bool
  | (.builtin "bytearray.__contains__" ⟨v :: _, _⟩, _) | (.builtin "bytearray.__mod__" ⟨v :: _, _⟩, _)
  | (.builtin "bytearray.__rmod__" ⟨_ :: v :: _, _⟩, _) | (.builtin "_struct.pack_into.held" ⟨v :: _, _⟩, _) => Builtin.Bytes.sameRef v self
  | (.builtin "bytearray.find.held" ⟨_ :: _ :: held, _⟩, _) => held.any (Builtin.Bytes.sameRef self)
  | (.builtin id ⟨v :: _, _⟩, _) => Builtin.Bytes.sameRef v self && Builtin.Bytes.decodersThatHold.contains id
  | _ => false
theorem exported_eq (self : Value) : Builtin.Bytes.exported self = (stack >>= fun st => pure (st.any (exF self))) := by
  unfold Builtin.Bytes.exported
  rfl
noncomputable def baO (b : List UInt8) : Obj := ⟨.type "bytearray", none, .bytearray ⟨b⟩ 0, ⟨[]⟩⟩
theorem ba_body {M : Model} {Γ : PySem.Ctx} {s : Shared} {a : Addr} {t : Nat} {Q : Value → Shared → Prop} (ho : s.heap.get? a = some (baO [])) (hx : ∀ p, (((Γ.code, p) :: Γ.below).any (exF (.ref a))) = false)
    (h : Q .none { s with heap := (s.heap.update a baF1).update a baF2 }) :
    wpAt M Γ (Builtin.«bytearray.__init__» ⟨[.ref a, .int 3 t], []⟩) (fun fin s' => ∃ v, fin = .done (.ret v) ∧ Q v s') s := by
  have hT : s.TypeIs (.ref a) "bytearray" := ⟨_, ho, rfl⟩
  unfold Builtin.«bytearray.__init__»
  refine wpAt_bind (m := Builtin.Bytes.ownRelease (.ref a)) ?_
  · refine wpAt_any ?_
    unfold Builtin.Bytes.ownRelease Builtin.Bytes.slotIsOwn
    refine wpAny_bind (wpAny_bind (wpAny_specialOf hT ba_release ?_))
    dsimp only
    rw [if_neg (by decide +kernel)]
    rw [show ("bytearray.__release_buffer__".dropRight ("__release_buffer__".length + 1)) = "bytearray" by decide +kernel]
    refine wpAny_isInstance hT ba_sub ?_
    refine wpAny_pure ?_
    refine wpAt_bind (wpAt_any (wpAny_of_eq (a := [some (.int 3 t), none, none]) (by rfl) ?_))
    dsimp only
    refine wpAt_bind (wpAt_any (wpAny_of_eq (a := ()) (by rfl) ?_))
    refine wpAt_bind (wpAt_any (wpAny_of_eq (a := ()) (by rfl) ?_))
    refine wpAt_bind ?_
    unfold orM
    rw [exported_eq]
    refine wpAt_bind (wpAt_bind (fun p => ?_))
    show wpAt _ _ _ _ _
    refine wpAt_pure ?_
    rw [hx p]
    refine wpAt_any ?_
    refine wpAny_bind ?_
    · show wpAny _ _ (load a >>= fun o => match o.data with | .bytearray _ n => pure n | _ => pure 0) _ _ s
      refine wpAny_bind (wpAny_load ho (wpAny_pure ?_))
      refine wpAny_pure ?_
      rw [if_neg (by decide)]
      refine wpAt_any ?_
      refine wpAny_bind ?_
      · show wpAny _ _ (updateBytearray a fun _ => #[]) _ _ s
        unfold updateBytearray
        refine wpAny_bind (wpAny_load ho ?_)
        refine wpAny_bind (wpAny_update ho ?_)
        have h1 : (s.heap.update a baF1).get? a = some (baO []) := Heap.get?_update_self _ ho rfl
        refine wpAny_lookBehind (o := baO []) h1 rfl ?_
        refine wpAny_bind (wpAny_of_eq (a := none) (by rfl) ?_)
        rw [if_neg (by decide)]
        rw [if_neg (by decide), if_neg (by decide)]
        refine wpAny_bind (wpAny_pure ?_)
        refine wpAny_bind (wpAny_specialOf (T := "int") (typeIs_int _ 3 t) int_index ?_)
        rw [if_pos (by decide)]
        refine wpAny_bind (wpAny_attempt (wpAny_of_eq (a := (3 : Int)) (by rfl) ?_))
        dsimp only
        rw [if_neg (by decide), if_neg (by decide), if_neg (by decide), if_neg (by decide)]
        refine wpAny_bind (wpAny_rule ?_)
        rw [if_pos (by decide)]
        refine wpAny_bind ?_
        show wpAny _ _ (updateBytearray a fun _ => Array.replicate (3 : Int).toNat 0) _ _ _
        unfold updateBytearray
        refine wpAny_bind (wpAny_load h1 ?_)
        refine wpAny_bind (wpAny_update h1 ?_)
        refine wpAny_lookBehind (o := baO [0, 0, 0]) (Heap.get?_update_self _ h1 rfl) rfl ?_
        exact wpAny_pure ⟨_, rfl, h⟩
section
variable {C : Cf} {prog : Program} {w : World} {Γ : PySem.Ctx} {p : Pos} {h : Hs} {b : Bk} {s : Shared} {h₀ : Heap} {os : OsState} {dr : Drawn}
theorem Rep.tick {E₁ : DL} (D : Rep h₀ E₁ os dr h s) : Rep h₀ E₁ os dr (M9.tick h) { s with toks := s.toks + 1 } :=
  ⟨D.size, D.seg, D.inj, D.bnd, D.low, D.own, D.D, D.keep, by show s.toks + 1 = h.tb + (h.i + 1); rw [D.toks]; omega, D.gens, D.os, D.dr, D.ext⟩
theorem enter_call {M : Model} {f : Value} {vs : List Value} {Q : Value → Shared → Prop} (h : wpAny M (aroundOf Γ) (PySem.call f vs) Q (fun _ _ => False) s) :
    wpCode M (Γ.enter (.call f ⟨vs, []⟩) none p) (fun r s' => ∃ v, r = .ok (.ret v) ∧ Q v s') p s := by
  have z := wp_of_any (p := p) h
  have z : Sem.wp M Γ (runValue (.call f ⟨vs, []⟩)) (fun a _ s' => Q a s') (fun _ _ _ => False) p s := z
  unfold runValue at z
  rw [Sem.wp_bind'] at z
  obtain ⟨r, s', hr, h2⟩ := z
  refine ⟨r, s', hr, ?_⟩
  cases r with
  | error e => exact (h2 : False).elim
  | ok fl =>
    cases fl with
    | ret v => exact ⟨v, rfl, h2⟩
    | _ => exact (h2 : False).elim
theorem isS_eq (hC : CfOk C (model prog w)) {a x : String} (e : isS C a x = true) : a = x := by
  unfold isS at e
  rw [hC.se] at e
  exact of_decide_eq_true e
theorem inS_no (hC : CfOk C (model prog w)) {a : String} : ∀ {l : List String}, inS C a l = false → a ∉ l
  | [], _ => List.not_mem_nil
  | x :: l, e => by
    unfold inS at e
    rw [hC.se] at e
    by_cases q : a = x
    · rw [decide_eq_true q] at e; cases e
    · rw [decide_eq_false q] at e
      exact fun m => (List.mem_cons.mp m).elim q (inS_no hC e)
theorem exF_no {v : Value} {id : String} {args : Args} {q : Pos} (h : id ∉ exIds) : exF v (.builtin id args, q) = false := by
  have hd : Builtin.Bytes.decodersThatHold.contains id = false := by
    rw [List.contains_eq_mem]
    exact decide_eq_false fun m => h (List.mem_append_right _ m)
  unfold exF
  split
  all_goals first
    | (exfalso; rename_i e; injection e with e1 e2; injection e1 with e3 e4; exact h (e3 ▸ (by decide)))
    | rfl
    | (rename_i e; injection e with e1 e2; injection e1 with e3 e4; subst e3; rw [hd, Bool.and_false])
theorem noExp_no (hC : CfOk C (model prog w)) {v : Value} : ∀ {l : List (Code × Pos)}, noExp C l = true → l.any (exF v) = false
  | [], _ => rfl
  | (c, q) :: l, e => by
    unfold noExp at e
    rw [List.any_cons]
    split at e
    · rename_i id args hc
      cases hin : inS C id exIds with
      | true => rw [hin] at e; cases e
      | false =>
        rw [hin] at e
        have hc : c = .builtin id args := hc
        subst hc
        rw [exF_no (inS_no hC hin), noExp_no hC e]; rfl
    · rename_i hc
      rw [noExp_no hC e]
      have : exF v (c, q) = false := by
        unfold exF
        split
        all_goals first
          | (exfalso; rename_i e; injection e with e1 e2; exact hc _ _ e1)
          | rfl
      rw [this]; rfl
theorem hashInt_small {n : Nat} (h : n ≤ 1000) : hashInt (Int.ofNat n) = Int.ofNat n := by
  have e : rawHash (Int.ofNat n) = Int.ofNat n := by
    have h2 : (Int.ofNat n).natAbs % (2 ^ 61 - 1) = n := by
      show n % (2 ^ 61 - 1) = n
      exact Nat.mod_eq_of_lt (by omega)
    have h3 : ¬ (Int.ofNat n < 0) := by
      show ¬ ((n : Int) < 0)
      omega
    simp only [rawHash, h3, if_false]
    first
      | rfl
      | (simp only [Int.ofNat_eq_natCast, beq_iff_eq]
         rw [show ((n : Int).natAbs % (2 ^ 61 - 1) : Nat) = n from h2]
         rw [if_neg (by omega)])
      | (simp
         rw [show ((n : Int) % 2305843009213693951) = (n : Int) by omega, if_neg (by omega)])
  unfold hashInt
  rw [e, if_neg]
  intro q
  have q := beq_iff_eq.mp q
  have : (n : Int) = -1 := q
  omega
theorem intsD_ok : ∀ {l : List DictEntry} {r : List (Nat × Value)}, intsD l = some r →
    (∀ e ∈ l, ∃ k, Value.isInt k e.key = true ∧ e.hash = hashInt k) ∧ ∀ n, ((l.find? fun e => Value.isInt (Int.ofNat n) e.key).map (·.val)).getD .none = findN r n
  | [], r, e => by cases e; exact ⟨fun _ h => (List.not_mem_nil h).elim, fun _ => rfl⟩
  | d :: l, r, e => by
    unfold intsD at e
    split at e
    · rename_i i tk hk
      split at e
      · rename_i m
        split at e
        · rename_i hm
          split at e
          · rename_i q hq
            split at e
            · rename_i hqm
              split at e
              · rename_i r' hr
                cases e
                obtain ⟨z1, z2⟩ := intsD_ok hr
                have hqm := Nat.eq_of_beq_eq_true hqm
                refine ⟨fun x hx => ?_, fun n => ?_⟩
                · rcases List.mem_cons.mp hx with rfl | hx
                  · exact ⟨Int.ofNat m, by rw [hk]; simp [Value.isInt], by rw [hq, hqm, hashInt_small (Nat.le_of_ble_eq_true hm)]⟩
                  · exact z1 x hx
                · rw [List.find?_cons]
                  show _ = (match Nat.beq m n with | true => d.val | false => findN r' n)
                  rw [BT.beq_eq]
                  by_cases e : m = n
                  · subst e
                    simp [hk, Value.isInt]
                  · have : Value.isInt (Int.ofNat n) d.key = false := by
                      rw [hk]
                      show (Int.ofNat m == Int.ofNat n) = false
                      exact beq_eq_false_iff_ne.mpr fun q => e (Int.ofNat.inj q)
                    rw [this, decide_eq_false e]
                    exact z2 n
              · cases e
            · cases e
          · cases e
        · cases e
      · cases e
    · cases e
theorem exact_of {o : Obj} {n : String} (hc : clsS o = n) (hn : noSlots o = true) (h : n ≠ "") : o.cls = .type n ∧ o.dict = none ∧ o.slots = #[] := by
  obtain ⟨cls, dct, dat, sl⟩ := o
  refine ⟨?_, ?_, ?_⟩
  · unfold clsS at hc
    dsimp only at hc ⊢
    split at hc
    · rw [hc]
    · exact absurd hc.symm h
  · unfold noSlots at hn
    dsimp only at hn ⊢
    split at hn
    · rfl
    · cases hn
  · unfold noSlots at hn
    dsimp only at hn ⊢
    split at hn
    · split at hn
      · rename_i q
        obtain ⟨sl⟩ := sl
        exact congrArg Array.mk q
      · cases hn
    · cases hn
theorem ba_code {M : Program} {w : World} {a : Addr} {t : Nat} {R : Result → Shared → Prop} (ho : s.heap.get? a = some (baO [])) (hx : (((Γ.code, p) :: Γ.below).any (exF (.ref a))) = false)
    (h : R (.ok (.ret .none)) { s with heap := (s.heap.update a baF1).update a baF2 }) : wpCode (model M w) (Γ.enter (.call (.builtin "bytearray.__init__") ⟨[.ref a, .int (Int.ofNat 3) t], []⟩) none p) R p s := by
  have hT : s.TypeIs (.ref a) "bytearray" := ⟨_, ho, rfl⟩
  generalize hg : Γ.enter (.call (.builtin "bytearray.__init__") ⟨[.ref a, .int (Int.ofNat 3) t], []⟩) none p = g
  have hgc : g.code = .call (.builtin "bytearray.__init__") ⟨[.ref a, .int (Int.ofNat 3) t], []⟩ := by rw [← hg]; rfl
  have hgb : g.below = (Γ.code, p) :: Γ.below := by rw [← hg]; rfl
  refine (Sem.wp_iff_runs (model M w) g _ _ p s).mp ?_
  rw [hgc]
  show Sem.wp (model M w) g (checkBuiltinCall "bytearray.__init__" ⟨[.ref a, .int (Int.ofNat 3) t], []⟩ >>= fun _ => again (.builtin "bytearray.__init__" ⟨[.ref a, .int (Int.ofNat 3) t], []⟩)) _ _ p s
  rw [Sem.wp_bind']
  have z := wp_of_any (Γ := g) (p := p) (slot_ba_init.check (model M w) (aroundOf g) (fun _ _ => False) s (.ref a) [.int (Int.ofNat 3) t] [] (fun _ s' => s' = s) hT (args_ba_init _ _) rfl)
  refine Sem.wp_mono _ _ _ (fun u p' s' q => ?_) (fun _ _ _ q => q.elim) _ _ z
  subst q
  refine ⟨plainId_quiet slot_ba_init.plain _, ?_⟩
  refine (Sem.wp_iff_runs (model M w) (g.goto _) _ _ p' s').mp ?_
  show Sem.wp (model M w) _ (match entryFor table "bytearray.__init__" with | some b => b ⟨[.ref a, .int (Int.ofNat 3) t], []⟩ | none => unsupported ((withoutEnding? "bytearray.__init__" "#data").getD "bytearray.__init__")) _ _ p' s'
  rw [entry_ba_init]
  have y := ba_body (M := model M w) (Γ := g.goto (.builtin "bytearray.__init__" ⟨[.ref a, .int (Int.ofNat 3) t], []⟩)) (t := t) (Q := fun v s2 => R (.ok (.ret v)) s2) ho (fun q => ?_) h p'
  · refine Sem.wp_mono _ _ _ (fun fin p2 s2 q => ?_) (fun _ _ _ q => q.elim) _ _ y
    obtain ⟨v, rfl, q⟩ := q
    exact q
  · show List.any ((.builtin "bytearray.__init__" ⟨[.ref a, .int (Int.ofNat 3) t], []⟩, q) :: g.below) (exF (.ref a)) = false
    rw [hgb, List.any_cons, hx, exF_no (by decide +kernel)]
    rfl
theorem idxN_ok : ∀ {l : List DictEntry} {r : List (Nat × Value)} {n k : Nat}, intsD l = some r → idxN r n = some k → (l.findIdx? fun e => Value.isInt (Int.ofNat n) e.key) = some k ∧ ∃ e, l[k]? = some e
  | [], r, n, k, h, e => by cases h; cases e
  | d :: l, r, n, k, h, e => by
    unfold intsD at h
    split at h
    · rename_i i tk hkey
      split at h
      · rename_i m
        split at h
        · split at h
          · split at h
            · split at h
              · rename_i r' hr
                cases h
                unfold idxN at e
                dsimp only at e
                rw [BT.beq_eq] at e
                by_cases q : m = n
                · rw [decide_eq_true q] at e
                  cases e
                  subst q
                  refine ⟨?_, d, rfl⟩
                  rw [List.findIdx?_cons, hkey]
                  simp [Value.isInt]
                · rw [decide_eq_false q] at e
                  dsimp only at e
                  split at e
                  · rename_i k' hk'
                    cases e
                    obtain ⟨z1, x, z2⟩ := idxN_ok hr hk'
                    refine ⟨?_, x, z2⟩
                    have : Value.isInt (Int.ofNat n) d.key = false := by
                      rw [hkey]
                      show (Int.ofNat m == Int.ofNat n) = false
                      exact beq_eq_false_iff_ne.mpr fun q' => q (Int.ofNat.inj q')
                    rw [List.findIdx?_cons, this, z1]
                    rfl
                  · cases e
              · cases h
            · cases h
          · cases h
        · cases h
      · cases h
    · cases h
theorem slot_dict_delitem' : Slot "dict" "__delitem__" "dict.__delitem__" :=
  .of (owner := "dict") (n := "__delitem__") (by rw [typeLookup_type, builtinLookup_eq_fast]; kernel_rfl) (by decide +kernel) (by decide +kernel) (by decide +kernel)
    (by first | exact .inl (by decide +kernel) | exact .inr (by decide +kernel)) (by rw [isSubtype_type]; kernel_rfl)
theorem entry_dict_delitem' : entryFor table "dict.__delitem__" = some Builtin.«dict.__delitem__» := entryFor_of_tree (by kernel_rfl)
theorem args_dict_delitem' (a b : Value) : argsOk "dict.__delitem__" ⟨[a, b], []⟩ := by unfold argsOk; kernel_rfl
theorem del_wp {A : Around} {d : Addr} {o : Obj} {es : Array DictEntry} {ep n k tk : Nat} {r : List (Nat × Value)} {Q : Value → Shared → Prop} (ho : s.heap.get? d = some o) (hc : o.cls = .type "dict") (hd : o.data = .dict es ep)
    (hr : intsD es.toList = some r) (hi : idxN r n = some k) (hz : es.toList.length ≤ 1000)
    (h : Q .none { s with heap := s.heap.update d (delF k), toks := s.toks + 1 }) : wpAny (model prog w) A (PySem.call (.builtin "dict.__delitem__") [.ref d, .int (Int.ofNat n) tk]) Q (fun _ _ => False) s := by
  obtain ⟨z1, z2⟩ := intsD_ok hr
  obtain ⟨y1, e, y2⟩ := idxN_ok hr hi
  have hT : s.TypeIs (.ref d) "dict" := ⟨o, ho, hc⟩
  refine wpAny_call_entry slot_dict_delitem' hT entry_dict_delitem' ?_ (args_dict_delitem' _ _)
  have hk : KeysOf (intKind prog w) es := fun x hx => z1 x (by simpa using hx)
  have hf : (es.findIdx? fun e => (intKind prog w).is (Int.ofNat n) e.key) = some k := by
    rw [← y1]
    obtain ⟨l⟩ := es
    simp [intKind]
  have he : es[k]? = some e := by rw [← y2]; obtain ⟨l⟩ := es; simp
  have hlt := at_objs ho
  unfold Builtin.«dict.__delitem__»
  refine wpAny_bind ?_
  unfold Builtin.Dict.dictSlotArgs
  refine wpAny_bind (wpAny_notOrdered_dict hT ?_)
  show wpAny _ _ (pure (Value.ref d, Value.int (Int.ofNat n) tk)) _ _ s
  refine wpAny_pure ?_
  show wpAny _ _ (Builtin.Dict.takeOut d (.int (Int.ofNat n) tk) >>= _) _ _ s
  refine wpAny_bind ?_
  unfold Builtin.Dict.takeOut
  try with_reducible refine wpAny_holding ?_
  refine wpAny_bind ((intKind prog w).pyHash (k := Int.ofNat n) (intKind_is prog w _ tk) ?_)
  refine wpAny_bind (wpAny_dictFind_of (knd := intKind prog w) (k := Int.ofNat n) (s := { s with toks := s.toks + 1 }) (intKind_is prog w _ tk) ho hd hk ?_)
  rw [hf]
  refine wpAny_bind (wpAny_dictEntries (s := { s with toks := s.toks + 1 }) ho hd ?_)
  rw [he]
  refine wpAny_bind (wpAny_updateDictKeys (s := { s with toks := s.toks + 1 }) ho hd (wpAny_pure ?_) (by have : es.size = es.toList.length := by simp
                                                                                                         have : sizeLine = 16777216 := by rw [sizeLine_eq]
                                                                                                         omega) (by obtain ⟨l⟩ := es; simp; exact Nat.le_succ_of_le (List.length_eraseIdx_le l k)))
  have up : s.heap.update d (Obj.mapDictKeys (·.eraseIdxIfInBounds k)) = s.heap.update d (delF k) := by
    refine upd_same ho ?_
    obtain ⟨cls, dct, dat, sl⟩ := o
    dsimp only at hd
    subst hd
    obtain ⟨l⟩ := es
    simp [Obj.mapDictKeys, delF]
  refine wpAny_bind (wpAny_letGo (wpAny_pure ⟨.none, rfl, ?_⟩))
  show Q .none { s with heap := s.heap.update d (Obj.mapDictKeys (·.eraseIdxIfInBounds k)), toks := s.toks + 1 }
  rw [up]
  exact h
theorem delF_ok {k : Nat} {o : Obj} {es : Array DictEntry} {ep : Nat} (hd : o.data = .dict es ep) : (delF k o).isFreed = false := by
  obtain ⟨cls, dct, dat, sl⟩ := o
  dsimp only at hd
  subst hd
  exact Obj.isFreed_of_dict (es := _) (ep := _) rfl
theorem seqOf_ok (hC : CfOk C (model prog w)) {n : String} {o : Obj} {xs : List Value} (hn : n ≠ "") (e : seqOf C n o = some xs) : o.cls = .type n ∧ ∃ k, o.data = .seq ⟨xs⟩ k := by
  unfold seqOf at e
  split at e
  · rename_i h
    have h := isS_eq hC h
    split at e
    · rename_i ys k hd
      cases e
      refine ⟨?_, k, hd⟩
      unfold clsS at h
      split at h
      · rename_i q; rw [q, h]
      · exact absurd h.symm hn
    · cases e
  · cases e
open PySem.SeqAt in
theorem eq_nat {A : Around} {m t u : Nat} : EqAt A s (.int (Int.ofNat m) t) (.int (Int.ofNat m) u) true := by
  have := EqAt.int_int (A := A) (s := s) (Int.ofNat m) t (Int.ofNat m) u
  rw [beq_self_eq_true] at this
  exact this
open PySem.SeqAt in
theorem eqVs_ok {A : Around} : ∀ {xs ys : List Value} {b b' : Bk}, eqVs xs ys b = some b' → okb b' → okb b ∧ xs.length = ys.length ∧ ∀ (j : Nat) (h1 : j < xs.length) (h2 : j < ys.length), EqAt A s xs[j] ys[j] true
  | [], [], b, b', e, ok => by cases e; exact ⟨ok, rfl, fun j h => (Nat.not_lt_zero _ h).elim⟩
  | [], _ :: _, b, b', e, ok => by cases e
  | _ :: _, [], b, b', e, ok => by cases e
  | v :: xs, u :: ys, b, b', e, ok => by
    have step : ∀ {b1 : Bk}, (okb b1 → okb b) → (okb b1 → EqAt A s v u true) → eqVs xs ys b1 = some b' → okb b ∧ (v :: xs).length = (u :: ys).length ∧ ∀ (j : Nat) (h1 : j < (v :: xs).length) (h2 : j < (u :: ys).length), EqAt A s (v :: xs)[j] (u :: ys)[j] true := by
      intro b1 k1 k2 e
      obtain ⟨z1, z2, z3⟩ := eqVs_ok e ok
      refine ⟨k1 z1, by rw [List.length_cons, List.length_cons, z2], fun j h1 h2 => ?_⟩
      cases j with
      | zero => exact k2 z1
      | succ j => exact z3 j (by simpa using h1) (by simpa using h2)
    unfold eqVs at e
    split at e
    · split at e
      · split at e
        · split at e
          · split at e
            · rename_i hmn
              have hmn := Nat.eq_of_beq_eq_true hmn
              subst hmn
              exact step (fun x => x) (fun _ => eq_nat) e
            · cases e
          · cases e
        · cases e
      · cases e
    · split at e
      · exact step (fun x => (okb_say x).2) (fun x => by rw [(okb_say x).1]; exact EqAt.same _) e
      · cases e
    · cases e
open PySem.SeqAt in
theorem eqT_ok {A : Around} (hC : CfOk C (model prog w)) (hl : ∀ a o, C.look a = some o → h₀.get? a = some o) (D : Rep h₀ C.ext os dr h s) (hu : A.units < cLine) :
    ∀ {xs ys : List Value} {b b' : Bk}, eqT C h xs ys b = some b' → okb b' → okb b ∧ xs.length = ys.length ∧ ∀ (j : Nat) (h1 : j < xs.length) (h2 : j < ys.length), EqAt A s xs[j] ys[j] true
  | [], [], b, b', e, ok => by cases e; exact ⟨ok, rfl, fun j h => (Nat.not_lt_zero _ h).elim⟩
  | [], _ :: _, b, b', e, ok => by cases e
  | _ :: _, [], b, b', e, ok => by cases e
  | v :: xs, u :: ys, b, b', e, ok => by
    unfold eqT at e
    split at e
    · rename_i a
      split at e
      · rename_i a'
        split at e
        · rename_i x hx
          split at e
          · rename_i y hy
            split at e
            · rename_i vs hvs
              split at e
              · rename_i us hus
                split at e
                · rename_i b1 hb1
                  obtain ⟨z1, z2, z3⟩ := eqT_ok hC hl D hu e ok
                  obtain ⟨y1, y2, y3⟩ := eqVs_ok (A := A.in1) (s := s) hb1 z1
                  obtain ⟨ox, bx⟩ := x
                  obtain ⟨oy, b2⟩ := y
                  obtain ⟨g2, ok2⟩ := got_at hl D hy y1
                  obtain ⟨g1, ok1⟩ := got_at hl D hx ok2
                  obtain ⟨c1, k1, d1⟩ := seqOf_ok hC (by decide) hvs
                  obtain ⟨c2, k2, d2⟩ := seqOf_ok hC (by decide) hus
                  refine ⟨ok1, by rw [List.length_cons, List.length_cons, z2], fun j h1 h2 => ?_⟩
                  cases j with
                  | succ j => exact z3 j (by simpa using h1) (by simpa using h2)
                  | zero =>
                    show EqAt A s (.ref a) (.ref a') true
                    by_cases q : a = a'
                    · rw [q]; exact EqAt.same _
                    · have z := RcAt.tuples (A := A) (s := s) (l := a) (b := a') (items := ⟨vs⟩) (items2 := ⟨us⟩) (e := fun _ => true) ⟨ox, g1, c1, k1, d1⟩ ⟨oy, g2, c2, k2, d2⟩ hu (fun j h1 h2 => y3 j h1 h2)
                      have : ((List.range (min (Array.mk vs).size (Array.mk us).size)).all (fun _ => true) && (Array.mk vs).size == (Array.mk us).size) = true := by
                        simp [y2]
                      rw [this] at z
                      exact EqAt.of_refs q z
                · cases e
              · cases e
            · cases e
          · cases e
        · cases e
      · cases e
    · cases e
theorem nat1_wp (hC : CfOk C (model prog w)) (hl : ∀ a o, C.look a = some o → h₀.get? a = some o) (hk : ∀ d x v, C.dk d x = some v → ∃ f, h₀.MapOf (strKind prog w) d f ∧ f x = some v) (D : Rep h₀ C.ext os dr h s) {c : Code} {n : Nat} {v : Value} {h' : Hs} {b' : Bk}
    (e : nat1 C ((Γ.code, p) :: Γ.below) h b c n = some (v, h', b')) (ok : okb b') :
    okb b ∧ wpCode (model prog w) (Γ.enter c none p) (fun r s' => r = .ok (.ret v) ∧ Rep h₀ C.ext os dr h' s') p s := by
  unfold nat1 at e
  split at e
  · rename_i f args
    obtain ⟨pos, kw⟩ := args
    dsimp only at e
    split at e
    · split at e
      · rename_i id
        unfold nat0 at e
        split at e
        · -- a dict's item by a text
          split at e
          · rename_i hid
            have hid := isS_eq hC hid
            subst hid
            split at e
            · rename_i d x tk
              split at e
              · rename_i hn
                split at e
                · rename_i v' hv
                  cases e
                  obtain ⟨fn, hm, hf⟩ := hk _ _ _ hv
                  have hm' : s.heap.MapOf (strKind prog w) d fn := by
                    obtain ⟨o, es, ep, ho, r⟩ := hm
                    exact ⟨o, es, ep, D.keep _ _ ho hn, r⟩
                  refine ⟨ok, ?_⟩
                  obtain ⟨r, s', hr, v2, hv2, rfl, rfl⟩ := enter_call (p := p) (Γ := Γ) (M := model prog w) (f := .builtin "dict.__getitem__") (vs := [.ref d, .str x tk]) (s := s) (Q := fun v' s' => v' = v ∧ s' = { s with toks := s.toks + 1 })
                    (call_meetsIn slot_dict_getitem hm'.typeIs entry_dict_getitem (args_dict_getitem _ _) (meets_dict_getitem (strKind prog w) d (strKind_is prog w x tk)) ⟨fn, v, hm', hf, rfl, rfl⟩)
                  exact ⟨r, _, hr, hv2, D.tick⟩
                · cases e
              · cases e
            · cases e
          · cases e
        · -- a dict's get by a small int
          split at e
          · rename_i hid
            have hid := isS_eq hC hid
            subst hid
            split at e
            · rename_i d i tk
              split at e
              · rename_i m
                split at e
                · cases e
                · rename_i hsm
                  have hsm : (d == sysModules) = false := by rw [BT.beq_eq] at hsm; exact beq_eq_false_iff_ne.mpr (of_decide_eq_false hsm)
                  split at e
                  · rename_i o hlo
                    split at e
                    · rename_i hcls
                      have hcls := isS_eq hC hcls
                      split at e
                      · rename_i hns
                        split at e
                        · rename_i es ep hdat
                          split at e
                          · rename_i r hr
                            cases e
                            obtain ⟨z1, z2⟩ := intsD_ok hr
                            have ho := (D.D _ _ hlo).1
                            have hx := exact_of hcls hns (by decide +kernel)
                            have hm : s.heap.MapOf (intKind prog w) d (findBy Value.isInt es) := ⟨o, es, ep, ho, hx, hdat, fun x hx => z1 x (by simpa using hx), fun _ => rfl⟩
                            refine ⟨ok, ?_⟩
                            have hv : ((findBy Value.isInt es (Int.ofNat m)).getD .none) = findN r m := by
                              rw [← z2 m]
                              unfold findBy
                              rw [← Array.find?_toList]
                            obtain ⟨r', s', hr', v2, hv2, rfl, rfl⟩ := enter_call (p := p) (Γ := Γ) (M := model prog w) (f := .builtin "dict.get") (vs := [.ref d, .int (Int.ofNat m) tk]) (s := s) (Q := fun v' s' => v' = findN r m ∧ s' = { s with toks := s.toks + 1 })
                              (call_meetsIn F.slot_dict_get hm.typeIs F.entry_dict_get (F.args_dict_get_2 _ _) (meets_dict_get (intKind prog w) d (intKind_is prog w _ tk) hsm) ⟨_, hm, hv, rfl⟩)
                            exact ⟨r', _, hr', hv2, D.tick⟩
                          · cases e
                        · cases e
                      · cases e
                    · cases e
                  · cases e
              · cases e
            · cases e
          · cases e
        · -- the octets of a new bytearray
          split at e
          · rename_i hid
            have hid := isS_eq hC hid
            subst hid
            split at e
            · rename_i hexp
              split at e
              · rename_i a i tk
                split at e
                · rename_i m
                  split at e
                  · rename_i hm3
                    have hm3 := Nat.eq_of_beq_eq_true hm3
                    subst hm3
                    split at e
                    · cases e
                    · rename_i j hj
                      split at e
                      · rename_i o hX
                        split at e
                        · rename_i hcls
                          have hcls := isS_eq hC hcls
                          split at e
                          · rename_i hns
                            split at e
                            · rename_i arr k hdat
                              split at e
                              · rename_i harr
                                split at e
                                · rename_i hk0
                                  have hk0 := Nat.eq_of_beq_eq_true hk0
                                  subst hk0
                                  cases e
                                  obtain ⟨q, ok2⟩ := okb_say ok
                                  subst q
                                  have ho : o = baO [] := by
                                    obtain ⟨arr⟩ := arr
                                    have harr : arr = [] := harr
                                    subst harr
                                    have hx := exact_of hcls hns (by decide +kernel)
                                    obtain ⟨cls, dct, dat, sl⟩ := o
                                    obtain ⟨h1, h2, h3⟩ := hx
                                    dsimp only at h1 h2 h3 hdat
                                    subst h1 h2 h3 hdat
                                    rfl
                                  subst ho
                                  obtain ⟨ho, D1⟩ := D.updX (f := baF1) hX rfl
                                  have hX1 : (h.X.set j baF1).get j = some (baO []) := by
                                    rw [BT.get_set, if_pos rfl, hX]; rfl
                                  obtain ⟨ho1, D2⟩ := D1.updX (f := baF2) hX1 rfl
                                  refine ⟨okb_pop ok2, ?_⟩
                                  exact ba_code ho (noExp_no hC hexp) ⟨rfl, D2⟩
                                · cases e
                              · cases e
                            · cases e
                          · cases e
                        · cases e
                      · cases e
                  · cases e
                · cases e
              · cases e
            · cases e
          · cases e
        · -- an item of a dict of small ints goes
          split at e
          · rename_i hid
            have hid := isS_eq hC hid
            subst hid
            split at e
            · rename_i d i tk
              split at e
              · rename_i m
                split at e
                · rename_i o hlo
                  split at e
                  · rename_i hcls
                    have hcls := isS_eq hC hcls
                    split at e
                    · rename_i hns
                      split at e
                      · rename_i es ep hdat
                        split at e
                        · rename_i hz
                          split at e
                          · rename_i r hr
                            split at e
                            · rename_i k hk1
                              cases e
                              have hx := exact_of hcls hns (by decide +kernel)
                              obtain ⟨ho, D1⟩ := D.updD (f := delF k) hlo (delF_ok hdat)
                              refine ⟨ok, ?_⟩
                              obtain ⟨r', s', hr', v2, hv2, rfl, rfl⟩ := enter_call (p := p) (Γ := Γ) (M := model prog w) (f := .builtin "dict.__delitem__") (vs := [.ref d, .int (Int.ofNat m) tk]) (s := s)
                                (Q := fun v' s' => v' = .none ∧ s' = { s with heap := s.heap.update d (delF k), toks := s.toks + 1 })
                                (del_wp ho hx.1 hdat hr hk1 (Nat.le_of_ble_eq_true hz) ⟨rfl, rfl⟩)
                              exact ⟨r', _, hr', hv2, D1.tick⟩
                            · cases e
                          · cases e
                        · cases e
                      · cases e
                    · cases e
                  · cases e
                · cases e
              · cases e
            · cases e
          · cases e
        · -- two lists of tuples are equal
          split at e
          · rename_i hid
            have hid := isS_eq hC hid
            subst hid
            split at e
            · rename_i l r
              split at e
              · rename_i x hx
                split at e
                · rename_i y hy
                  split at e
                  · rename_i xs hxs
                    split at e
                    · rename_i ys hys
                      split at e
                      · rename_i hu
                        split at e
                        · rename_i b1 hb1
                          cases e
                          have hu := Nat.le_of_ble_eq_true hu
                          have hu2 : (aroundOf Γ).units ≤ 9000 := by
                            show Γ.units ≤ 9000
                            rw [unitsOf_cons] at hu
                            exact hu
                          obtain ⟨ox, bx⟩ := x
                          obtain ⟨oy, b2⟩ := y
                          obtain ⟨z1, z2, z3⟩ := eqT_ok (A := (aroundOf Γ).in1) (s := s) hC hl D (by show (aroundOf Γ).units + 1 < 9900; omega) hb1 ok
                          obtain ⟨g2, ok2⟩ := got_at hl D hy z1
                          obtain ⟨g1, ok1⟩ := got_at hl D hx ok2
                          obtain ⟨c1, k1, d1⟩ := seqOf_ok hC (by decide) hxs
                          obtain ⟨c2, k2, d2⟩ := seqOf_ok hC (by decide) hys
                          refine ⟨ok1, ?_⟩
                          obtain ⟨cls1, dct1, dat1, sl1⟩ := ox
                          obtain ⟨cls2, dct2, dat2, sl2⟩ := oy
                          dsimp only at c1 d1 c2 d2
                          subst c1 d1 c2 d2
                          have g := PySem.SeqAt.list_eqAt l r ⟨xs⟩ ⟨ys⟩ k1 k2 dct1 dct2 sl1 sl2 z2 (fun _ => true)
                          have all : ((List.range (Array.mk xs).size).all fun _ => true) = true := by simp
                          rw [all] at g
                          obtain ⟨r', s', hr', v2, hv2, rfl, rfl⟩ := enter_call (p := p) (Γ := Γ) (M := model prog w) (f := .builtin "list.__eq__") (vs := [.ref l, .ref r]) (s := s) (Q := fun v' s' => v' = .bool true ∧ s' = s)
                            (call_meets F.slot_list_eq ⟨_, g1, rfl⟩ F.entry_list_eq (F.args_list_eq_2 _ _) g ⟨g1, g2, fun j h1 h2 => z3 j h1 h2, rfl, rfl⟩)
                          exact ⟨r', _, hr', hv2, D⟩
                        · cases e
                      · cases e
                    · cases e
                  · cases e
                · cases e
              · cases e
            · cases e
          · cases e
        · cases e
      · cases e
    · cases e
  · cases e
end
end M9
end
section
open PySem PySem.W PySem.Calls PyProof.Rows PySem.Spec
namespace M9
section
variable {C : Cf} {prog : Program} {w : World} {R : Result → Shared → Prop} {h₀ : Heap} {os : OsState} {dr : Drawn}
variable (hC : CfOk C (model prog w)) (hI : ∀ o, C.isIt o = true → itCls o) (hl : ∀ a o, C.look a = some o → h₀.get? a = some o) (hk : ∀ d x v, C.dk d x = some v → ∃ f, h₀.MapOf (strKind prog w) d f ∧ f x = some v)
theorem st_ite {x : Option (Obj × Bk)} {f : Obj → Bk → St} {n : Nat} {S' : St} (e : Stp.st? (match x with | some (o, b) => .go (f o b) | none => .bad n) = some S') : ∃ o b, x = some (o, b) ∧ S' = f o b := by
  cases x with
  | none => cases e
  | some y => cases e; exact ⟨_, _, rfl, rfl⟩
theorem tgtOf_tuple {c : Code} {t : PySem.Expr} (e : tgtOf c = some t) : ∃ a b d, t = .Tuple a b d := by
  unfold tgtOf at e
  split at e
  · split at e
    · split at e
      · rename_i h; cases e; exact ⟨_, _, _, h⟩
      · cases e
    · cases e
  · cases e
theorem ownT_inv {C : Cf} {S S' : St} {a : Nat} {k : Obj → Sem Fin} (e : ownT C S a k = some S') : ∃ j i2 o vs x r tgt, S.h.X.get j = some o ∧ isS C (clsS o) "enumerate" = true ∧ o.data = .fields vs ∧ vs.toList = .int (.ofNat x) 0 :: r ∧ tgtOf S.Γ.code = some tgt ∧
    S' = ⟨S.Γ, S.p, S.κ, S.l, k noO, ⟨S.h.D, S.h.X.set j ownF, S.h.m, S.h.bs, S.h.tb, S.h.i⟩, sayT (say (say (pop (pop (pop S.b))) a (adr S.h.bs j)) x (adr S.h.bs i2)) S.t (C.bu (C.lo tgt (.ref a) (.ref (adr S.h.bs i2))) fun _ => k noO)⟩ := by
  unfold ownT at e
  split at e
  · cases e
  · split at e
    · cases e
    · split at e
      · cases e
      · split at e
        · rename_i o ho
          generalize hs : isS C (clsS o) "enumerate" = bs at e
          cases bs with
          | false => cases e
          | true =>
            dsimp only at e
            split at e
            · rename_i vs hd
              split at e
              · rename_i v0 r hv
                split at e
                · rename_i z tk
                  split at e
                  · rename_i x
                    generalize ht : Nat.beq tk 0 = bt at e
                    cases bt with
                    | false => cases e
                    | true =>
                      dsimp only at e
                      split at e
                      · rename_i tgt hg
                        have h0 : tk = 0 := Nat.eq_of_beq_eq_true ht
                        subst h0
                        cases e
                        exact ⟨_, _, o, vs, x, r, tgt, ho, hs, hd, hv, hg, rfl⟩
                      · cases e
                  · cases e
                · cases e
              · cases e
            · cases e
        · cases e
theorem ownT_okb {C : Cf} {S S' : St} {a : Nat} {k : Obj → Sem Fin} (e : ownT C S a k = some S') (ok : okb S'.b) : okb S.b := by
  obtain ⟨j, i2, o, vs, x, r, tgt, _, _, _, _, _, rfl⟩ := ownT_inv e
  exact okb_pop (okb_pop (okb_pop (okb_say (okb_say (okb_sayT ok).2).2).2))
theorem st_load {x : Option (Obj × Bk)} {y : Option St} {f : Obj → Bk → St} {n : Nat} {S' : St} (e : Stp.st? (match x with | some (o, b) => .go (f o b) | none => match y with | some S => .go S | none => .bad n) = some S') : (∃ o b, x = some (o, b) ∧ S' = f o b) ∨ y = some S' := by
  cases x with
  | none =>
    cases y with
    | none => cases e
    | some z => cases e; exact .inr rfl
  | some y => cases e; exact .inl ⟨_, _, rfl, rfl⟩
section
include hC
theorem ownT_st {S S' : St} {s : Shared} {a : Nat} {k : Obj → Sem Fin} (e : ownT C S a k = some S') (D : Rep h₀ C.ext os dr S.h s) (ok : okb S'.b) (F : ∀ s', Rep h₀ C.ext os dr S'.h s' → Full (model prog w) R S' s') : Full (model prog w) R S s := by
  obtain ⟨j, i2, o, vs, x, r, tgt, ho, hs, hd, hv, hg, rfl⟩ := ownT_inv e
  obtain ⟨q, ok⟩ := okb_sayT ok
  obtain ⟨q2, ok⟩ := okb_say ok
  obtain ⟨q1, ok⟩ := okb_say ok
  obtain ⟨Γ, p, κ, l, t, h, b⟩ := S
  obtain ⟨_, _, _, rfl⟩ := tgtOf_tuple hg
  dsimp only at D F q q1 q2 ho
  subst q q1 q2
  have hf : (ownF o).isFreed = false := by
    obtain ⟨c, d, da, sl⟩ := o
    dsimp only at hd
    subst hd
    rfl
  obtain ⟨z1, z2⟩ := D.updX ho hf
  have F := F _ z2
  have hc : o.cls = .type "enumerate" := by
    have := isS_eq hC hs
    unfold clsS at this
    split at this
    · rename_i n hn; rw [hn, this]
    · exact absurd this (by decide)
  have h0 : vs[0]? = some (rawInt (adr h.bs i2)) := by
    rw [← Array.getElem?_toList, hv]; rfl
  have hsz : 0 < vs.size := by
    rcases Array.getElem?_eq_some_iff.mp h0 with ⟨h, _⟩; exact h
  show Sem.wp (model prog w) Γ (C.bu (C.lo _ _ _) _) _ _ p s
  rw [hC.bu, hC.lo]
  show Sem.wp (model prog w) Γ (letOwnedTupleGo _ _ _ >>= _) _ _ p s
  rw [Sem.wp_bind']
  unfold letOwnedTupleGo
  dsimp only
  rw [Sem.wp_bind']
  refine ⟨o, z1, ?_⟩
  rw [Sem.wp_pure, hc, hd]
  dsimp only
  rw [if_pos (by rw [h0]; simp)]
  rw [Sem.wp_bind']
  show Sem.wp (model prog w) Γ (updateField _ 0 .none) _ _ p s
  unfold updateField
  rw [Sem.wp_bind']
  refine ⟨o, z1, ?_⟩
  rw [Sem.wp_pure, hd]
  dsimp only
  rw [if_pos hsz]
  exact ⟨by rw [z1]; rfl, F⟩
end
include hC hI hl hk
theorem step_st {S S' : St} {s : Shared} (e : (step1 C S).st? = some S') (D : Rep h₀ C.ext os dr S.h s) (ok : okb S'.b) (F : ∀ s', Rep h₀ C.ext os dr S'.h s' → Full (model prog w) R S' s') :
    Full (model prog w) R S s ∧ okb S.b := by
  obtain ⟨Γ, p, κ, l, t, h, b⟩ := S
  unfold step1 at e
  dsimp only at e D ⊢
  cases t with
  | pure fin =>
    dsimp only at e
    cases fin with
    | done f =>
      dsimp only at e
      obtain ⟨z1, z2, z3⟩ := leafOk_st hC (R := R) (s := s) e ok
      exact ⟨z1 (F s (z2 ▸ D)), z3⟩
    | again c =>
      dsimp only at e
      cases l with
      | cons lf l =>
        dsimp only at e
        generalize hcm : isCmp lf = bc at e
        cases bc with
        | false => cases e
        | true =>
          cases e
          cases lf with
          | cmp cc env => exact ⟨F s D, ok⟩
          | _ => cases hcm
      | nil =>
        dsimp only at e
        cases hq : C.qt c with
        | false => rw [hq] at e; cases e
        | true =>
          rw [hq] at e
          dsimp only at e
          rw [hC.qt] at hq
          have fin : ∀ {b'}, (start C (Γ.goto c) p κ h b').st? = some S' → Full (model prog w) R ⟨Γ, p, κ, [], .pure (.again c), h, b⟩ s ∧ okb b' := by
            intro b' e
            obtain ⟨z1, z2, z3⟩ := start_st hC hI hl D e ok
            refine ⟨?_, z3⟩
            have z := z1 (F s (z2 ▸ D))
            exact ⟨hq, (Sem.wp_iff_runs (model prog w) (Γ.goto c) _ _ p s).mp z⟩
          cases hL : isLoop c with
          | true =>
            rw [hL] at e
            dsimp only at e
            split at e
            · have z := fin e
              exact ⟨z.1, okb_pop z.2⟩
            · cases e
              exact ⟨F s D, okb_pop ok⟩
          | false =>
            rw [hL] at e
            exact fin e
  | raise x =>
    dsimp only at e
    obtain ⟨z1, z2, z3⟩ := leafErr_st hC hl (R := R) D e ok
    exact ⟨z1 (F s (z2 ▸ D)), z3⟩
  | rule tag k => cases e; exact ⟨F s D, ok⟩
  | «at» q k => cases e; exact ⟨F s D, ok⟩
  | point lv k => cases e; exact ⟨F s D, ok⟩
  | ask k =>
    dsimp only at e
    split at e
    · cases e
      refine ⟨?_, okb_pop ok⟩
      have z : Sem.wp (model prog w) Γ (k ⟨C.prog, C.par⟩) _ _ p s := F s D
      show Sem.wp (model prog w) Γ (k ⟨(model prog w).prog, (model prog w).w.params⟩) _ _ p s
      rw [hC.prog, hC.par]
      exact z
    · cases e
      obtain ⟨q, ok⟩ := okb_sayT ok
      refine ⟨?_, okb_pop ok⟩
      have z : Sem.wp (model prog w) Γ (k ⟨C.prog, C.parT⟩) _ _ p s := F s D
      show Sem.wp (model prog w) Γ (k ⟨(model prog w).prog, (model prog w).w.params⟩) _ _ p s
      rw [hC.prog, hC.par]
      rcases hC.rows with r | r
      · rw [r]; exact z
      · rw [r, q]; exact z
  | load a part k =>
    dsimp only at e
    rcases st_load e with ⟨o, b', g, rfl⟩ | e
    · obtain ⟨ho, ok⟩ := got_at hl D g ok
      exact ⟨⟨o, ho, F s D⟩, ok⟩
    · exact ⟨ownT_st hC e D ok F, ownT_okb e ok⟩
  | loadIfAlive a k =>
    dsimp only at e
    obtain ⟨o, b', g, rfl⟩ := st_ite e
    obtain ⟨ho, ok⟩ := got_at hl D g ok
    refine ⟨?_, ok⟩
    show Sem.wp (model prog w) Γ (k (s.heap.get? a)) _ _ p s
    rw [ho]
    exact F s D
  | alloc o k =>
    dsimp only at e
    split at e
    · cases e
    · rename_i hf
      split at e
      · rename_i o' hg
        cases e
        refine ⟨?_, ok⟩
        have z := F _ (D.alloc hf (by rw [hg]; rfl))
        show Sem.wp (model prog w) Γ (k s.heap.objs.size) _ _ p { s with heap := s.heap.push o }
        rw [D.size]
        exact z
      · cases e
  | update a part f k =>
    dsimp only at e
    split at e
    · split at e
      · rename_i o ho
        split at e
        · cases e
        · rename_i hf
          cases e
          obtain ⟨z1, z2⟩ := D.updD ho hf
          exact ⟨⟨by rw [z1]; rfl, F _ z2⟩, okb_pop ok⟩
      · cases e
    · rename_i j hj
      split at e
      · rename_i o ho
        split at e
        · cases e
        · rename_i hf
          cases e
          obtain ⟨q, ok1⟩ := okb_say ok
          subst q
          obtain ⟨z1, z2⟩ := D.updX ho hf
          exact ⟨⟨by rw [z1]; rfl, F _ z2⟩, okb_pop ok1⟩
      · cases e
  | fresh k =>
    cases e
    refine ⟨?_, ok⟩
    have D' : Rep h₀ C.ext os dr ⟨h.D, h.X, h.m, h.bs, h.tb, Nat.succ h.i⟩ { s with toks := s.toks + 1 } := ⟨D.size, D.seg, D.inj, D.bnd, D.low, D.own, D.D, D.keep, by show s.toks + 1 = h.tb + (h.i + 1); rw [D.toks]; omega, D.gens, D.os, D.dr, D.ext⟩
    have z := F _ D'
    show Sem.wp (model prog w) Γ (k s.toks) _ _ p { s with toks := s.toks + 1 }
    rw [D.toks]
    rw [D.toks] at z
    exact z
  | handled own k =>
    cases e
    refine ⟨?_, ok⟩
    show Sem.wp (model prog w) Γ (k (if own then Γ.own else Γ.handled)) _ _ p s
    cases own <;> exact F s D
  | stack k => cases e; exact ⟨F s D, ok⟩
  | call c hd g lv k =>
    dsimp only at e
    split at e
    · obtain ⟨z1, z2, z3⟩ := start_st hC hI hl D e ok
      refine ⟨?_, okb_pop z3⟩
      have z := z1 (F s (z2 ▸ D))
      exact (Sem.wp_iff_runs (model prog w) (Γ.enter c hd p) _ _ p s).mp z
    · split at e
      · split at e
        · split at e
          · rename_i r hr
            cases e
            obtain ⟨z1, r', s', z2, z3, z4⟩ := nat1_wp (Γ := Γ) (p := p) hC hl hk D (c := c) hr ok
            refine ⟨⟨r', s', z2, ?_⟩, okb_pop z1⟩
            subst z3
            exact F s' z4
          · cases e
        · cases e
      · cases e
  | newGen => cases e
  | genState => cases e
  | resume => cases e
  | «yield» => cases e
  | unsupported => cases e
  | finish => cases e
  | register => cases e
  | choose => cases e
  | os => cases e
  | fork => cases e
  | thread => cases e
  | await => cases e
end
noncomputable def Stp.calm : Stp → Prop
  | .fin .. => False
  | .need .. => False
  | _ => True
theorem begin2_calm {C : Cf} {Γ : PySem.Ctx} {p : Pos} {κ : List K1} {l : List LF} {h : Hs} {b : Bk} {st : Stmt} {rest : List Stmt} {env : Env} : (begin2 C Γ p κ l h b st rest env).calm := by
  unfold begin2
  split
  · split <;> exact trivial
  · exact trivial
theorem begin1_calm {C : Cf} {Γ : PySem.Ctx} {p : Pos} {κ : List K1} {l : List LF} {h : Hs} {b : Bk} {rest : List Stmt} {env : Env} : (begin1 C Γ p κ l h b rest env).calm := by
  unfold begin1
  split
  · exact trivial
  · split
    · exact begin2_calm
    · exact trivial
theorem start_calm {C : Cf} {Γ : PySem.Ctx} {p : Pos} {κ : List K1} {h : Hs} {b : Bk} : (start C Γ p κ h b).calm := by
  unfold start
  dsimp only
  split
  · split <;> first | exact trivial | exact begin1_calm
  · split <;> first | exact trivial | exact begin1_calm
  · split <;> exact trivial
  · split
    · exact trivial
    · split
      · exact trivial
      · split
        · split
          · split <;> exact trivial
          · exact trivial
        · exact trivial
  · exact trivial
  · exact trivial
theorem no_fin {x : Stp} {r : Result} {h : Hs} {b : Bk} (c : x.calm) (e : x = .fin r h b) : False := by subst e; exact c
theorem no_need {x : Stp} {t : Nat} {c : Code} {g : PySem.Ctx} {p : Pos} {f : Ans → St} {h : Hs} {b : Bk} (q : x.calm) (e : x = .need t c g p f h b) : False := by subst e; exact q
theorem leafErr_calm {C : Cf} {x : Value} {Γ : PySem.Ctx} {p : Pos} {κ : List K1} {l : List LF} {h : Hs} {b : Bk} {r : Result} {h' : Hs} {b' : Bk} (e : leafErr C x Γ p κ l h b = .fin r h' b') : κ = [] ∧ l = [] ∧ r = .error x ∧ h' = h ∧ b' = b := by
  unfold leafErr at e
  split at e
  · split at e
    · cases e; exact ⟨rfl, rfl, rfl, rfl, rfl⟩
    · cases e
  · split at e
    · cases e
    · split at e
      · cases e
      · split at e <;> cases e
theorem leafOk_calm {C : Cf} {f : Flow} {Γ : PySem.Ctx} {p : Pos} {κ : List K1} {l : List LF} {h : Hs} {b : Bk} {r : Result} {h' : Hs} {b' : Bk} (e : leafOk C f Γ p κ l h b = .fin r h' b') : κ = [] ∧ l = [] ∧ r = .ok f ∧ h' = h ∧ b' = b := by
  unfold leafOk at e
  split at e
  · split at e
    · cases e; exact ⟨rfl, rfl, rfl, rfl, rfl⟩
    · cases e
  · split at e
    · split at e
      · exact (no_fin begin1_calm e).elim
      · cases e
    · cases e
    · cases e
    · split at e
      · exact (no_fin begin1_calm e).elim
      · cases e
    · cases e
    · cases e
theorem leafErr_need {C : Cf} {x : Value} {Γ : PySem.Ctx} {p : Pos} {κ : List K1} {l : List LF} {h : Hs} {b : Bk} {tg : Nat} {c : Code} {g : PySem.Ctx} {q : Pos} {f : Ans → St} {h' : Hs} {b' : Bk} (e : leafErr C x Γ p κ l h b = .need tg c g q f h' b') : False := by
  unfold leafErr at e
  split at e
  · split at e <;> cases e
  · split at e
    · cases e
    · split at e
      · cases e
      · split at e <;> cases e
theorem leafOk_need {C : Cf} {x : Flow} {Γ : PySem.Ctx} {p : Pos} {κ : List K1} {l : List LF} {h : Hs} {b : Bk} {tg : Nat} {c : Code} {g : PySem.Ctx} {q : Pos} {f : Ans → St} {h' : Hs} {b' : Bk} (e : leafOk C x Γ p κ l h b = .need tg c g q f h' b') : False := by
  unfold leafOk at e
  split at e
  · split at e <;> cases e
  · split at e
    · split at e
      · exact no_need begin1_calm e
      · cases e
    · cases e
    · cases e
    · split at e
      · exact no_need begin1_calm e
      · cases e
    · cases e
    · cases e
section
variable {C : Cf} {prog : Program} {w : World} {R : Result → Shared → Prop} {h₀ : Heap} {os : OsState} {dr : Drawn}
theorem step_fin {S : St} {s : Shared} {r : Result} {h : Hs} {b : Bk} (e : step1 C S = .fin r h b) : h = S.h ∧ b = S.b ∧ (R r s → Full (model prog w) R S s) := by
  obtain ⟨Γ, p, κ, l, t, h1, b1⟩ := S
  unfold step1 at e
  dsimp only at e ⊢
  cases t with
  | pure fin =>
    cases fin with
    | done f =>
      obtain ⟨rfl, rfl, rfl, rfl, rfl⟩ := leafOk_calm e
      exact ⟨rfl, rfl, fun x => x⟩
    | again c =>
      exfalso
      dsimp only at e
      split at e
      · split at e
        · split at e
          · split at e
            · exact no_fin start_calm e
            · cases e
          · exact no_fin start_calm e
        · cases e
      · split at e <;> cases e
  | raise x =>
    obtain ⟨rfl, rfl, rfl, rfl, rfl⟩ := leafErr_calm e
    exact ⟨rfl, rfl, fun x => x⟩
  | ask => exfalso; dsimp only at e; split at e <;> cases e
  | load => exfalso; dsimp only at e; split at e <;> first | (cases e; done) | (split at e <;> cases e)
  | loadIfAlive => exfalso; dsimp only at e; split at e <;> cases e
  | alloc => exfalso; dsimp only at e; split at e <;> first | cases e | (split at e <;> cases e)
  | update => exfalso; dsimp only at e; split at e <;> (split at e <;> first | cases e | (split at e <;> cases e))
  | call =>
    exfalso
    dsimp only at e
    split at e
    · exact no_fin start_calm e
    · split at e
      · split at e
        · split at e <;> cases e
        · cases e
      · cases e
  | _ => cases e
theorem step_need {S : St} {s : Shared} {tg : Nat} {c : Code} {g : PySem.Ctx} {p : Pos} {f : Ans → St} {h : Hs} {b : Bk} (e : step1 C S = .need tg c g p f h b) :
    h = S.h ∧ (okb b → okb S.b) ∧ (∀ a, (f a).h = a.up h) ∧ g.code = c ∧
      (wpCode (model prog w) g (fun r s' => ∃ a, a.res = r ∧ Full (model prog w) R (f a) s') p s → Full (model prog w) R S s) := by
  obtain ⟨Γ, p1, κ, l, t, h1, b1⟩ := S
  unfold step1 at e
  dsimp only at e ⊢
  cases t with
  | pure fin =>
    exfalso
    cases fin with
    | done f => exact leafOk_need e
    | again c =>
      dsimp only at e
      split at e
      · split at e
        · split at e
          · split at e
            · exact no_need start_calm e
            · cases e
          · exact no_need start_calm e
        · cases e
      · split at e <;> cases e
  | raise x => exact (leafErr_need e).elim
  | ask => exfalso; dsimp only at e; split at e <;> cases e
  | load => exfalso; dsimp only at e; split at e <;> first | (cases e; done) | (split at e <;> cases e)
  | loadIfAlive => exfalso; dsimp only at e; split at e <;> cases e
  | alloc => exfalso; dsimp only at e; split at e <;> first | cases e | (split at e <;> cases e)
  | update => exfalso; dsimp only at e; split at e <;> (split at e <;> first | cases e | (split at e <;> cases e))
  | call c' hd gd lv k =>
    dsimp only at e
    split at e
    · exact (no_need start_calm e).elim
    · split at e
      · exfalso
        split at e
        · split at e <;> cases e
        · cases e
      cases e
      refine ⟨rfl, okb_pop, fun a => rfl, rfl, fun x => ?_⟩
      obtain ⟨r, s', hr, a, ha, F⟩ := x
      refine ⟨r, s', hr, ?_⟩
      subst ha
      exact F
  | _ => cases e
end
section
variable {C : Cf} {Γ : PySem.Ctx} {p : Pos} {κ : List K1} {l : List LF} {h : Hs} {b : Bk}
theorem got_okb {a : Nat} {o : Obj} {b' : Bk} (e : got C h b a = some (o, b')) (ok : okb b') : okb b := by
  unfold got at e
  split at e
  · split at e
    · cases e; exact okb_pop ok
    · split at e
      · cases e; exact okb_pop ok
      · cases e
  · split at e
    · split at e
      · cases e; exact okb_pop (okb_say ok).2
      · cases e
    · split at e
      · cases e; exact okb_pop (okb_say ok).2
      · cases e
theorem note_okb {x : Value} {env : Env} {t : Sem Unit} {b' : Bk} (e : note C Γ p x env h b = some (t, b')) (ok : okb b') : okb b := by
  unfold note at e
  split at e
  · split at e
    · split at e
      · rename_i o b1 g1
        split at e
        · split at e
          · split at e
            · split at e
              · split at e
                · cases e; exact got_okb g1 (okb_say ok).2
                · split at e
                  · rename_i o2 b2 g2
                    split at e
                    · split at e
                      · split at e
                        · cases e; exact got_okb g1 (got_okb g2 (okb_say ok).2)
                        · split at e
                          · split at e
                            · split at e
                              · cases e; exact got_okb g1 (got_okb g2 (okb_pop (okb_say ok).2))
                              · cases e
                            · split at e
                              · cases e
                              · cases e; exact got_okb g1 (got_okb g2 (okb_pop (okb_pop (okb_pop (okb_say (okb_say (okb_say ok).2).2).2))))
                          · cases e
                        · cases e
                      · cases e
                    · cases e
                  · cases e
                · cases e
              · cases e
            · cases e
          · cases e
        · cases e
      · cases e
    · cases e
  · cases e
theorem begin2_okb {st : Stmt} {rest : List Stmt} {env : Env} {S' : St} (e : (begin2 C Γ p κ l h b st rest env).st? = some S') (ok : okb S'.b) : okb b := by
  unfold begin2 at e
  split at e
  · split at e
    · cases e
    · cases e; exact ok
  · cases e; exact ok
theorem begin1_okb {rest : List Stmt} {env : Env} {S' : St} (e : (begin1 C Γ p κ l h b rest env).st? = some S') (ok : okb S'.b) : okb b := by
  unfold begin1 at e
  split at e
  · cases e; exact ok
  · split at e
    · exact okb_pop (begin2_okb e ok)
    · cases e; exact okb_pop ok
theorem start_okb {S' : St} (e : (start C Γ p κ h b).st? = some S') (ok : okb S'.b) : okb b := by
  unfold start at e
  dsimp only at e
  split at e
  · split at e
    · cases e; exact okb_pop ok
    · exact okb_pop (begin1_okb e ok)
  · split at e
    · cases e; exact okb_pop ok
    · exact okb_pop (begin1_okb e ok)
  · split at e <;> (cases e; exact okb_pop ok)
  · split at e
    · cases e; exact okb_pop ok
    · split at e
      · cases e
      · split at e
        · split at e
          · rename_i g
            split at e
            · cases e; exact okb_pop (got_okb g ok)
            · cases e
          · cases e
        · cases e
  · cases e; exact ok
  · cases e; exact ok
theorem leafOk_okb {f : Flow} {S' : St} (e : (leafOk C f Γ p κ l h b).st? = some S') (ok : okb S'.b) : okb b := by
  unfold leafOk at e
  split at e
  · split at e
    · cases e
    · cases e; exact ok
  · split at e
    · split at e
      · exact begin1_okb e ok
      · cases e; exact ok
    · cases e; exact ok
    · cases e; exact ok
    · split at e
      · exact begin1_okb e ok
      · cases e; exact ok
    · cases e; exact ok
    · cases e; exact ok
theorem leafErr_okb {x : Value} {S' : St} (e : (leafErr C x Γ p κ l h b).st? = some S') (ok : okb S'.b) : okb b := by
  unfold leafErr at e
  split at e
  · split at e
    · cases e
    · cases e; exact ok
  · split at e
    · cases e
    · split at e
      · cases e; exact ok
      · split at e
        · rename_i g
          cases e; exact note_okb g ok
        · cases e
theorem eqVs_okb : ∀ {xs ys : List Value} {b b' : Bk}, eqVs xs ys b = some b' → okb b' → okb b
  | [], [], b, b', e, ok => by cases e; exact ok
  | [], _ :: _, b, b', e, ok => by cases e
  | _ :: _, [], b, b', e, ok => by cases e
  | v :: xs, u :: ys, b, b', e, ok => by
    unfold eqVs at e
    split at e
    · split at e
      · split at e
        · split at e
          · split at e
            · exact eqVs_okb e ok
            · cases e
          · cases e
        · cases e
      · cases e
    · split at e
      · exact (okb_say (eqVs_okb e ok)).2
      · cases e
    · cases e
theorem eqT_okb : ∀ {xs ys : List Value} {b b' : Bk}, eqT C h xs ys b = some b' → okb b' → okb b
  | [], [], b, b', e, ok => by cases e; exact ok
  | [], _ :: _, b, b', e, ok => by cases e
  | _ :: _, [], b, b', e, ok => by cases e
  | v :: xs, u :: ys, b, b', e, ok => by
    unfold eqT at e
    split at e
    · split at e
      · split at e
        · rename_i hx
          split at e
          · rename_i hy
            split at e
            · split at e
              · split at e
                · rename_i hv
                  exact got_okb hx (got_okb hy (eqVs_okb hv (eqT_okb e ok)))
                · cases e
              · cases e
            · cases e
          · cases e
        · cases e
      · cases e
    · cases e
theorem nat1_okb {acts : List (Code × Pos)} {c : Code} {n : Nat} {v : Value} {h' : Hs} {b' : Bk} (e : nat1 C acts h b c n = some (v, h', b')) (ok : okb b') : okb b := by
  unfold nat1 at e
  split at e
  · split at e
    · split at e
      · unfold nat0 at e
        split at e
        case h_5 =>
          split at e
          · split at e
            · split at e
              · rename_i hx
                split at e
                · rename_i hy
                  split at e
                  · split at e
                    · split at e
                      · split at e
                        · rename_i hT
                          cases e
                          exact got_okb hx (got_okb hy (eqT_okb hT ok))
                        · cases e
                      · cases e
                    · cases e
                  · cases e
                · cases e
              · cases e
            · cases e
          · cases e
        all_goals repeat' (first | (cases e; done) | split at e)
        all_goals (cases e; first | exact ok | exact okb_pop (okb_say ok).2)
      · cases e
    · cases e
  · cases e
theorem step_okb {S S' : St} (e : (step1 C S).st? = some S') (ok : okb S'.b) : okb S.b := by
  obtain ⟨Γ, p, κ, l, t, h, b⟩ := S
  unfold step1 at e
  dsimp only at e ⊢
  cases t with
  | pure fin =>
    cases fin with
    | done f => exact leafOk_okb e ok
    | again c =>
      dsimp only at e
      split at e
      · split at e
        · split at e
          · split at e
            · exact okb_pop (start_okb e ok)
            · cases e; exact okb_pop ok
          · exact start_okb e ok
        · cases e
      · split at e
        · cases e; exact ok
        · cases e
  | raise x => exact leafErr_okb e ok
  | ask =>
    dsimp only at e
    split at e
    · cases e; exact okb_pop ok
    · cases e; exact okb_pop (okb_sayT ok).2
  | load =>
    dsimp only at e
    rcases st_load e with ⟨o, b', g, rfl⟩ | e
    · exact got_okb g ok
    · exact ownT_okb e ok
  | loadIfAlive =>
    dsimp only at e
    obtain ⟨o, b', g, rfl⟩ := st_ite e
    exact got_okb g ok
  | alloc =>
    dsimp only at e
    split at e
    · cases e
    · split at e
      · cases e; exact ok
      · cases e
  | update =>
    dsimp only at e
    split at e
    · split at e
      · split at e
        · cases e
        · cases e; exact okb_pop ok
      · cases e
    · split at e
      · split at e
        · cases e
        · cases e; exact okb_pop (okb_say ok).2
      · cases e
  | call =>
    dsimp only at e
    split at e
    · exact okb_pop (start_okb e ok)
    · split at e
      · split at e
        · split at e
          · rename_i r hr
            cases e
            exact okb_pop (nat1_okb hr ok)
          · cases e
        · cases e
      · cases e
  | rule => cases e; exact ok
  | «at» => cases e; exact ok
  | point => cases e; exact ok
  | fresh => cases e; exact ok
  | handled => cases e; exact ok
  | stack => cases e; exact ok
  | _ => cases e
end
inductive Win (M : Model) (h₀ : Heap) (E₁ : DL) (os : OsState) (dr : Drawn) (R : Result → Shared → Prop) : (List Ans → Out) → Prop
  | fin {F : List Ans → Out} {r : Result} {h : Hs} {b : Bk} (e : F [] = .fin r h b) (ok : okb b) (x : ∀ s, Rep h₀ E₁ os dr h s → R r s) : Win M h₀ E₁ os dr R F
  | stop {F : List Ans → Out} {S : St} (e : F [] = .stop S) (ok : okb S.b) (x : ∀ s, Rep h₀ E₁ os dr S.h s → Full M R S s) : Win M h₀ E₁ os dr R F
  | need {F : List Ans → Out} {tg : Nat} {c : Code} {g : PySem.Ctx} {p : Pos} {h : Hs} {b : Bk} (e : F [] = .need tg c g p h b) (ok : okb b) (V : Ans → Prop)
      (x : ∀ s, Rep h₀ E₁ os dr h s → wpCode M g (fun r s' => ∃ a, a.res = r ∧ V a ∧ Rep h₀ E₁ os dr (a.up h) s') p s)
      (y : ∀ a, V a → Win M h₀ E₁ os dr R fun as => F (a :: as)) : Win M h₀ E₁ os dr R F
theorem om_succ (C : Cf) (n : Nat) (S : St) (as : List Ans) : om C (n + 1) S as = match step1 C S with
    | .go S => om C n S as
    | .fin r h b => .fin r h b
    | .need tag c g p f h b => match as with
      | [] => .need tag c g p h b
      | a :: as => om C n (f a) as
    | .stop S => .stop S
    | .bad n => .bad n := rfl
theorem om_sound {C : Cf} {prog : Program} {w : World} {R : Result → Shared → Prop} {h₀ : Heap} {os : OsState} {dr : Drawn} (hC : CfOk C (model prog w)) (hI : ∀ o, C.isIt o = true → itCls o) (hl : ∀ a o, C.look a = some o → h₀.get? a = some o) (hk : ∀ d x v, C.dk d x = some v → ∃ f, h₀.MapOf (strKind prog w) d f ∧ f x = some v) :
    ∀ (n : Nat) (S : St), Win (model prog w) h₀ C.ext os dr R (om C n S) → okb S.b ∧ ∀ s, Rep h₀ C.ext os dr S.h s → Full (model prog w) R S s
  | 0, S, W => by
    cases W with
    | fin e => cases e
    | stop e => cases e
    | need e => cases e
  | n + 1, S, W => by
    cases hs : step1 C S with
    | go S' =>
      have e : om C (n + 1) S = om C n S' := funext fun as => by rw [om_succ, hs]
      rw [e] at W
      obtain ⟨ok, F⟩ := om_sound hC hI hl hk n S' W
      have es : (step1 C S).st? = some S' := by rw [hs]; rfl
      exact ⟨step_okb es ok, fun s D => (step_st hC hI hl hk es D ok F).1⟩
    | fin r h b =>
      have e : ∀ as, om C (n + 1) S as = .fin r h b := fun as => by rw [om_succ, hs]
      have key : okb b ∧ ∀ s, Rep h₀ C.ext os dr h s → R r s := by
        cases W with
        | fin e1 ok x => rw [e] at e1; cases e1; exact ⟨ok, x⟩
        | stop e1 => rw [e] at e1; cases e1
        | need e1 => rw [e] at e1; cases e1
      have z := fun s => step_fin (prog := prog) (w := w) (R := R) (s := s) hs
      obtain ⟨rfl, rfl, _⟩ := z ({ os := os } : Shared)
      exact ⟨key.1, fun s D => (z s).2.2 (key.2 s D)⟩
    | stop S' =>
      have e : ∀ as, om C (n + 1) S as = .stop S' := fun as => by rw [om_succ, hs]
      have key : okb S'.b ∧ ∀ s, Rep h₀ C.ext os dr S'.h s → Full (model prog w) R S' s := by
        cases W with
        | fin e1 => rw [e] at e1; cases e1
        | stop e1 ok x => rw [e] at e1; cases e1; exact ⟨ok, x⟩
        | need e1 => rw [e] at e1; cases e1
      have es : (step1 C S).st? = some S' := by rw [hs]; rfl
      exact ⟨step_okb es key.1, fun s D => (step_st hC hI hl hk es D key.1 key.2).1⟩
    | need tag c g p f h b =>
      have e0 : om C (n + 1) S [] = .need tag c g p h b := by rw [om_succ, hs]
      have e1 : ∀ a, (fun as => om C (n + 1) S (a :: as)) = om C n (f a) := fun a => funext fun as => by rw [om_succ, hs]
      cases W with
      | fin e => rw [e0] at e; cases e
      | stop e => rw [e0] at e; cases e
      | need e ok V x y =>
        rw [e0] at e
        cases e
        have z := fun s => step_need (prog := prog) (w := w) (R := R) (s := s) hs
        obtain ⟨rfl, z2, z3, z4, _⟩ := z ({ os := os } : Shared)
        refine ⟨z2 ok, fun s D => (z s).2.2.2.2 ?_⟩
        obtain ⟨r, s', hr, a, ha, hv, D'⟩ := x s D
        refine ⟨r, s', hr, a, ha, ?_⟩
        have q := y a hv
        rw [e1] at q
        exact (om_sound hC hI hl hk n (f a) q).2 s' (by rw [z3 a]; exact D')
    | bad k =>
      exfalso
      have e : ∀ as, om C (n + 1) S as = .bad k := fun as => by rw [om_succ, hs]
      cases W with
      | fin e1 => rw [e] at e1; cases e1
      | stop e1 => rw [e] at e1; cases e1
      | need e1 => rw [e] at e1; cases e1
end M9
end
section
open PySem PySem.W PySem.Calls PyProof.Rows PySem.Spec
namespace M9
noncomputable def bR {α β : Type} := @PySem.W.R.bindR α β
noncomputable def rowP (P : Params) (b : Bool) : Params := { P with followText := fun s => match PySem.W.Fast.strDec s "special-get-raises" with | .isTrue _ => b | .isFalse _ => P.followText s }
noncomputable def isItF (o : Obj) : Bool := match o.cls with
  | .type n => match PySem.W.Fast.strDec n "list_iterator" with
    | .isTrue _ => true
    | .isFalse _ => match PySem.W.Fast.strDec n "range_iterator" with
      | .isTrue _ => true
      | .isFalse _ => match PySem.W.Fast.strDec n "enumerate" with
        | .isTrue _ => true
        | .isFalse _ => false
  | _ => false
noncomputable def seF (a b : String) : Bool := match PySem.W.Fast.strDec a b with
  | .isTrue _ => true
  | .isFalse _ => false
noncomputable def cfE (P : Params) (look : Nat → Option Obj) (ext : DL) (dk : Nat → Str → Option Value) : Cf where
  prog := tw
  ext := ext
  dk := dk
  se := seF
  par := P
  parT := rowP P true
  parF := rowP P false
  look := look
  isIt := isItF
  den := PySem.W.Fast.tw11892475500146522536 TB
  qt := fun c => PySem.W.Fast.tw2348191978395082540 ⟨.pure (.again c), c, ⟨0, 0, 0, 0⟩, []⟩
  exs := EX
  ev := PySem.W.Fast.tw14044960220447912780
  hb := PySem.W.Fast.tw14206642085496868694
  ro := fun c e h => PySem.W.Fast.tw9046067596548197636 c e h
  sf := PySem.W.Fast.tw5670386056902412789
  tt := PySem.W.Fast.tw1623429502029203251
  po := fun x e => PySem.W.Fast.tw4601389910855378106 "try.finally" x e
  bi := PySem.W.Fast.tw12718529260910580278
  kb := PySem.W.Fast.tw8781604461254134109
  nf := PySem.W.Fast.tw15415582192633789933 "traceback"
  st := PySem.W.Fast.tw17858455048448223758
  bu := bR
  bf := bR
  bw := bR
  bv := bR
  bx := bR
  bb := bR
  lo := PySem.W.Fast.tw1578499551869305889
  ct := PySem.W.Fast.tw1180062409338748621
  cl := cellL
noncomputable abbrev cf (P : Params) (look : Nat → Option Obj) : Cf := cfE P look [] (fun _ _ => none)
noncomputable def stBody : Stmt → List Stmt
  | .FunctionDef _ _ b _ _ _ _ _ _ _ => b
  | _ => []
noncomputable def stScope : Stmt → Scope
  | .FunctionDef _ _ _ _ _ _ sc _ _ _ => sc
  | _ => default
noncomputable def lawSt : Stmt := nth tw.main.body 61
noncomputable def lawSc : Scope := stScope lawSt
noncomputable def lawB : List Stmt := stBody lawSt
theorem bR_eq {α β : Type} : @Sem.bind α β = @bR α β := congrFun (congrFun PySem.W.R.bindR_eq α) β
theorem rows_ok (P : Params) : P = rowP P true ∨ P = rowP P false := by
  have key : ∀ b, P.followText "special-get-raises" = b → P = rowP P b := by
    intro b h
    unfold rowP
    obtain ⟨⟩ := P
    congr
    funext s
    dsimp only at h ⊢
    split
    · rename_i e _; rw [e]; exact h
    · rfl
  cases h : P.followText "special-get-raises" with
  | true => exact .inl (key _ h)
  | false => exact .inr (key _ h)
theorem tab_eq : treeTable = TB := PySem.W.Fast.te14364793385576792824
theorem cf_ok (w : World) (look : Nat → Option Obj) (ext : DL) (dk : Nat → Str → Option Value) : CfOk (cfE w.params look ext dk) (model tw w) where
  prog := rfl
  par := rfl
  rows := rows_ok _
  den := fun c => by
    show PySem.W.Fast.tw11892475500146522536 TB c = denote table c
    rw [← PySem.W.Fast.te11892475500146522536, ← tab_eq, ← table_eq_tree]
  tab := rfl
  qt := fun c => by
    show PySem.W.Fast.tw2348191978395082540 _ = _
    rw [← PySem.W.Fast.te2348191978395082540, Thread.calm_eq, Thread.loud_again, Bool.not_not]
    show (c.quiet && !false) = c.quiet
    rw [Bool.not_false, Bool.and_true]
  exs := PySem.W.Fast.te12563942051412417395.symm
  ev := PySem.W.Fast.te14044960220447912780.symm
  hb := PySem.W.Fast.te14206642085496868694.symm
  ro := fun c e h => by
    show PySem.W.Fast.tw9046067596548197636 c e h = _
    rw [← PySem.W.Fast.te9046067596548197636]
  sf := PySem.W.Fast.te5670386056902412789.symm
  tt := PySem.W.Fast.te1623429502029203251.symm
  po := fun x e => by
    show PySem.W.Fast.tw4601389910855378106 "try.finally" x e = _
    rw [← PySem.W.Fast.te4601389910855378106]
  bi := PySem.W.Fast.te12718529260910580278.symm
  kb := PySem.W.Fast.te8781604461254134109.symm
  nf := by
    show PySem.W.Fast.tw15415582192633789933 "traceback" = _
    rw [← PySem.W.Fast.te15415582192633789933]
  st := PySem.W.Fast.te17858455048448223758.symm
  bu := bR_eq.symm
  bf := bR_eq.symm
  bw := bR_eq.symm
  bv := bR_eq.symm
  bx := bR_eq.symm
  bb := bR_eq.symm
  cl := rfl
  lo := PySem.W.Fast.te1578499551869305889.symm
  ct := PySem.W.Fast.te1180062409338748621.symm
  se := fun a b => by
    show seF a b = _
    unfold seF
    split
    · rename_i e _; simp [e]
    · rename_i e _; simp [e]
theorem isItF_ok (o : Obj) (h : isItF o = true) : itCls o := by
  unfold isItF at h
  unfold itCls
  split at h
  · rename_i n hn
    rw [hn]
    split at h
    · rename_i e _; exact .inl (congrArg Value.type e)
    · split at h
      · rename_i e _; exact .inr (.inl (congrArg Value.type e))
      · split at h
        · rename_i e _; exact .inr (.inr (congrArg Value.type e))
        · cases h
  · cases h
end M9
end
section
open PySem PySem.W PySem.Calls PyProof.Rows PySem.Spec
namespace M9
structure Plain (g : PySem.Ctx) (p : Pos) (f : Value) (vs : List Value) : Prop where
  code : g.code = .call f ⟨vs, []⟩
  handled : g.handled = none
  own : g.own = none
  past : g.past = none
  below : ∃ x r, g.below = (x, p) :: r
theorem call_code {M : Model} {g : PySem.Ctx} {f : Value} {vs : List Value} {Q : Value → Shared → Prop} {p : Pos} {s : Shared} (G : Plain g p f vs)
    (h : ∀ A : Around, A.handled = none → wpAny M A (PySem.call f vs) Q (fun _ _ => False) s) : wpCode M g (fun r s' => ∃ v, r = .ok (.ret v) ∧ Q v s') p s := by
  obtain ⟨code, handled, own, below, past⟩ := g
  obtain ⟨hc, hh, ho, hp, c0, rest, hb⟩ := G
  dsimp only at hc hh ho hp hb
  subst hc hh ho hp hb
  have z := wp_of_any (Γ := ⟨c0, none, none, rest, none⟩) (p := p) (h (aroundOf ⟨c0, none, none, rest, none⟩) rfl)
  have z : Sem.wp M ⟨c0, none, none, rest, none⟩ (runValue (.call f ⟨vs, []⟩)) (fun a _ s' => Q a s') (fun _ _ _ => False) p s := z
  unfold runValue at z
  rw [Sem.wp_bind'] at z
  obtain ⟨r, s', hr, h2⟩ := z
  refine ⟨r, s', hr, ?_⟩
  cases r with
  | error e => exact (h2 : False).elim
  | ok fl =>
    cases fl with
    | ret v => exact ⟨v, rfl, h2⟩
    | _ => exact (h2 : False).elim
theorem wpCode_mono {M : Model} {g : PySem.Ctx} {R R' : Result → Shared → Prop} {p : Pos} {s : Shared} (h : wpCode M g R p s) (k : ∀ r s', R r s' → R' r s') : wpCode M g R' p s := by
  obtain ⟨r, s', x, y⟩ := h
  exact ⟨r, s', x, k _ _ y⟩
section
variable {prog : Program} {w : World} {g : PySem.Ctx} {p : Pos} {s : Shared} {x y : Int} {t u : Tok}
theorem lt_code (G : Plain g p (.builtin "int.__lt__") [.int x t, .int y u]) : wpCode (model prog w) g (fun r s' => r = .ok (.ret (.bool (decide (x < y)))) ∧ s' = s) p s :=
  wpCode_mono (call_code (Q := fun v s' => v = .bool (decide (x < y)) ∧ s' = s) G fun A _ => call_gives F.slot_int_lt (typeIs_int _ _ _) F.entry_int_lt (F.args_int_lt_2 _ _) (gives_int_lt x y t u) ⟨rfl, rfl⟩)
    fun r s' ⟨v, hr, hv, hs⟩ => ⟨by rw [hr, hv], hs⟩
theorem gt_code (G : Plain g p (.builtin "int.__gt__") [.int x t, .int y u]) : wpCode (model prog w) g (fun r s' => r = .ok (.ret (.bool (decide (x > y)))) ∧ s' = s) p s :=
  wpCode_mono (call_code (Q := fun v s' => v = .bool (decide (x > y)) ∧ s' = s) G fun A _ => call_gives F.slot_int_gt (typeIs_int _ _ _) F.entry_int_gt (F.args_int_gt_2 _ _) (gives_int_gt x y t u) ⟨rfl, rfl⟩)
    fun r s' ⟨v, hr, hv, hs⟩ => ⟨by rw [hr, hv], hs⟩
theorem mul_code (G : Plain g p (.builtin "int.__mul__") [.int x t, .int y u]) (hm : IntMulOk x y) : wpCode (model prog w) g (fun r s' => r = .ok (.ret (.int (x * y) s.toks)) ∧ s' = { s with toks := s.toks + 1 }) p s :=
  wpCode_mono (call_code (Q := fun v s' => v = .int (x * y) s.toks ∧ s' = { s with toks := s.toks + 1 }) G fun A _ => call_gives F.slot_int_mul (typeIs_int _ _ _) F.entry_int_mul (F.args_int_mul_2 _ _) (AutoIntG1.int___mul___int_int_0 x t y u hm) ⟨rfl, rfl⟩)
    fun r s' ⟨v, hr, hv, hs⟩ => ⟨by rw [hr, hv], hs⟩
theorem mod_code (G : Plain g p (.builtin "int.__mod__") [.int x t, .int y u]) (h0 : y ≠ 0) : wpCode (model prog w) g (fun r s' => r = .ok (.ret (.int (x.fmod y) s.toks)) ∧ s' = { s with toks := s.toks + 1 }) p s :=
  wpCode_mono (call_code (Q := fun v s' => v = .int (x.fmod y) s.toks ∧ s' = { s with toks := s.toks + 1 }) G fun A _ => call_gives F.slot_int_mod (typeIs_int _ _ _) F.entry_int_mod (F.args_int_mod_2 _ _) (AutoIntG6.int___mod___int_int_1 x t y u (by simpa using h0)) ⟨rfl, rfl⟩)
    fun r s' ⟨v, hr, hv, hs⟩ => ⟨by rw [hr, hv], hs⟩
theorem div_code (G : Plain g p (.builtin "int.__floordiv__") [.int x t, .int y u]) (h0 : y ≠ 0) (hy : y.natAbs < 1000) : wpCode (model prog w) g (fun r s' => r = .ok (.ret (.int (x.fdiv y) s.toks)) ∧ s' = { s with toks := s.toks + 1 }) p s := by
  have hp : ¬ (Builtin.divisionGoesByPylong x y) = true := by
    unfold Builtin.divisionGoesByPylong
    dsimp only
    have : y.natAbs.log2 < 10 := by
      rw [Nat.log2_lt (by omega)]; omega
    simp only [gt_iff_lt, Bool.and_eq_true, decide_eq_true_eq, not_and]
    intro h
    exfalso
    split at h <;> omega
  exact wpCode_mono (call_code (Q := fun v s' => v = .int (x.fdiv y) s.toks ∧ s' = { s with toks := s.toks + 1 }) G fun A _ => call_gives F.slot_int_floordiv (typeIs_int _ _ _) F.entry_int_floordiv (F.args_int_floordiv_2 _ _) (AutoIntG4.int___floordiv___int_int_1 x t y u (by simpa using h0) hp) ⟨rfl, rfl⟩)
    fun r s' ⟨v, hr, hv, hs⟩ => ⟨by rw [hr, hv], hs⟩
theorem item_code {l : Addr} {items : Array Value} {k : Int} {v : Value} (G : Plain g p (.builtin "list.__getitem__") [.ref l, .int k t]) (hl : s.heap.IsList l items) (h0 : 0 ≤ k) (hk : k < 2 ^ 63) (hx : items[k.toNat]? = some v) :
    wpCode (model prog w) g (fun r s' => r = .ok (.ret v) ∧ s' = s) p s := by
  refine wpCode_mono (call_code (Q := fun v' s' => v' = v ∧ s' = s) G fun A _ => wpAny_call_entry slot_list_getitem hl.typeIs entry_list_getitem ?_ (args_list_getitem _ _)) fun r s' ⟨v', hr, hv, hs⟩ => ⟨by rw [hr, hv], hs⟩
  obtain ⟨o, ho, hc, ne, hd⟩ := id hl
  show wpAny _ _ (Builtin.List.listSubscript? (.int k t) >>= _) _ _ s
  refine wpAny_bind (wpAny_listSubscript_int (fitsIndex_of h0 hk) ?_)
  obtain ⟨j, rfl⟩ := Int.eq_ofNat_of_zero_le h0
  have hx' : items[j]? = some v := hx
  show wpAny _ _ ((seqItemAt l j >>= fun r => pure (r.map (j, ·))) >>= _) _ _ s
  refine wpAny_bind (wpAny_bind (wpAny_seqItemAt ho hd (wpAny_pure ?_)))
  rw [hx']
  exact wpAny_pure ⟨v, rfl, rfl, rfl⟩
end
noncomputable def vNeed : Out → Option (Nat × Code × Option Value × Option Value × Option Value × Pos × Option Pos × DL × Nat × List (Nat × Nat) × Nat × Nat)
  | .need tag _ g p h _ => some (tag, g.code, g.handled, g.own, g.past, p, (match g.below with | x :: _ => some x.2 | [] => none), h.D, h.m, h.bs, h.tb, h.i)
  | _ => none
noncomputable def vFin : Out → Option (Result × DL × Nat × List (Nat × Nat) × Nat × Nat)
  | .fin r h _ => some (r, h.D, h.m, h.bs, h.tb, h.i)
  | _ => none
noncomputable def vStop : Out → Option (PySem.Ctx × Pos × List K1 × List LF × Sem Fin × DL × Nat × List (Nat × Nat) × Nat × Nat)
  | .stop S => some (S.Γ, S.p, S.κ, S.l, S.t, S.h.D, S.h.m, S.h.bs, S.h.tb, S.h.i)
  | _ => none
noncomputable def outX : Out → BT
  | .stop S => S.h.X
  | .fin _ h _ => h.X
  | .need _ _ _ _ h _ => h.X
  | .bad _ => .nil
noncomputable def vX (l : List Nat) (o : Out) : List (Option Obj) := l.map fun a => (outX o).get a
noncomputable def vA : Out → List Nat × List (Sem Fin)
  | .fin _ _ b => (b.o1, b.t1)
  | .need _ _ _ _ _ b => (b.o1, b.t1)
  | .stop S => (S.b.o1, S.b.t1)
  | .bad _ => ([], [])
noncomputable def vB : Out → List Nat × List (Sem Fin)
  | .fin _ _ b => (b.o2, b.t2)
  | .need _ _ _ _ _ b => (b.o2, b.t2)
  | .stop S => (S.b.o2, S.b.t2)
  | .bad _ => ([], [])
section
variable {M : Model} {h₀ : Heap} {E₁ : DL} {os : OsState} {dr : Drawn} {R : Result → Shared → Prop} {F : List Ans → Out}
theorem Win.fin' {r : Result} {D : DL} {m : Nat} {bs : List (Nat × Nat)} {tb i : Nat} (e : vFin (F []) = some (r, D, m, bs, tb, i)) (ok : vA (F []) = vB (F []))
    (x : ∀ s, Rep h₀ E₁ os dr ⟨D, outX (F []), m, bs, tb, i⟩ s → R r s) : Win M h₀ E₁ os dr R F := by
  generalize hF : F [] = o at e ok x
  cases o with
  | fin r' h b =>
    cases e
    exact .fin hF ⟨congrArg Prod.fst ok, congrArg Prod.snd ok⟩ x
  | _ => cases e
theorem Win.stop' {Γ : PySem.Ctx} {p : Pos} {κ : List K1} {l : List LF} {t : Sem Fin} {D : DL} {m : Nat} {bs : List (Nat × Nat)} {tb i : Nat} (e : vStop (F []) = some (Γ, p, κ, l, t, D, m, bs, tb, i)) (ok : vA (F []) = vB (F []))
    (x : ∀ s, Rep h₀ E₁ os dr ⟨D, outX (F []), m, bs, tb, i⟩ s → Conf M (KR M R κ) Γ l t p s) : Win M h₀ E₁ os dr R F := by
  generalize hF : F [] = o at e ok x
  cases o with
  | stop S =>
    obtain ⟨Γ', p', κ', l', t', h', b'⟩ := S
    cases e
    exact .stop hF ⟨congrArg Prod.fst ok, congrArg Prod.snd ok⟩ x
  | _ => cases e
theorem Win.need' {tg : Nat} {f : Value} {vs : List Value} {p : Pos} {D : DL} {m : Nat} {bs : List (Nat × Nat)} {tb i : Nat} (e : vNeed (F []) = some (tg, .call f ⟨vs, []⟩, none, none, none, p, some p, D, m, bs, tb, i)) (ok : vA (F []) = vB (F []))
    (V : Ans → Prop)
    (x : ∀ g s, Plain g p f vs → Rep h₀ E₁ os dr ⟨D, outX (F []), m, bs, tb, i⟩ s → wpCode M g (fun r s' => ∃ a, a.res = r ∧ V a ∧ Rep h₀ E₁ os dr (a.up ⟨D, outX (F []), m, bs, tb, i⟩) s') p s)
    (y : ∀ a, V a → Win M h₀ E₁ os dr R fun as => F (a :: as)) : Win M h₀ E₁ os dr R F := by
  generalize hF : F [] = o at e ok x
  cases o with
  | need tg' c g p' h b =>
    obtain ⟨D', X', m', bs', tb', i'⟩ := h
    have e := Option.some.inj e
    simp only [Prod.mk.injEq] at e
    obtain ⟨rfl, e2, e3, e4, e5, rfl, e7, rfl, rfl, rfl, rfl, rfl⟩ := e
    refine .need hF ⟨congrArg Prod.fst ok, congrArg Prod.snd ok⟩ V (fun s D => x g s ⟨e2, e3, e4, e5, ?_⟩ D) y
    revert e7
    cases hb : g.below with
    | nil => intro e7; cases e7
    | cons x r =>
      intro e7
      obtain ⟨c, q⟩ := x
      cases e7
      exact ⟨c, r, rfl⟩
  | _ => cases e
theorem Win.needG {tg : Nat} {g : PySem.Ctx} {p : Pos} {D : DL} {m : Nat} {bs : List (Nat × Nat)} {tb i : Nat} (e : (match F [] with | .need tag _ g p h _ => some (tag, g, p, h.D, h.m, h.bs, h.tb, h.i) | _ => none) = some (tg, g, p, D, m, bs, tb, i)) (ok : vA (F []) = vB (F []))
    (V : Ans → Prop)
    (x : ∀ s, Rep h₀ E₁ os dr ⟨D, outX (F []), m, bs, tb, i⟩ s → wpCode M g (fun r s' => ∃ a, a.res = r ∧ V a ∧ Rep h₀ E₁ os dr (a.up ⟨D, outX (F []), m, bs, tb, i⟩) s') p s)
    (y : ∀ a, V a → Win M h₀ E₁ os dr R fun as => F (a :: as)) : Win M h₀ E₁ os dr R F := by
  generalize hF : F [] = o at e ok x
  cases o with
  | need tg' c g' p' h b =>
    obtain ⟨D', X', m', bs', tb', i'⟩ := h
    cases e
    exact .need hF ⟨congrArg Prod.fst ok, congrArg Prod.snd ok⟩ V x y
  | _ => cases e
end
theorem code_of_run {P : Program} {w : World} {C : Cf} {R : Result → Shared → Prop} {h₀ : Heap} {os : OsState} {dr : Drawn} (hC : CfOk C (model P w)) (hI : ∀ o, C.isIt o = true → itCls o) (hl : ∀ a o, C.look a = some o → h₀.get? a = some o) (hk : ∀ d x v, C.dk d x = some v → ∃ f, h₀.MapOf (strKind P w) d f ∧ f x = some v)
    {n : Nat} {g : PySem.Ctx} {p : Pos} {h : Hs} {orc : Nat} {s : Shared} (W : Win (model P w) h₀ C.ext os dr R (om C n ⟨g, p, [], [], C.den g.code, h, ⟨orc, [], [], [], []⟩⟩)) (D : Rep h₀ C.ext os dr h s) : wpCode (model P w) g R p s := by
  have z := (om_sound hC hI hl hk n _ W).2 s D
  have z : Sem.wp (model P w) g (C.den g.code) (Sem.finPost (model P w) g R) (fun e _ s => R (.error e) s) p s := z
  rw [hC.den] at z
  exact (Sem.wp_iff_runs (model P w) g _ _ p s).mp z
end M9
end
section
open PySem PySem.W PySem.Calls PyProof.Rows PySem.Spec
namespace M9
noncomputable abbrev p0 : Pos := ⟨0, 0, 0, 0⟩
noncomputable def lst (c : Array Value) : Obj := ⟨.type PySem.W.SL.s9222952809800978799x4, none, .seq c 0, ⟨[]⟩⟩
noncomputable def envL : Env := ({ scope := lawSc, locals := 1339, globals := 3, cells := [], qual := (⟨⟨[108, 97, 119, 46, 60, 108, 111, 99, 97, 108, 115, 62, 46]⟩⟩ : Str), func := some 1337, code := (.ref 1336), frame := some 1339, builtins := 0 } : Env)
noncomputable def ΓL : PySem.Ctx := ⟨.func lawB envL, none, none, [(.builtin "claim.caller" {}, p0)], none⟩
noncomputable def w1341 (c : Array Value) : Obj := lst c
noncomputable def w1360  : Obj := (⟨(.ref 1058), some 1359, .plain, ⟨[]⟩⟩ : Obj)
noncomputable def w1377 (P : Params) : Obj := (⟨(.type PySem.W.SL.s9222952809800978799x4), none, .seq ⟨[]⟩ 0, ⟨[]⟩⟩ : Obj)
noncomputable def w1379 (P : Params) (t1 : Nat) : Obj := (⟨(.type PySem.W.SL.s14018661285674007319x4), none, .dict ⟨[e P s251 (t1 + 111) (.int 3 (t1 + 107)), e P s276 (t1 + 114) (.int 2 (t1 + 623)), e P s277 (t1 + 116) (.ref 1382)]⟩ 3, ⟨[]⟩⟩ : Obj)
noncomputable def w1380  : Obj := (⟨(.ref 224), some 1379, .plain, ⟨[]⟩⟩ : Obj)
noncomputable def w1384 (P : Params) (t1 : Nat) : Obj := (⟨(.type PySem.W.SL.s14018661285674007319x4), none, .dict ⟨[e P s372 (t1 + 128) (.int 9 (t1 + 106)), e P s277 (t1 + 130) (.ref 1380), e P s282 (t1 + 132) .none, e P s284 (t1 + 134) (.ref 1360), e P s285 (t1 + 136) (.ref 1383), e P s406 (t1 + 138) (.int 48 (t1 + 117)), e P s153 (t1 + 140) (.ref 1387)]⟩ 7, ⟨[]⟩⟩ : Obj)
noncomputable def w1385  : Obj := (⟨(.ref 880), some 1384, .plain, ⟨[]⟩⟩ : Obj)
noncomputable def w1387 (P : Params) : Obj := (⟨(.type PySem.W.SL.s9222952809800978799x4), none, .seq ⟨[(.ref 1451), (.ref 1456)]⟩ 2, ⟨[]⟩⟩ : Obj)
noncomputable def w1388 (P : Params) (t1 : Nat) : Obj := (⟨(.type PySem.W.SL.s14018661285674007319x4), none, .dict ⟨[e P s507 (t1 + 301) (.ref 1393), e P s562 (t1 + 304) (.int 2 (t1 + 400)), e P s419 (t1 + 308) (.int 2 (t1 + 306)), e P s561 (t1 + 310) (.ref 1396), e P s209 (t1 + 312) .none]⟩ 5, ⟨[]⟩⟩ : Obj)
noncomputable def w1389  : Obj := (⟨(.ref 1258), some 1388, .plain, ⟨[]⟩⟩ : Obj)
noncomputable def w1395 (P : Params) (t1 : Nat) : Obj := (⟨(.type PySem.W.SL.s14018661285674007319x4), none, .dict ⟨[e P s344 (t1 + 152) (.int 0 (t1 + 147)), e P s302 (t1 + 156) (.int 1 (t1 + 302)), e P s326 (t1 + 158) (.str s205 1619), e P s522 (t1 + 160) .none, e P s526 (t1 + 162) .none, e P s525 (t1 + 166) (.ref 1427), e P s523 (t1 + 169) (.int 0 (t1 + 364)), e P s281 (t1 + 171) (.ref 1429), e P s517 (t1 + 173) .none, e P s521 (t1 + 176) (.str s561 (t1 + 342)), e P s246 (t1 + 178) .none, e P s520 (t1 + 180) (.bool false), e P s313 (t1 + 183) (.int 0 (t1 + 378)), e P s518 (t1 + 185) .none, e P s524 (t1 + 188) (.int 0 (t1 + 383)), e P s527 (t1 + 190) .none, e P s529 (t1 + 192) .none, e P s519 (t1 + 194) .none, e P s528 (t1 + 197) (.int 0 (t1 + 392))]⟩ 19, ⟨[]⟩⟩ : Obj)
noncomputable def w1396  : Obj := (⟨(.ref 1115), some 1395, .plain, ⟨[]⟩⟩ : Obj)
noncomputable def w1415 (P : Params) (t1 : Nat) : Obj := (⟨(.type PySem.W.SL.s14018661285674007319x4), none, .dict ⟨[e P s280 (t1 + 321) (.ref 1389), e P s281 (t1 + 323) (.ref 1385), e P s282 (t1 + 325) .none, e P s283 (t1 + 327) .none, e P s284 (t1 + 329) (.ref 1360), e P s285 (t1 + 331) (.ref 1418), e P s278 (t1 + 334) (.int 0 (t1 + 332))]⟩ 7, ⟨[]⟩⟩ : Obj)
noncomputable def w1416  : Obj := (⟨(.ref 252), some 1415, .plain, ⟨[]⟩⟩ : Obj)
noncomputable def w1419 (P : Params) (t1 : Nat) : Obj := (⟨(.type PySem.W.SL.s14018661285674007319x4), none, .dict ⟨[e P s300 (t1 + 338) (.ref 1416)]⟩ 1, ⟨[]⟩⟩ : Obj)
noncomputable def w1420  : Obj := (⟨(.ref 399), some 1419, .plain, ⟨[]⟩⟩ : Obj)
noncomputable def w1428 (P : Params) (t1 : Nat) : Obj := (⟨(.type PySem.W.SL.s14018661285674007319x4), none, .dict ⟨[e P s372 (t1 + 416) (.int 4 (t1 + 411)), e P s473 (t1 + 418) (.ref 1432)]⟩ 2, ⟨[]⟩⟩ : Obj)
noncomputable def w1429  : Obj := (⟨(.ref 947), some 1428, .plain, ⟨[]⟩⟩ : Obj)
noncomputable def w1432 (P : Params) : Obj := (⟨(.type PySem.W.SL.s9222952809800978799x4), none, .seq ⟨[(.ref 1451), (.ref 1456), .none, .none]⟩ 0, ⟨[]⟩⟩ : Obj)
noncomputable def w1444  : Obj := (⟨(.ref 181), some 1443, .plain, ⟨[]⟩⟩ : Obj)
noncomputable def w1473 (P : Params) (t1 : Nat) : Obj := (⟨(.type PySem.W.SL.s14018661285674007319x4), none, .dict ⟨[e P s504 (t1 + 582) (.ref 1420), e P s284 (t1 + 583) (.ref 1360), e P s561 (t1 + 584) (.ref 1396), e P s277 (t1 + 585) (.ref 1380), e P (⟨⟨[111, 119, 110]⟩⟩ : Str) (t1 + 592) (.ref 1477), e P s447 (t1 + 626) (.ref 1480)]⟩ 6, ⟨[]⟩⟩ : Obj)
noncomputable def w1477  : Obj := (⟨(.ref 181), some 1476, .plain, ⟨[]⟩⟩ : Obj)
noncomputable def frE (P : Params) (t0 t1 : Nat) : List DictEntry := [e P s568 (t0 + 0) (.ref 1338), e P s569 (t0 + 2) (.ref 1341), e P s565 (t1 + 629) (.ref 1473), e P s563 (t1 + 630) (.ref 1346)]
noncomputable def frE2 (P : Params) (t0 t1 kt : Nat) (v : Value) : List DictEntry := [e P s568 (t0 + 0) (.ref 1338), e P s569 (t0 + 2) (.ref 1341), e P s565 (t1 + 629) (.ref 1473), e P s563 (t1 + 630) (.ref 1346), e P s570 kt v]
noncomputable def frO (es : List DictEntry) (n : Nat) (sl : Array (Option Value)) : Obj := ⟨(.type PySem.W.SL.s658472552662922059x5), none, .dict ⟨es⟩ n, sl⟩
noncomputable def boxO (t1 : Nat) (sm k : Int) (tk : Nat) : Obj := (⟨(.type PySem.W.SL.s9222952809800978799x4), none, .seq ⟨[(.ref 1341), (.int k tk), (.int (Int.fmod sm 997) (t1 + 1))]⟩ 0, ⟨[]⟩⟩ : Obj)
noncomputable def jrO (P : Params) (t1 jt : Nat) : Obj := (⟨(.type PySem.W.SL.s14018661285674007319x4), none, .dict ⟨[e P s486 (t1 + 69) (.ref 1355), e P s487 (t1 + 71) (.int 2 (t1 + 56)), e P s251 (t1 + 73) (.int 8 (t1 + 57)), e P s507 (t1 + 81) (.int 7 (t1 + 75)), e P s372 (t1 + 86) (.int 7 (t1 + 75)), e P s488 (t1 + 91) (.int 7 (t1 + 75)), e P s498 (t1 + 96) (.ref 1377), e P s506 (t1 + 98) (.ref 1378), e P s504 (t1 + 101) (.int 0 jt), e P s505 (t1 + 104) (.int 0 (t1 + 102))]⟩ 10, ⟨[]⟩⟩ : Obj)
noncomputable def pipO (t1 : Nat) (b : Bool) : Obj := match b with
  | true => (⟨(.type PySem.W.SL.s14018661285674007319x4), none, .dict ⟨[⟨0, (.int 0 (t1 + 112)), (.ref 1444)⟩, ⟨1, (.int 1 (t1 + 474)), (.ref 1477)⟩]⟩ 2, ⟨[]⟩⟩ : Obj)
  | false => (⟨(.type PySem.W.SL.s14018661285674007319x4), none, .dict ⟨[⟨0, (.int 0 (t1 + 112)), (.ref 1444)⟩]⟩ 3, ⟨[]⟩⟩ : Obj)
noncomputable def ownO (P : Params) (t1 : Nat) (er ew : Bool) : Obj := (⟨(.type PySem.W.SL.s14018661285674007319x4), none, .dict ⟨[e P s250 (t1 + 602) (.int 1 (t1 + 474)), e P s251 (t1 + 604) (.int 3 (t1 + 107)), e P s267 (t1 + 606) (.ref 1479), e P s265 (t1 + 609) (.int 0 (t1 + 607)), e P s268 (t1 + 612) (.int 0 (t1 + 610)), e P s266 (t1 + 614) (.bool er), e P s269 (t1 + 616) (.bool ew)]⟩ 7, ⟨[]⟩⟩ : Obj)
noncomputable def endO (er ew : Bool) : Obj := (⟨(.type PySem.W.SL.s9222952809800978799x4), none, .seq ⟨[(.bool er), (.bool ew)]⟩ 0, ⟨[]⟩⟩ : Obj)
noncomputable def wList (P : Params) (t1 : Nat) (its c : Array Value) : DL := [(nat_lit 1338, lst its), (nat_lit 1341, lst c), (nat_lit 1360, w1360), (nat_lit 1377, w1377 P), (nat_lit 1379, w1379 P t1), (nat_lit 1380, w1380), (nat_lit 1384, w1384 P t1), (nat_lit 1385, w1385), (nat_lit 1387, w1387 P), (nat_lit 1388, w1388 P t1), (nat_lit 1389, w1389), (nat_lit 1395, w1395 P t1), (nat_lit 1396, w1396), (nat_lit 1415, w1415 P t1), (nat_lit 1416, w1416), (nat_lit 1419, w1419 P t1), (nat_lit 1420, w1420), (nat_lit 1428, w1428 P t1), (nat_lit 1429, w1429), (nat_lit 1432, w1432 P), (nat_lit 1444, w1444), (nat_lit 1473, w1473 P t1), (nat_lit 1477, w1477)]
noncomputable def turnLow (a : Nat) : Bool := match Nat.ble 1292 a with
  | false => false
  | true => match Nat.beq a 1292 with
    | true => true
    | false => match Nat.beq a 1299 with
      | true => true
      | false => match Nat.beq a 1306 with
        | true => true
        | false => match Nat.beq a 1313 with
          | true => true
          | false => Nat.beq a 1332
noncomputable def lookW (P : Params) (t1 : Nat) (its c : Array Value) (a : Nat) : Option Obj := match Nat.blt a 1338 with
  | true => match turnLow a with
    | true => none
    | false => (T25 tw P).get a
  | false => lookD (wList P t1 its c) a
noncomputable def findS : List (Str × Value) → Str → Option Value
  | [], _ => none
  | y :: l, x => match eqS y.1 x with
    | true => some y.2
    | false => findS l x
noncomputable def ownS : Str := ⟨⟨[111, 119, 110]⟩⟩
noncomputable def wDict : List (Str × Value) := [(s504, .ref 1420), (s284, .ref 1360), (s561, .ref 1396), (s277, .ref 1380), (ownS, .ref 1477), (s447, .ref 1480)]
noncomputable def dkW (d : Nat) (x : Str) : Option Value := match Nat.beq d 1473 with
  | true => findS wDict x
  | false => none
theorem eqL_ok : ∀ {l r : List Nat}, eqL l r = decide (l = r)
  | [], [] => rfl
  | [], _ :: _ => by simp [eqL]
  | _ :: _, [] => by simp [eqL]
  | x :: l, y :: r => by
    show (match Nat.beq x y with | true => eqL l r | false => false) = _
    rw [BT.beq_eq]
    by_cases h : x = y
    · rw [decide_eq_true h]
      show eqL l r = _
      rw [eqL_ok]
      simp [h]
    · rw [decide_eq_false h]
      simp [h]
theorem eqS_ok {x y : Str} : eqS x y = decide (x = y) := by
  obtain ⟨⟨l⟩⟩ := x
  obtain ⟨⟨r⟩⟩ := y
  show eqL l r = _
  rw [eqL_ok]
  simp
theorem dk_ok {w : World} {h₀ : Heap} {t1 : Nat} (h : h₀.get? 1473 = some (w1473 w.params t1)) (d : Nat) (x : Str) (v : Value) (e : dkW d x = some v) :
    ∃ f, h₀.MapOf (PySem.strKind tw w) d f ∧ f x = some v := by
  unfold dkW at e
  rw [BT.beq_eq] at e
  by_cases hd : d = 1473
  · rw [decide_eq_true hd] at e
    subst hd
    refine ⟨findBy (PySem.strKind tw w).is (⟨[M9.e w.params s504 (t1 + 582) (.ref 1420), M9.e w.params s284 (t1 + 583) (.ref 1360), M9.e w.params s561 (t1 + 584) (.ref 1396), M9.e w.params s277 (t1 + 585) (.ref 1380), M9.e w.params ownS (t1 + 592) (.ref 1477), M9.e w.params s447 (t1 + 626) (.ref 1480)]⟩ : Array DictEntry),
      ⟨_, _, _, h, ⟨rfl, rfl, rfl⟩, rfl, fun y hy => ?_, fun _ => rfl⟩, ?_⟩
    · have key : ∀ (z : Str) (t : Nat) (u : Value), ∃ k, (PySem.strKind tw w).is k (M9.e w.params z t u).key = true ∧ (M9.e w.params z t u).hash = (PySem.strKind tw w).hash k := fun z t u => ⟨z, PySem.strKind_is _ _ _ _, rfl⟩
      simp only [List.mem_toArray, List.mem_cons, List.not_mem_nil, or_false] at hy
      rcases hy with rfl | rfl | rfl | rfl | rfl | rfl <;> exact key _ _ _
    · have e : findS wDict x = some v := e
      unfold findBy
      rw [← Array.find?_toList]
      simp only [wDict, findS, eqS_ok] at e
      simp only [List.find?_cons, M9.e, PySem.strKind, Value.isStrOf]
      revert e
      simp only [show ∀ y : Str, (y == x) = decide (y = x) from fun y => by by_cases q : y = x <;> simp [q]]
      repeat' (first | (intro e; exact e) | split)
      all_goals (intro e; first | exact e | (simp_all; done))
  · rw [decide_eq_false hd] at e; cases e
end M9
end
section
open PySem PySem.W PySem.Calls PyProof.Rows PySem.Spec
namespace M9
noncomputable def ΓT (mn : Int) (tm : Nat) (bl : List (Code × Pos)) : PySem.Ctx := ⟨.call (.ref 1269) ⟨[.ref 1346, .int mn tm], []⟩, none, none, bl, none⟩
noncomputable def orcT : Nat := nat_lit 16636018164724889157472833647443463304571294944776061290279137636351765995669172219152181510631957426066179187213456799254597074944
noncomputable def tkOut (P : Params) (t1 : Nat) (its c : Array Value) (sm k mn : Int) (tk tm : Nat) (bl : List (Code × Pos)) (p : Pos) (B T : Nat) (as : List Ans) : Out :=
  om (cf P (lookW P t1 its c)) (nat_lit 140) ⟨ΓT mn tm bl, p, [], [], (cf P (lookW P t1 its c)).den (ΓT mn tm bl).code, ⟨[(nat_lit 1346, boxO t1 sm k tk)], .nil, nat_lit 0, [(nat_lit 0, B)], T, nat_lit 0⟩, ⟨orcT, [], [], [], []⟩⟩ as
noncomputable def aLen (L : Int) (tL : Nat) : Ans := ⟨.ok (.ret (.int L tL)), fun h => tick (tick h), nat_lit 1025⟩
noncomputable def aLt (b : Bool) : Ans := ⟨.ok (.ret (.bool b)), fun h => h, match b with | true => nat_lit 2596148429268594405885965575913473 | false => nat_lit 3073⟩
noncomputable def aItem (x : Int) (tx : Nat) : Ans := ⟨.ok (.ret (.int x tx)), fun h => h, nat_lit 5243904⟩
noncomputable def aMul (x : Int) (tx : Nat) : Ans := ⟨.ok (.ret (.int x tx)), tick, nat_lit 4097⟩
noncomputable def aDiv (x : Int) (tx : Nat) : Ans := ⟨.ok (.ret (.int x tx)), tick, nat_lit 6339490941180432387758415152128⟩
noncomputable def aMod (x : Int) (tx : Nat) : Ans := ⟨.ok (.ret (.int x tx)), tick, nat_lit 0⟩
structure TkOk (w : World) (bl : List (Code × Pos)) : Prop where
  s0 : ∀ (t1 : Nat) (its c : Array Value) (sm k mn : Int) (tk tm : Nat) (p : Pos) (B T : Nat) , (fun P => (vNeed (tkOut P t1 its c sm k mn tk tm bl p B T []), vA (tkOut P t1 its c sm k mn tk tm bl p B T []))) w.params = (fun P => (some (nat_lit 5, .call (.builtin "len") ⟨[.ref 1341], []⟩, none, none, none, ⟨888, 29, 888, 40⟩, some ⟨888, 29, 888, 40⟩, [(nat_lit 1346, boxO t1 sm (k + 1) (T + 5))], nat_lit 1, [(nat_lit 0, B)], T, nat_lit 8), vB (tkOut P t1 its c sm k mn tk tm bl p B T []))) w.params
  s1 : ∀ (t1 : Nat) (its c : Array Value) (sm k mn : Int) (tk tm : Nat) (p : Pos) (B T : Nat) (L : Int) (tL : Nat), (fun P => (vNeed (tkOut P t1 its c sm k mn tk tm bl p B T [aLen L tL]), vA (tkOut P t1 its c sm k mn tk tm bl p B T [aLen L tL]))) w.params = (fun P => (some (nat_lit 0, .call (.builtin "int.__lt__") ⟨[.int k tk, .int L tL], []⟩, none, none, none, ⟨888, 25, 888, 40⟩, some ⟨888, 25, 888, 40⟩, [(nat_lit 1346, boxO t1 sm (k + 1) (T + 5))], nat_lit 1, [(nat_lit 0, B)], T, nat_lit 10), vB (tkOut P t1 its c sm k mn tk tm bl p B T [aLen L tL]))) w.params
  s2 : ∀ (t1 : Nat) (its c : Array Value) (sm k mn : Int) (tk tm : Nat) (p : Pos) (B T : Nat) (L : Int) (tL : Nat), (fun P => (vNeed (tkOut P t1 its c sm k mn tk tm bl p B T [aLen L tL, aLt true]), vA (tkOut P t1 its c sm k mn tk tm bl p B T [aLen L tL, aLt true]))) w.params = (fun P => (some (nat_lit 1, .call (.builtin "list.__getitem__") ⟨[.ref 1341, .int k tk], []⟩, none, none, none, ⟨888, 12, 888, 21⟩, some ⟨888, 12, 888, 21⟩, [(nat_lit 1346, boxO t1 sm (k + 1) (T + 5))], nat_lit 1, [(nat_lit 0, B)], T, nat_lit 11), vB (tkOut P t1 its c sm k mn tk tm bl p B T [aLen L tL, aLt true]))) w.params
  s3 : ∀ (t1 : Nat) (its c : Array Value) (sm k mn : Int) (tk tm : Nat) (p : Pos) (B T : Nat) (L : Int) (tL : Nat) (x : Int) (tx : Nat), (fun P => (vNeed (tkOut P t1 its c sm k mn tk tm bl p B T [aLen L tL, aLt true, aItem x tx]), vA (tkOut P t1 its c sm k mn tk tm bl p B T [aLen L tL, aLt true, aItem x tx]))) w.params = (fun P => (some (nat_lit 4, .call (.builtin "int.__mod__") ⟨[.int x tx, .int mn tm], []⟩, none, none, none, ⟨888, 11, 888, 77⟩, some ⟨888, 11, 888, 77⟩, [(nat_lit 1346, boxO t1 sm (k + 1) (T + 5))], nat_lit 1, [(nat_lit 0, B)], T, nat_lit 11), vB (tkOut P t1 its c sm k mn tk tm bl p B T [aLen L tL, aLt true, aItem x tx]))) w.params
  s4 : ∀ (t1 : Nat) (its c : Array Value) (sm k mn : Int) (tk tm : Nat) (p : Pos) (B T : Nat) (L : Int) (tL : Nat) (x : Int) (tx : Nat) (m : Int) (tw : Nat), (fun P => (vFin (tkOut P t1 its c sm k mn tk tm bl p B T [aLen L tL, aLt true, aItem x tx, aMod m tw]), vA (tkOut P t1 its c sm k mn tk tm bl p B T [aLen L tL, aLt true, aItem x tx, aMod m tw]))) w.params = (fun P => (some (.ok (.ret (.int m tw)), [(nat_lit 1346, boxO t1 sm (k + 1) (T + 5))], nat_lit 1, [(nat_lit 0, B)], T, nat_lit 12), vB (tkOut P t1 its c sm k mn tk tm bl p B T [aLen L tL, aLt true, aItem x tx, aMod m tw]))) w.params
  s5 : ∀ (t1 : Nat) (its c : Array Value) (sm k mn : Int) (tk tm : Nat) (p : Pos) (B T : Nat) (L : Int) (tL : Nat), (fun P => (vNeed (tkOut P t1 its c sm k mn tk tm bl p B T [aLen L tL, aLt false]), vA (tkOut P t1 its c sm k mn tk tm bl p B T [aLen L tL, aLt false]))) w.params = (fun P => (some (nat_lit 2, .call (.builtin "int.__mul__") ⟨[.int 3 (T + 10), .int k tk], []⟩, none, none, none, ⟨888, 46, 888, 51⟩, some ⟨888, 46, 888, 51⟩, [(nat_lit 1346, boxO t1 sm (k + 1) (T + 5))], nat_lit 1, [(nat_lit 0, B)], T, nat_lit 11), vB (tkOut P t1 its c sm k mn tk tm bl p B T [aLen L tL, aLt false]))) w.params
  s6 : ∀ (t1 : Nat) (its c : Array Value) (sm k mn : Int) (tk tm : Nat) (p : Pos) (B T : Nat) (L : Int) (tL : Nat) (y : Int) (ty : Nat), (fun P => (vNeed (tkOut P t1 its c sm k mn tk tm bl p B T [aLen L tL, aLt false, aMul y ty]), vA (tkOut P t1 its c sm k mn tk tm bl p B T [aLen L tL, aLt false, aMul y ty]))) w.params = (fun P => (some (nat_lit 3, .call (.builtin "int.__floordiv__") ⟨[.int k tk, .int 4 (T + 12)], []⟩, none, none, none, ⟨888, 54, 888, 60⟩, some ⟨888, 54, 888, 60⟩, [(nat_lit 1346, boxO t1 sm (k + 1) (T + 5))], nat_lit 1, [(nat_lit 0, B)], T, nat_lit 13), vB (tkOut P t1 its c sm k mn tk tm bl p B T [aLen L tL, aLt false, aMul y ty]))) w.params
  s7 : ∀ (t1 : Nat) (its c : Array Value) (sm k mn : Int) (tk tm : Nat) (p : Pos) (B T : Nat) (L : Int) (tL : Nat) (y : Int) (ty : Nat) (z : Int) (tz : Nat), (fun P => (vNeed (tkOut P t1 its c sm k mn tk tm bl p B T [aLen L tL, aLt false, aMul y ty, aDiv z tz]), vA (tkOut P t1 its c sm k mn tk tm bl p B T [aLen L tL, aLt false, aMul y ty, aDiv z tz]))) w.params = (fun P => (some (nat_lit 4, .call (.builtin "int.__mod__") ⟨[.int (y + z + Int.fmod sm 997) (T + 16), .int mn tm], []⟩, none, none, none, ⟨888, 11, 888, 77⟩, some ⟨888, 11, 888, 77⟩, [(nat_lit 1346, boxO t1 sm (k + 1) (T + 5))], nat_lit 1, [(nat_lit 0, B)], T, nat_lit 17), vB (tkOut P t1 its c sm k mn tk tm bl p B T [aLen L tL, aLt false, aMul y ty, aDiv z tz]))) w.params
  s8 : ∀ (t1 : Nat) (its c : Array Value) (sm k mn : Int) (tk tm : Nat) (p : Pos) (B T : Nat) (L : Int) (tL : Nat) (y : Int) (ty : Nat) (z : Int) (tz : Nat) (m : Int) (tw : Nat), (fun P => (vFin (tkOut P t1 its c sm k mn tk tm bl p B T [aLen L tL, aLt false, aMul y ty, aDiv z tz, aMod m tw]), vA (tkOut P t1 its c sm k mn tk tm bl p B T [aLen L tL, aLt false, aMul y ty, aDiv z tz, aMod m tw]))) w.params = (fun P => (some (.ok (.ret (.int m tw)), [(nat_lit 1346, boxO t1 sm (k + 1) (T + 5))], nat_lit 1, [(nat_lit 0, B)], T, nat_lit 18), vB (tkOut P t1 its c sm k mn tk tm bl p B T [aLen L tL, aLt false, aMul y ty, aDiv z tz, aMod m tw]))) w.params
section
variable (w : World) (l1 : List Stmt) (e1 : Env) (p1 : Pos)
theorem tk0s0 (t1 : Nat) (its c : Array Value) (sm k mn : Int) (tk tm : Nat) (p : Pos) (B T : Nat)  : (fun P => (vNeed (tkOut P t1 its c sm k mn tk tm ([(.func l1 e1, p1), (.builtin "claim.caller" {}, p0)] : List (Code × Pos)) p B T []), vA (tkOut P t1 its c sm k mn tk tm ([(.func l1 e1, p1), (.builtin "claim.caller" {}, p0)] : List (Code × Pos)) p B T []))) w.params = (fun P => (some (nat_lit 5, .call (.builtin "len") ⟨[.ref 1341], []⟩, none, none, none, ⟨888, 29, 888, 40⟩, some ⟨888, 29, 888, 40⟩, [(nat_lit 1346, boxO t1 sm (k + 1) (T + 5))], nat_lit 1, [(nat_lit 0, B)], T, nat_lit 8), vB (tkOut P t1 its c sm k mn tk tm ([(.func l1 e1, p1), (.builtin "claim.caller" {}, p0)] : List (Code × Pos)) p B T []))) w.params := by kernel_rfl
theorem tk0s1 (t1 : Nat) (its c : Array Value) (sm k mn : Int) (tk tm : Nat) (p : Pos) (B T : Nat) (L : Int) (tL : Nat) : (fun P => (vNeed (tkOut P t1 its c sm k mn tk tm ([(.func l1 e1, p1), (.builtin "claim.caller" {}, p0)] : List (Code × Pos)) p B T [aLen L tL]), vA (tkOut P t1 its c sm k mn tk tm ([(.func l1 e1, p1), (.builtin "claim.caller" {}, p0)] : List (Code × Pos)) p B T [aLen L tL]))) w.params = (fun P => (some (nat_lit 0, .call (.builtin "int.__lt__") ⟨[.int k tk, .int L tL], []⟩, none, none, none, ⟨888, 25, 888, 40⟩, some ⟨888, 25, 888, 40⟩, [(nat_lit 1346, boxO t1 sm (k + 1) (T + 5))], nat_lit 1, [(nat_lit 0, B)], T, nat_lit 10), vB (tkOut P t1 its c sm k mn tk tm ([(.func l1 e1, p1), (.builtin "claim.caller" {}, p0)] : List (Code × Pos)) p B T [aLen L tL]))) w.params := by kernel_rfl
theorem tk0s2 (t1 : Nat) (its c : Array Value) (sm k mn : Int) (tk tm : Nat) (p : Pos) (B T : Nat) (L : Int) (tL : Nat) : (fun P => (vNeed (tkOut P t1 its c sm k mn tk tm ([(.func l1 e1, p1), (.builtin "claim.caller" {}, p0)] : List (Code × Pos)) p B T [aLen L tL, aLt true]), vA (tkOut P t1 its c sm k mn tk tm ([(.func l1 e1, p1), (.builtin "claim.caller" {}, p0)] : List (Code × Pos)) p B T [aLen L tL, aLt true]))) w.params = (fun P => (some (nat_lit 1, .call (.builtin "list.__getitem__") ⟨[.ref 1341, .int k tk], []⟩, none, none, none, ⟨888, 12, 888, 21⟩, some ⟨888, 12, 888, 21⟩, [(nat_lit 1346, boxO t1 sm (k + 1) (T + 5))], nat_lit 1, [(nat_lit 0, B)], T, nat_lit 11), vB (tkOut P t1 its c sm k mn tk tm ([(.func l1 e1, p1), (.builtin "claim.caller" {}, p0)] : List (Code × Pos)) p B T [aLen L tL, aLt true]))) w.params := by kernel_rfl
theorem tk0s3 (t1 : Nat) (its c : Array Value) (sm k mn : Int) (tk tm : Nat) (p : Pos) (B T : Nat) (L : Int) (tL : Nat) (x : Int) (tx : Nat) : (fun P => (vNeed (tkOut P t1 its c sm k mn tk tm ([(.func l1 e1, p1), (.builtin "claim.caller" {}, p0)] : List (Code × Pos)) p B T [aLen L tL, aLt true, aItem x tx]), vA (tkOut P t1 its c sm k mn tk tm ([(.func l1 e1, p1), (.builtin "claim.caller" {}, p0)] : List (Code × Pos)) p B T [aLen L tL, aLt true, aItem x tx]))) w.params = (fun P => (some (nat_lit 4, .call (.builtin "int.__mod__") ⟨[.int x tx, .int mn tm], []⟩, none, none, none, ⟨888, 11, 888, 77⟩, some ⟨888, 11, 888, 77⟩, [(nat_lit 1346, boxO t1 sm (k + 1) (T + 5))], nat_lit 1, [(nat_lit 0, B)], T, nat_lit 11), vB (tkOut P t1 its c sm k mn tk tm ([(.func l1 e1, p1), (.builtin "claim.caller" {}, p0)] : List (Code × Pos)) p B T [aLen L tL, aLt true, aItem x tx]))) w.params := by kernel_rfl
theorem tk0s4 (t1 : Nat) (its c : Array Value) (sm k mn : Int) (tk tm : Nat) (p : Pos) (B T : Nat) (L : Int) (tL : Nat) (x : Int) (tx : Nat) (m : Int) (tw : Nat) : (fun P => (vFin (tkOut P t1 its c sm k mn tk tm ([(.func l1 e1, p1), (.builtin "claim.caller" {}, p0)] : List (Code × Pos)) p B T [aLen L tL, aLt true, aItem x tx, aMod m tw]), vA (tkOut P t1 its c sm k mn tk tm ([(.func l1 e1, p1), (.builtin "claim.caller" {}, p0)] : List (Code × Pos)) p B T [aLen L tL, aLt true, aItem x tx, aMod m tw]))) w.params = (fun P => (some (.ok (.ret (.int m tw)), [(nat_lit 1346, boxO t1 sm (k + 1) (T + 5))], nat_lit 1, [(nat_lit 0, B)], T, nat_lit 12), vB (tkOut P t1 its c sm k mn tk tm ([(.func l1 e1, p1), (.builtin "claim.caller" {}, p0)] : List (Code × Pos)) p B T [aLen L tL, aLt true, aItem x tx, aMod m tw]))) w.params := by kernel_rfl
theorem tk0s5 (t1 : Nat) (its c : Array Value) (sm k mn : Int) (tk tm : Nat) (p : Pos) (B T : Nat) (L : Int) (tL : Nat) : (fun P => (vNeed (tkOut P t1 its c sm k mn tk tm ([(.func l1 e1, p1), (.builtin "claim.caller" {}, p0)] : List (Code × Pos)) p B T [aLen L tL, aLt false]), vA (tkOut P t1 its c sm k mn tk tm ([(.func l1 e1, p1), (.builtin "claim.caller" {}, p0)] : List (Code × Pos)) p B T [aLen L tL, aLt false]))) w.params = (fun P => (some (nat_lit 2, .call (.builtin "int.__mul__") ⟨[.int 3 (T + 10), .int k tk], []⟩, none, none, none, ⟨888, 46, 888, 51⟩, some ⟨888, 46, 888, 51⟩, [(nat_lit 1346, boxO t1 sm (k + 1) (T + 5))], nat_lit 1, [(nat_lit 0, B)], T, nat_lit 11), vB (tkOut P t1 its c sm k mn tk tm ([(.func l1 e1, p1), (.builtin "claim.caller" {}, p0)] : List (Code × Pos)) p B T [aLen L tL, aLt false]))) w.params := by kernel_rfl
theorem tk0s6 (t1 : Nat) (its c : Array Value) (sm k mn : Int) (tk tm : Nat) (p : Pos) (B T : Nat) (L : Int) (tL : Nat) (y : Int) (ty : Nat) : (fun P => (vNeed (tkOut P t1 its c sm k mn tk tm ([(.func l1 e1, p1), (.builtin "claim.caller" {}, p0)] : List (Code × Pos)) p B T [aLen L tL, aLt false, aMul y ty]), vA (tkOut P t1 its c sm k mn tk tm ([(.func l1 e1, p1), (.builtin "claim.caller" {}, p0)] : List (Code × Pos)) p B T [aLen L tL, aLt false, aMul y ty]))) w.params = (fun P => (some (nat_lit 3, .call (.builtin "int.__floordiv__") ⟨[.int k tk, .int 4 (T + 12)], []⟩, none, none, none, ⟨888, 54, 888, 60⟩, some ⟨888, 54, 888, 60⟩, [(nat_lit 1346, boxO t1 sm (k + 1) (T + 5))], nat_lit 1, [(nat_lit 0, B)], T, nat_lit 13), vB (tkOut P t1 its c sm k mn tk tm ([(.func l1 e1, p1), (.builtin "claim.caller" {}, p0)] : List (Code × Pos)) p B T [aLen L tL, aLt false, aMul y ty]))) w.params := by kernel_rfl
theorem tk0s7 (t1 : Nat) (its c : Array Value) (sm k mn : Int) (tk tm : Nat) (p : Pos) (B T : Nat) (L : Int) (tL : Nat) (y : Int) (ty : Nat) (z : Int) (tz : Nat) : (fun P => (vNeed (tkOut P t1 its c sm k mn tk tm ([(.func l1 e1, p1), (.builtin "claim.caller" {}, p0)] : List (Code × Pos)) p B T [aLen L tL, aLt false, aMul y ty, aDiv z tz]), vA (tkOut P t1 its c sm k mn tk tm ([(.func l1 e1, p1), (.builtin "claim.caller" {}, p0)] : List (Code × Pos)) p B T [aLen L tL, aLt false, aMul y ty, aDiv z tz]))) w.params = (fun P => (some (nat_lit 4, .call (.builtin "int.__mod__") ⟨[.int (y + z + Int.fmod sm 997) (T + 16), .int mn tm], []⟩, none, none, none, ⟨888, 11, 888, 77⟩, some ⟨888, 11, 888, 77⟩, [(nat_lit 1346, boxO t1 sm (k + 1) (T + 5))], nat_lit 1, [(nat_lit 0, B)], T, nat_lit 17), vB (tkOut P t1 its c sm k mn tk tm ([(.func l1 e1, p1), (.builtin "claim.caller" {}, p0)] : List (Code × Pos)) p B T [aLen L tL, aLt false, aMul y ty, aDiv z tz]))) w.params := by kernel_rfl
theorem tk0s8 (t1 : Nat) (its c : Array Value) (sm k mn : Int) (tk tm : Nat) (p : Pos) (B T : Nat) (L : Int) (tL : Nat) (y : Int) (ty : Nat) (z : Int) (tz : Nat) (m : Int) (tw : Nat) : (fun P => (vFin (tkOut P t1 its c sm k mn tk tm ([(.func l1 e1, p1), (.builtin "claim.caller" {}, p0)] : List (Code × Pos)) p B T [aLen L tL, aLt false, aMul y ty, aDiv z tz, aMod m tw]), vA (tkOut P t1 its c sm k mn tk tm ([(.func l1 e1, p1), (.builtin "claim.caller" {}, p0)] : List (Code × Pos)) p B T [aLen L tL, aLt false, aMul y ty, aDiv z tz, aMod m tw]))) w.params = (fun P => (some (.ok (.ret (.int m tw)), [(nat_lit 1346, boxO t1 sm (k + 1) (T + 5))], nat_lit 1, [(nat_lit 0, B)], T, nat_lit 18), vB (tkOut P t1 its c sm k mn tk tm ([(.func l1 e1, p1), (.builtin "claim.caller" {}, p0)] : List (Code × Pos)) p B T [aLen L tL, aLt false, aMul y ty, aDiv z tz, aMod m tw]))) w.params := by kernel_rfl
theorem tkOk0 : TkOk w [(.func l1 e1, p1), (.builtin "claim.caller" {}, p0)] := ⟨tk0s0 w l1 e1 p1, tk0s1 w l1 e1 p1, tk0s2 w l1 e1 p1, tk0s3 w l1 e1 p1, tk0s4 w l1 e1 p1, tk0s5 w l1 e1 p1, tk0s6 w l1 e1 p1, tk0s7 w l1 e1 p1, tk0s8 w l1 e1 p1⟩
end
section
variable (w : World) (l1 l2 : List Stmt) (e1 e2 : Env) (p1 p2 p3 : Pos) (ft : PySem.Expr) (fi : Value) (fb fo : List Stmt) (fe : Env)
theorem tk1s0 (t1 : Nat) (its c : Array Value) (sm k mn : Int) (tk tm : Nat) (p : Pos) (B T : Nat)  : (fun P => (vNeed (tkOut P t1 its c sm k mn tk tm ([(.func l2 e2, p2), (.forLoop ft fi fb fo fe, p3), (.func l1 e1, p1), (.builtin "claim.caller" {}, p0)] : List (Code × Pos)) p B T []), vA (tkOut P t1 its c sm k mn tk tm ([(.func l2 e2, p2), (.forLoop ft fi fb fo fe, p3), (.func l1 e1, p1), (.builtin "claim.caller" {}, p0)] : List (Code × Pos)) p B T []))) w.params = (fun P => (some (nat_lit 5, .call (.builtin "len") ⟨[.ref 1341], []⟩, none, none, none, ⟨888, 29, 888, 40⟩, some ⟨888, 29, 888, 40⟩, [(nat_lit 1346, boxO t1 sm (k + 1) (T + 5))], nat_lit 1, [(nat_lit 0, B)], T, nat_lit 8), vB (tkOut P t1 its c sm k mn tk tm ([(.func l2 e2, p2), (.forLoop ft fi fb fo fe, p3), (.func l1 e1, p1), (.builtin "claim.caller" {}, p0)] : List (Code × Pos)) p B T []))) w.params := by kernel_rfl
theorem tk1s1 (t1 : Nat) (its c : Array Value) (sm k mn : Int) (tk tm : Nat) (p : Pos) (B T : Nat) (L : Int) (tL : Nat) : (fun P => (vNeed (tkOut P t1 its c sm k mn tk tm ([(.func l2 e2, p2), (.forLoop ft fi fb fo fe, p3), (.func l1 e1, p1), (.builtin "claim.caller" {}, p0)] : List (Code × Pos)) p B T [aLen L tL]), vA (tkOut P t1 its c sm k mn tk tm ([(.func l2 e2, p2), (.forLoop ft fi fb fo fe, p3), (.func l1 e1, p1), (.builtin "claim.caller" {}, p0)] : List (Code × Pos)) p B T [aLen L tL]))) w.params = (fun P => (some (nat_lit 0, .call (.builtin "int.__lt__") ⟨[.int k tk, .int L tL], []⟩, none, none, none, ⟨888, 25, 888, 40⟩, some ⟨888, 25, 888, 40⟩, [(nat_lit 1346, boxO t1 sm (k + 1) (T + 5))], nat_lit 1, [(nat_lit 0, B)], T, nat_lit 10), vB (tkOut P t1 its c sm k mn tk tm ([(.func l2 e2, p2), (.forLoop ft fi fb fo fe, p3), (.func l1 e1, p1), (.builtin "claim.caller" {}, p0)] : List (Code × Pos)) p B T [aLen L tL]))) w.params := by kernel_rfl
theorem tk1s2 (t1 : Nat) (its c : Array Value) (sm k mn : Int) (tk tm : Nat) (p : Pos) (B T : Nat) (L : Int) (tL : Nat) : (fun P => (vNeed (tkOut P t1 its c sm k mn tk tm ([(.func l2 e2, p2), (.forLoop ft fi fb fo fe, p3), (.func l1 e1, p1), (.builtin "claim.caller" {}, p0)] : List (Code × Pos)) p B T [aLen L tL, aLt true]), vA (tkOut P t1 its c sm k mn tk tm ([(.func l2 e2, p2), (.forLoop ft fi fb fo fe, p3), (.func l1 e1, p1), (.builtin "claim.caller" {}, p0)] : List (Code × Pos)) p B T [aLen L tL, aLt true]))) w.params = (fun P => (some (nat_lit 1, .call (.builtin "list.__getitem__") ⟨[.ref 1341, .int k tk], []⟩, none, none, none, ⟨888, 12, 888, 21⟩, some ⟨888, 12, 888, 21⟩, [(nat_lit 1346, boxO t1 sm (k + 1) (T + 5))], nat_lit 1, [(nat_lit 0, B)], T, nat_lit 11), vB (tkOut P t1 its c sm k mn tk tm ([(.func l2 e2, p2), (.forLoop ft fi fb fo fe, p3), (.func l1 e1, p1), (.builtin "claim.caller" {}, p0)] : List (Code × Pos)) p B T [aLen L tL, aLt true]))) w.params := by kernel_rfl
theorem tk1s3 (t1 : Nat) (its c : Array Value) (sm k mn : Int) (tk tm : Nat) (p : Pos) (B T : Nat) (L : Int) (tL : Nat) (x : Int) (tx : Nat) : (fun P => (vNeed (tkOut P t1 its c sm k mn tk tm ([(.func l2 e2, p2), (.forLoop ft fi fb fo fe, p3), (.func l1 e1, p1), (.builtin "claim.caller" {}, p0)] : List (Code × Pos)) p B T [aLen L tL, aLt true, aItem x tx]), vA (tkOut P t1 its c sm k mn tk tm ([(.func l2 e2, p2), (.forLoop ft fi fb fo fe, p3), (.func l1 e1, p1), (.builtin "claim.caller" {}, p0)] : List (Code × Pos)) p B T [aLen L tL, aLt true, aItem x tx]))) w.params = (fun P => (some (nat_lit 4, .call (.builtin "int.__mod__") ⟨[.int x tx, .int mn tm], []⟩, none, none, none, ⟨888, 11, 888, 77⟩, some ⟨888, 11, 888, 77⟩, [(nat_lit 1346, boxO t1 sm (k + 1) (T + 5))], nat_lit 1, [(nat_lit 0, B)], T, nat_lit 11), vB (tkOut P t1 its c sm k mn tk tm ([(.func l2 e2, p2), (.forLoop ft fi fb fo fe, p3), (.func l1 e1, p1), (.builtin "claim.caller" {}, p0)] : List (Code × Pos)) p B T [aLen L tL, aLt true, aItem x tx]))) w.params := by kernel_rfl
theorem tk1s4 (t1 : Nat) (its c : Array Value) (sm k mn : Int) (tk tm : Nat) (p : Pos) (B T : Nat) (L : Int) (tL : Nat) (x : Int) (tx : Nat) (m : Int) (tw : Nat) : (fun P => (vFin (tkOut P t1 its c sm k mn tk tm ([(.func l2 e2, p2), (.forLoop ft fi fb fo fe, p3), (.func l1 e1, p1), (.builtin "claim.caller" {}, p0)] : List (Code × Pos)) p B T [aLen L tL, aLt true, aItem x tx, aMod m tw]), vA (tkOut P t1 its c sm k mn tk tm ([(.func l2 e2, p2), (.forLoop ft fi fb fo fe, p3), (.func l1 e1, p1), (.builtin "claim.caller" {}, p0)] : List (Code × Pos)) p B T [aLen L tL, aLt true, aItem x tx, aMod m tw]))) w.params = (fun P => (some (.ok (.ret (.int m tw)), [(nat_lit 1346, boxO t1 sm (k + 1) (T + 5))], nat_lit 1, [(nat_lit 0, B)], T, nat_lit 12), vB (tkOut P t1 its c sm k mn tk tm ([(.func l2 e2, p2), (.forLoop ft fi fb fo fe, p3), (.func l1 e1, p1), (.builtin "claim.caller" {}, p0)] : List (Code × Pos)) p B T [aLen L tL, aLt true, aItem x tx, aMod m tw]))) w.params := by kernel_rfl
theorem tk1s5 (t1 : Nat) (its c : Array Value) (sm k mn : Int) (tk tm : Nat) (p : Pos) (B T : Nat) (L : Int) (tL : Nat) : (fun P => (vNeed (tkOut P t1 its c sm k mn tk tm ([(.func l2 e2, p2), (.forLoop ft fi fb fo fe, p3), (.func l1 e1, p1), (.builtin "claim.caller" {}, p0)] : List (Code × Pos)) p B T [aLen L tL, aLt false]), vA (tkOut P t1 its c sm k mn tk tm ([(.func l2 e2, p2), (.forLoop ft fi fb fo fe, p3), (.func l1 e1, p1), (.builtin "claim.caller" {}, p0)] : List (Code × Pos)) p B T [aLen L tL, aLt false]))) w.params = (fun P => (some (nat_lit 2, .call (.builtin "int.__mul__") ⟨[.int 3 (T + 10), .int k tk], []⟩, none, none, none, ⟨888, 46, 888, 51⟩, some ⟨888, 46, 888, 51⟩, [(nat_lit 1346, boxO t1 sm (k + 1) (T + 5))], nat_lit 1, [(nat_lit 0, B)], T, nat_lit 11), vB (tkOut P t1 its c sm k mn tk tm ([(.func l2 e2, p2), (.forLoop ft fi fb fo fe, p3), (.func l1 e1, p1), (.builtin "claim.caller" {}, p0)] : List (Code × Pos)) p B T [aLen L tL, aLt false]))) w.params := by kernel_rfl
theorem tk1s6 (t1 : Nat) (its c : Array Value) (sm k mn : Int) (tk tm : Nat) (p : Pos) (B T : Nat) (L : Int) (tL : Nat) (y : Int) (ty : Nat) : (fun P => (vNeed (tkOut P t1 its c sm k mn tk tm ([(.func l2 e2, p2), (.forLoop ft fi fb fo fe, p3), (.func l1 e1, p1), (.builtin "claim.caller" {}, p0)] : List (Code × Pos)) p B T [aLen L tL, aLt false, aMul y ty]), vA (tkOut P t1 its c sm k mn tk tm ([(.func l2 e2, p2), (.forLoop ft fi fb fo fe, p3), (.func l1 e1, p1), (.builtin "claim.caller" {}, p0)] : List (Code × Pos)) p B T [aLen L tL, aLt false, aMul y ty]))) w.params = (fun P => (some (nat_lit 3, .call (.builtin "int.__floordiv__") ⟨[.int k tk, .int 4 (T + 12)], []⟩, none, none, none, ⟨888, 54, 888, 60⟩, some ⟨888, 54, 888, 60⟩, [(nat_lit 1346, boxO t1 sm (k + 1) (T + 5))], nat_lit 1, [(nat_lit 0, B)], T, nat_lit 13), vB (tkOut P t1 its c sm k mn tk tm ([(.func l2 e2, p2), (.forLoop ft fi fb fo fe, p3), (.func l1 e1, p1), (.builtin "claim.caller" {}, p0)] : List (Code × Pos)) p B T [aLen L tL, aLt false, aMul y ty]))) w.params := by kernel_rfl
theorem tk1s7 (t1 : Nat) (its c : Array Value) (sm k mn : Int) (tk tm : Nat) (p : Pos) (B T : Nat) (L : Int) (tL : Nat) (y : Int) (ty : Nat) (z : Int) (tz : Nat) : (fun P => (vNeed (tkOut P t1 its c sm k mn tk tm ([(.func l2 e2, p2), (.forLoop ft fi fb fo fe, p3), (.func l1 e1, p1), (.builtin "claim.caller" {}, p0)] : List (Code × Pos)) p B T [aLen L tL, aLt false, aMul y ty, aDiv z tz]), vA (tkOut P t1 its c sm k mn tk tm ([(.func l2 e2, p2), (.forLoop ft fi fb fo fe, p3), (.func l1 e1, p1), (.builtin "claim.caller" {}, p0)] : List (Code × Pos)) p B T [aLen L tL, aLt false, aMul y ty, aDiv z tz]))) w.params = (fun P => (some (nat_lit 4, .call (.builtin "int.__mod__") ⟨[.int (y + z + Int.fmod sm 997) (T + 16), .int mn tm], []⟩, none, none, none, ⟨888, 11, 888, 77⟩, some ⟨888, 11, 888, 77⟩, [(nat_lit 1346, boxO t1 sm (k + 1) (T + 5))], nat_lit 1, [(nat_lit 0, B)], T, nat_lit 17), vB (tkOut P t1 its c sm k mn tk tm ([(.func l2 e2, p2), (.forLoop ft fi fb fo fe, p3), (.func l1 e1, p1), (.builtin "claim.caller" {}, p0)] : List (Code × Pos)) p B T [aLen L tL, aLt false, aMul y ty, aDiv z tz]))) w.params := by kernel_rfl
theorem tk1s8 (t1 : Nat) (its c : Array Value) (sm k mn : Int) (tk tm : Nat) (p : Pos) (B T : Nat) (L : Int) (tL : Nat) (y : Int) (ty : Nat) (z : Int) (tz : Nat) (m : Int) (tw : Nat) : (fun P => (vFin (tkOut P t1 its c sm k mn tk tm ([(.func l2 e2, p2), (.forLoop ft fi fb fo fe, p3), (.func l1 e1, p1), (.builtin "claim.caller" {}, p0)] : List (Code × Pos)) p B T [aLen L tL, aLt false, aMul y ty, aDiv z tz, aMod m tw]), vA (tkOut P t1 its c sm k mn tk tm ([(.func l2 e2, p2), (.forLoop ft fi fb fo fe, p3), (.func l1 e1, p1), (.builtin "claim.caller" {}, p0)] : List (Code × Pos)) p B T [aLen L tL, aLt false, aMul y ty, aDiv z tz, aMod m tw]))) w.params = (fun P => (some (.ok (.ret (.int m tw)), [(nat_lit 1346, boxO t1 sm (k + 1) (T + 5))], nat_lit 1, [(nat_lit 0, B)], T, nat_lit 18), vB (tkOut P t1 its c sm k mn tk tm ([(.func l2 e2, p2), (.forLoop ft fi fb fo fe, p3), (.func l1 e1, p1), (.builtin "claim.caller" {}, p0)] : List (Code × Pos)) p B T [aLen L tL, aLt false, aMul y ty, aDiv z tz, aMod m tw]))) w.params := by kernel_rfl
theorem tkOk1 : TkOk w [(.func l2 e2, p2), (.forLoop ft fi fb fo fe, p3), (.func l1 e1, p1), (.builtin "claim.caller" {}, p0)] := ⟨tk1s0 w l1 l2 e1 e2 p1 p2 p3 ft fi fb fo fe, tk1s1 w l1 l2 e1 e2 p1 p2 p3 ft fi fb fo fe, tk1s2 w l1 l2 e1 e2 p1 p2 p3 ft fi fb fo fe, tk1s3 w l1 l2 e1 e2 p1 p2 p3 ft fi fb fo fe, tk1s4 w l1 l2 e1 e2 p1 p2 p3 ft fi fb fo fe, tk1s5 w l1 l2 e1 e2 p1 p2 p3 ft fi fb fo fe, tk1s6 w l1 l2 e1 e2 p1 p2 p3 ft fi fb fo fe, tk1s7 w l1 l2 e1 e2 p1 p2 p3 ft fi fb fo fe, tk1s8 w l1 l2 e1 e2 p1 p2 p3 ft fi fb fo fe⟩
end
section
variable (w : World) (l1 l2 l3 : List Stmt) (e1 e2 e3 : Env) (p1 p2 p3 p4 : Pos) (ft : PySem.Expr) (fi : Value) (fb fo : List Stmt) (fe : Env)
theorem tk2s0 (t1 : Nat) (its c : Array Value) (sm k mn : Int) (tk tm : Nat) (p : Pos) (B T : Nat)  : (fun P => (vNeed (tkOut P t1 its c sm k mn tk tm ([(.func l3 e3, p4), (.func l2 e2, p2), (.forLoop ft fi fb fo fe, p3), (.func l1 e1, p1), (.builtin "claim.caller" {}, p0)] : List (Code × Pos)) p B T []), vA (tkOut P t1 its c sm k mn tk tm ([(.func l3 e3, p4), (.func l2 e2, p2), (.forLoop ft fi fb fo fe, p3), (.func l1 e1, p1), (.builtin "claim.caller" {}, p0)] : List (Code × Pos)) p B T []))) w.params = (fun P => (some (nat_lit 5, .call (.builtin "len") ⟨[.ref 1341], []⟩, none, none, none, ⟨888, 29, 888, 40⟩, some ⟨888, 29, 888, 40⟩, [(nat_lit 1346, boxO t1 sm (k + 1) (T + 5))], nat_lit 1, [(nat_lit 0, B)], T, nat_lit 8), vB (tkOut P t1 its c sm k mn tk tm ([(.func l3 e3, p4), (.func l2 e2, p2), (.forLoop ft fi fb fo fe, p3), (.func l1 e1, p1), (.builtin "claim.caller" {}, p0)] : List (Code × Pos)) p B T []))) w.params := by kernel_rfl
theorem tk2s1 (t1 : Nat) (its c : Array Value) (sm k mn : Int) (tk tm : Nat) (p : Pos) (B T : Nat) (L : Int) (tL : Nat) : (fun P => (vNeed (tkOut P t1 its c sm k mn tk tm ([(.func l3 e3, p4), (.func l2 e2, p2), (.forLoop ft fi fb fo fe, p3), (.func l1 e1, p1), (.builtin "claim.caller" {}, p0)] : List (Code × Pos)) p B T [aLen L tL]), vA (tkOut P t1 its c sm k mn tk tm ([(.func l3 e3, p4), (.func l2 e2, p2), (.forLoop ft fi fb fo fe, p3), (.func l1 e1, p1), (.builtin "claim.caller" {}, p0)] : List (Code × Pos)) p B T [aLen L tL]))) w.params = (fun P => (some (nat_lit 0, .call (.builtin "int.__lt__") ⟨[.int k tk, .int L tL], []⟩, none, none, none, ⟨888, 25, 888, 40⟩, some ⟨888, 25, 888, 40⟩, [(nat_lit 1346, boxO t1 sm (k + 1) (T + 5))], nat_lit 1, [(nat_lit 0, B)], T, nat_lit 10), vB (tkOut P t1 its c sm k mn tk tm ([(.func l3 e3, p4), (.func l2 e2, p2), (.forLoop ft fi fb fo fe, p3), (.func l1 e1, p1), (.builtin "claim.caller" {}, p0)] : List (Code × Pos)) p B T [aLen L tL]))) w.params := by kernel_rfl
theorem tk2s2 (t1 : Nat) (its c : Array Value) (sm k mn : Int) (tk tm : Nat) (p : Pos) (B T : Nat) (L : Int) (tL : Nat) : (fun P => (vNeed (tkOut P t1 its c sm k mn tk tm ([(.func l3 e3, p4), (.func l2 e2, p2), (.forLoop ft fi fb fo fe, p3), (.func l1 e1, p1), (.builtin "claim.caller" {}, p0)] : List (Code × Pos)) p B T [aLen L tL, aLt true]), vA (tkOut P t1 its c sm k mn tk tm ([(.func l3 e3, p4), (.func l2 e2, p2), (.forLoop ft fi fb fo fe, p3), (.func l1 e1, p1), (.builtin "claim.caller" {}, p0)] : List (Code × Pos)) p B T [aLen L tL, aLt true]))) w.params = (fun P => (some (nat_lit 1, .call (.builtin "list.__getitem__") ⟨[.ref 1341, .int k tk], []⟩, none, none, none, ⟨888, 12, 888, 21⟩, some ⟨888, 12, 888, 21⟩, [(nat_lit 1346, boxO t1 sm (k + 1) (T + 5))], nat_lit 1, [(nat_lit 0, B)], T, nat_lit 11), vB (tkOut P t1 its c sm k mn tk tm ([(.func l3 e3, p4), (.func l2 e2, p2), (.forLoop ft fi fb fo fe, p3), (.func l1 e1, p1), (.builtin "claim.caller" {}, p0)] : List (Code × Pos)) p B T [aLen L tL, aLt true]))) w.params := by kernel_rfl
theorem tk2s3 (t1 : Nat) (its c : Array Value) (sm k mn : Int) (tk tm : Nat) (p : Pos) (B T : Nat) (L : Int) (tL : Nat) (x : Int) (tx : Nat) : (fun P => (vNeed (tkOut P t1 its c sm k mn tk tm ([(.func l3 e3, p4), (.func l2 e2, p2), (.forLoop ft fi fb fo fe, p3), (.func l1 e1, p1), (.builtin "claim.caller" {}, p0)] : List (Code × Pos)) p B T [aLen L tL, aLt true, aItem x tx]), vA (tkOut P t1 its c sm k mn tk tm ([(.func l3 e3, p4), (.func l2 e2, p2), (.forLoop ft fi fb fo fe, p3), (.func l1 e1, p1), (.builtin "claim.caller" {}, p0)] : List (Code × Pos)) p B T [aLen L tL, aLt true, aItem x tx]))) w.params = (fun P => (some (nat_lit 4, .call (.builtin "int.__mod__") ⟨[.int x tx, .int mn tm], []⟩, none, none, none, ⟨888, 11, 888, 77⟩, some ⟨888, 11, 888, 77⟩, [(nat_lit 1346, boxO t1 sm (k + 1) (T + 5))], nat_lit 1, [(nat_lit 0, B)], T, nat_lit 11), vB (tkOut P t1 its c sm k mn tk tm ([(.func l3 e3, p4), (.func l2 e2, p2), (.forLoop ft fi fb fo fe, p3), (.func l1 e1, p1), (.builtin "claim.caller" {}, p0)] : List (Code × Pos)) p B T [aLen L tL, aLt true, aItem x tx]))) w.params := by kernel_rfl
theorem tk2s4 (t1 : Nat) (its c : Array Value) (sm k mn : Int) (tk tm : Nat) (p : Pos) (B T : Nat) (L : Int) (tL : Nat) (x : Int) (tx : Nat) (m : Int) (tw : Nat) : (fun P => (vFin (tkOut P t1 its c sm k mn tk tm ([(.func l3 e3, p4), (.func l2 e2, p2), (.forLoop ft fi fb fo fe, p3), (.func l1 e1, p1), (.builtin "claim.caller" {}, p0)] : List (Code × Pos)) p B T [aLen L tL, aLt true, aItem x tx, aMod m tw]), vA (tkOut P t1 its c sm k mn tk tm ([(.func l3 e3, p4), (.func l2 e2, p2), (.forLoop ft fi fb fo fe, p3), (.func l1 e1, p1), (.builtin "claim.caller" {}, p0)] : List (Code × Pos)) p B T [aLen L tL, aLt true, aItem x tx, aMod m tw]))) w.params = (fun P => (some (.ok (.ret (.int m tw)), [(nat_lit 1346, boxO t1 sm (k + 1) (T + 5))], nat_lit 1, [(nat_lit 0, B)], T, nat_lit 12), vB (tkOut P t1 its c sm k mn tk tm ([(.func l3 e3, p4), (.func l2 e2, p2), (.forLoop ft fi fb fo fe, p3), (.func l1 e1, p1), (.builtin "claim.caller" {}, p0)] : List (Code × Pos)) p B T [aLen L tL, aLt true, aItem x tx, aMod m tw]))) w.params := by kernel_rfl
theorem tk2s5 (t1 : Nat) (its c : Array Value) (sm k mn : Int) (tk tm : Nat) (p : Pos) (B T : Nat) (L : Int) (tL : Nat) : (fun P => (vNeed (tkOut P t1 its c sm k mn tk tm ([(.func l3 e3, p4), (.func l2 e2, p2), (.forLoop ft fi fb fo fe, p3), (.func l1 e1, p1), (.builtin "claim.caller" {}, p0)] : List (Code × Pos)) p B T [aLen L tL, aLt false]), vA (tkOut P t1 its c sm k mn tk tm ([(.func l3 e3, p4), (.func l2 e2, p2), (.forLoop ft fi fb fo fe, p3), (.func l1 e1, p1), (.builtin "claim.caller" {}, p0)] : List (Code × Pos)) p B T [aLen L tL, aLt false]))) w.params = (fun P => (some (nat_lit 2, .call (.builtin "int.__mul__") ⟨[.int 3 (T + 10), .int k tk], []⟩, none, none, none, ⟨888, 46, 888, 51⟩, some ⟨888, 46, 888, 51⟩, [(nat_lit 1346, boxO t1 sm (k + 1) (T + 5))], nat_lit 1, [(nat_lit 0, B)], T, nat_lit 11), vB (tkOut P t1 its c sm k mn tk tm ([(.func l3 e3, p4), (.func l2 e2, p2), (.forLoop ft fi fb fo fe, p3), (.func l1 e1, p1), (.builtin "claim.caller" {}, p0)] : List (Code × Pos)) p B T [aLen L tL, aLt false]))) w.params := by kernel_rfl
theorem tk2s6 (t1 : Nat) (its c : Array Value) (sm k mn : Int) (tk tm : Nat) (p : Pos) (B T : Nat) (L : Int) (tL : Nat) (y : Int) (ty : Nat) : (fun P => (vNeed (tkOut P t1 its c sm k mn tk tm ([(.func l3 e3, p4), (.func l2 e2, p2), (.forLoop ft fi fb fo fe, p3), (.func l1 e1, p1), (.builtin "claim.caller" {}, p0)] : List (Code × Pos)) p B T [aLen L tL, aLt false, aMul y ty]), vA (tkOut P t1 its c sm k mn tk tm ([(.func l3 e3, p4), (.func l2 e2, p2), (.forLoop ft fi fb fo fe, p3), (.func l1 e1, p1), (.builtin "claim.caller" {}, p0)] : List (Code × Pos)) p B T [aLen L tL, aLt false, aMul y ty]))) w.params = (fun P => (some (nat_lit 3, .call (.builtin "int.__floordiv__") ⟨[.int k tk, .int 4 (T + 12)], []⟩, none, none, none, ⟨888, 54, 888, 60⟩, some ⟨888, 54, 888, 60⟩, [(nat_lit 1346, boxO t1 sm (k + 1) (T + 5))], nat_lit 1, [(nat_lit 0, B)], T, nat_lit 13), vB (tkOut P t1 its c sm k mn tk tm ([(.func l3 e3, p4), (.func l2 e2, p2), (.forLoop ft fi fb fo fe, p3), (.func l1 e1, p1), (.builtin "claim.caller" {}, p0)] : List (Code × Pos)) p B T [aLen L tL, aLt false, aMul y ty]))) w.params := by kernel_rfl
theorem tk2s7 (t1 : Nat) (its c : Array Value) (sm k mn : Int) (tk tm : Nat) (p : Pos) (B T : Nat) (L : Int) (tL : Nat) (y : Int) (ty : Nat) (z : Int) (tz : Nat) : (fun P => (vNeed (tkOut P t1 its c sm k mn tk tm ([(.func l3 e3, p4), (.func l2 e2, p2), (.forLoop ft fi fb fo fe, p3), (.func l1 e1, p1), (.builtin "claim.caller" {}, p0)] : List (Code × Pos)) p B T [aLen L tL, aLt false, aMul y ty, aDiv z tz]), vA (tkOut P t1 its c sm k mn tk tm ([(.func l3 e3, p4), (.func l2 e2, p2), (.forLoop ft fi fb fo fe, p3), (.func l1 e1, p1), (.builtin "claim.caller" {}, p0)] : List (Code × Pos)) p B T [aLen L tL, aLt false, aMul y ty, aDiv z tz]))) w.params = (fun P => (some (nat_lit 4, .call (.builtin "int.__mod__") ⟨[.int (y + z + Int.fmod sm 997) (T + 16), .int mn tm], []⟩, none, none, none, ⟨888, 11, 888, 77⟩, some ⟨888, 11, 888, 77⟩, [(nat_lit 1346, boxO t1 sm (k + 1) (T + 5))], nat_lit 1, [(nat_lit 0, B)], T, nat_lit 17), vB (tkOut P t1 its c sm k mn tk tm ([(.func l3 e3, p4), (.func l2 e2, p2), (.forLoop ft fi fb fo fe, p3), (.func l1 e1, p1), (.builtin "claim.caller" {}, p0)] : List (Code × Pos)) p B T [aLen L tL, aLt false, aMul y ty, aDiv z tz]))) w.params := by kernel_rfl
theorem tk2s8 (t1 : Nat) (its c : Array Value) (sm k mn : Int) (tk tm : Nat) (p : Pos) (B T : Nat) (L : Int) (tL : Nat) (y : Int) (ty : Nat) (z : Int) (tz : Nat) (m : Int) (tw : Nat) : (fun P => (vFin (tkOut P t1 its c sm k mn tk tm ([(.func l3 e3, p4), (.func l2 e2, p2), (.forLoop ft fi fb fo fe, p3), (.func l1 e1, p1), (.builtin "claim.caller" {}, p0)] : List (Code × Pos)) p B T [aLen L tL, aLt false, aMul y ty, aDiv z tz, aMod m tw]), vA (tkOut P t1 its c sm k mn tk tm ([(.func l3 e3, p4), (.func l2 e2, p2), (.forLoop ft fi fb fo fe, p3), (.func l1 e1, p1), (.builtin "claim.caller" {}, p0)] : List (Code × Pos)) p B T [aLen L tL, aLt false, aMul y ty, aDiv z tz, aMod m tw]))) w.params = (fun P => (some (.ok (.ret (.int m tw)), [(nat_lit 1346, boxO t1 sm (k + 1) (T + 5))], nat_lit 1, [(nat_lit 0, B)], T, nat_lit 18), vB (tkOut P t1 its c sm k mn tk tm ([(.func l3 e3, p4), (.func l2 e2, p2), (.forLoop ft fi fb fo fe, p3), (.func l1 e1, p1), (.builtin "claim.caller" {}, p0)] : List (Code × Pos)) p B T [aLen L tL, aLt false, aMul y ty, aDiv z tz, aMod m tw]))) w.params := by kernel_rfl
theorem tkOk2 : TkOk w [(.func l3 e3, p4), (.func l2 e2, p2), (.forLoop ft fi fb fo fe, p3), (.func l1 e1, p1), (.builtin "claim.caller" {}, p0)] := ⟨tk2s0 w l1 l2 l3 e1 e2 e3 p1 p2 p3 p4 ft fi fb fo fe, tk2s1 w l1 l2 l3 e1 e2 e3 p1 p2 p3 p4 ft fi fb fo fe, tk2s2 w l1 l2 l3 e1 e2 e3 p1 p2 p3 p4 ft fi fb fo fe, tk2s3 w l1 l2 l3 e1 e2 e3 p1 p2 p3 p4 ft fi fb fo fe, tk2s4 w l1 l2 l3 e1 e2 e3 p1 p2 p3 p4 ft fi fb fo fe, tk2s5 w l1 l2 l3 e1 e2 e3 p1 p2 p3 p4 ft fi fb fo fe, tk2s6 w l1 l2 l3 e1 e2 e3 p1 p2 p3 p4 ft fi fb fo fe, tk2s7 w l1 l2 l3 e1 e2 e3 p1 p2 p3 p4 ft fi fb fo fe, tk2s8 w l1 l2 l3 e1 e2 e3 p1 p2 p3 p4 ft fi fb fo fe⟩
end
end M9
end
section
open PySem PySem.W PySem.Calls PyProof.Rows PySem.Spec
namespace M9
theorem Rep.start {s : Shared} (D : DL) (hD : ∀ a o, lookD D a = some o → s.heap.get? a = some o) (hg : s.gens = #[]) {E : DL} (hE : ∀ x, x ∈ E → s.heap.get? x.1 = some x.2 ∧ lookD D x.1 = none) :
    Rep s.heap E s.os s.drawn ⟨D, .nil, 0, [(0, s.heap.objs.size)], s.toks, 0⟩ s where
  size := rfl
  seg := ⟨0, _, [], rfl, Nat.le_refl _⟩
  inj := fun i j h1 h2 => by have h2 : j ≤ 0 := h2; omega
  bnd := fun j h => by have h : j < 0 := h; omega
  low := fun j h => by
    have h : j ≤ 0 := h
    have : j = 0 := by omega
    subst this
    exact Nat.le_refl _
  own := fun j o h => by cases h
  D := fun a o h => ⟨hD a o h, Heap.lt_size (hD a o h)⟩
  keep := fun a o h _ => h
  toks := rfl
  gens := hg
  os := rfl
  dr := rfl
  ext := hE
theorem lookD_one {a b : Nat} {o : Obj} : lookD [(a, o)] b = if a = b then some o else none := by rw [lookD_cons]; rfl
structure TakeEnd (t1 : Nat) (sm k : Int) (s s' : Shared) : Prop where
  box : ∃ tk, s'.heap.get? 1346 = some (boxO t1 sm (k + 1) tk)
  keep : ∀ a o, a ≠ 1346 → s.heap.get? a = some o → s'.heap.get? a = some o
  size : s'.heap.objs.size = s.heap.objs.size + 1
  toks : s.toks ≤ s'.toks
  gens : s'.gens = #[]
  os : s'.os = s.os
  dr : s'.drawn = s.drawn
theorem take_wp {w : World} {bl : List (Code × Pos)} (K : TkOk w bl) {t1 : Nat} {its c : Array Value} {sm k mn : Int} {tk tm : Nat} {p : Pos} {s : Shared}
    (hst : ∀ a o, lookW w.params t1 its c a = some o → s.heap.get? a = some o) (hb : s.heap.get? 1346 = some (boxO t1 sm k tk)) (hg : s.gens = #[])
    (hc : ∀ (i : Nat), i < c.size → ∃ x tx, c[i]? = some (.int x tx)) (hsz : c.size ≤ 1000) (hk : 0 ≤ k) (hk2 : k < 2 ^ 63) (hmn : 0 < mn) :
    wpCode (model tw w) (ΓT mn tm bl) (fun r s' => ∃ m tm', r = .ok (.ret (.int m tm')) ∧ 0 ≤ m ∧ m < mn ∧ TakeEnd t1 sm k s s') p s := by
  have hD : ∀ a o, lookD [((nat_lit 1346), boxO t1 sm k tk)] a = some o → s.heap.get? a = some o := by
    intro a o h
    rw [lookD_one] at h
    split at h
    · rename_i q; cases h; rw [← q]; exact hb
    · cases h
  have hcl : s.heap.get? 1341 = some (lst c) := hst 1341 (lst c) (by rfl)
  have isl : ∀ {tb i m : Nat} {bs : List (Nat × Nat)} {X : BT} {o : Obj} {s' : Shared}, Rep s.heap [] s.os s.drawn ⟨[((nat_lit 1346), o)], X, m, bs, tb, i⟩ s' → s'.heap.IsList 1341 c := by
    intro tb i m bs X o s' D
    have := D.keep 1341 _ hcl (by rw [lookD_one]; rfl)
    exact ⟨_, this, rfl, 0, rfl⟩
  have fin : ∀ {i : Nat} {X : BT} {s' : Shared}, Rep s.heap [] s.os s.drawn ⟨[((nat_lit 1346), boxO t1 sm (k + 1) (s.toks + 5))], X, nat_lit 1, [(nat_lit 0, s.heap.objs.size)], s.toks, i⟩ s' → TakeEnd t1 sm k s s' := by
    intro i X s' D
    refine ⟨⟨_, (D.D 1346 _ (by rw [lookD_one]; rfl)).1⟩, fun a o ha h => D.keep a o h (by rw [lookD_one, if_neg (fun q => ha q.symm)]), ?_, ?_, D.gens, D.os, D.dr⟩
    · have := D.size
      exact this
    · have : s'.toks = s.toks + i := D.toks
      omega
  refine code_of_run (C := cf w.params (lookW w.params t1 its c)) (cf_ok w (lookW w.params t1 its c) [] _) isItF_ok hst (fun _ _ _ h => nomatch h) (orc := orcT) (n := nat_lit 140) (h₀ := s.heap) (os := s.os) (dr := s.drawn) (h := ⟨[((nat_lit 1346), boxO t1 sm k tk)], .nil, nat_lit 0, [(nat_lit 0, s.heap.objs.size)], s.toks, nat_lit 0⟩) ?_ (Rep.start _ hD hg (fun x hx => absurd hx List.not_mem_nil))
  have F0 := K.s0 t1 its c sm k mn tk tm p s.heap.objs.size s.toks
  refine Win.need' (F := fun as => tkOut w.params t1 its c sm k mn tk tm bl p s.heap.objs.size s.toks as) (congrArg Prod.fst F0) (congrArg Prod.snd F0) (fun a => ∃ tL, a = aLen (c.size : Int) tL) (fun g s' G D => ?_) ?_
  · refine wpCode_mono (call_code (Q := fun v s2 => v = .int c.size (s'.toks + 1) ∧ s2 = { s' with toks := s'.toks + 1 + 1 }) G fun A _ => call_len_list (isl D) (by omega) ⟨rfl, rfl⟩) fun r s2 h => ?_
    obtain ⟨v, rfl, rfl, rfl⟩ := h
    exact ⟨aLen c.size (s'.toks + 1), rfl, ⟨_, rfl⟩, D.tick.tick⟩
  rintro _ ⟨tL, rfl⟩
  have F1 := K.s1 t1 its c sm k mn tk tm p s.heap.objs.size s.toks c.size tL
  refine Win.need' (congrArg Prod.fst F1) (congrArg Prod.snd F1) (fun a => a = aLt (decide (k < c.size))) (fun g s' G D => ?_) ?_
  · refine wpCode_mono (lt_code G) fun r s2 h => ?_
    obtain ⟨rfl, rfl⟩ := h
    exact ⟨_, rfl, rfl, D⟩
  rintro _ rfl
  have mod0 : mn ≠ 0 := by omega
  cases hb : decide (k < c.size) with
  | true =>
    have hlt : k < c.size := of_decide_eq_true hb
    obtain ⟨x, tx, hx⟩ := hc k.toNat (by omega)
    have F2 := K.s2 t1 its c sm k mn tk tm p s.heap.objs.size s.toks c.size tL
    refine Win.need' (congrArg Prod.fst F2) (congrArg Prod.snd F2) (fun a => a = aItem x tx) (fun g s' G D => ?_) ?_
    · refine wpCode_mono (item_code G (isl D) hk (by omega) hx) fun r s2 h => ?_
      obtain ⟨rfl, rfl⟩ := h
      exact ⟨_, rfl, rfl, D⟩
    rintro _ rfl
    have F3 := K.s3 t1 its c sm k mn tk tm p s.heap.objs.size s.toks c.size tL x tx
    refine Win.need' (congrArg Prod.fst F3) (congrArg Prod.snd F3) (fun a => ∃ tw, a = aMod (Int.fmod x mn) tw) (fun g s' G D => ?_) ?_
    · refine wpCode_mono (mod_code G mod0) fun r s2 h => ?_
      obtain ⟨rfl, rfl⟩ := h
      exact ⟨_, rfl, ⟨_, rfl⟩, D.tick⟩
    rintro _ ⟨tw', rfl⟩
    have F4 := K.s4 t1 its c sm k mn tk tm p s.heap.objs.size s.toks c.size tL x tx (Int.fmod x mn) tw'
    exact Win.fin' (congrArg Prod.fst F4) (congrArg Prod.snd F4) fun s' D => ⟨_, _, rfl, Int.fmod_nonneg_of_pos x hmn, Int.fmod_lt_of_pos x hmn, fin D⟩
  | false =>
    have F5 := K.s5 t1 its c sm k mn tk tm p s.heap.objs.size s.toks c.size tL
    refine Win.need' (congrArg Prod.fst F5) (congrArg Prod.snd F5) (fun a => ∃ ty, a = aMul (3 * k) ty) (fun g s' G D => ?_) ?_
    · refine wpCode_mono (mul_code G (IntMulOk.of_left (by decide +kernel))) fun r s2 h => ?_
      obtain ⟨rfl, rfl⟩ := h
      exact ⟨_, rfl, ⟨_, rfl⟩, D.tick⟩
    rintro _ ⟨ty, rfl⟩
    have F6 := K.s6 t1 its c sm k mn tk tm p s.heap.objs.size s.toks c.size tL (3 * k) ty
    refine Win.need' (congrArg Prod.fst F6) (congrArg Prod.snd F6) (fun a => ∃ tz, a = aDiv (Int.fdiv k 4) tz) (fun g s' G D => ?_) ?_
    · refine wpCode_mono (div_code G (by decide) (by decide)) fun r s2 h => ?_
      obtain ⟨rfl, rfl⟩ := h
      exact ⟨_, rfl, ⟨_, rfl⟩, D.tick⟩
    rintro _ ⟨tz, rfl⟩
    have F7 := K.s7 t1 its c sm k mn tk tm p s.heap.objs.size s.toks c.size tL (3 * k) ty (Int.fdiv k 4) tz
    refine Win.need' (congrArg Prod.fst F7) (congrArg Prod.snd F7) (fun a => ∃ tw, a = aMod (Int.fmod (3 * k + Int.fdiv k 4 + Int.fmod sm 997) mn) tw) (fun g s' G D => ?_) ?_
    · refine wpCode_mono (mod_code G mod0) fun r s2 h => ?_
      obtain ⟨rfl, rfl⟩ := h
      exact ⟨_, rfl, ⟨_, rfl⟩, D.tick⟩
    rintro _ ⟨tw', rfl⟩
    have F8 := K.s8 t1 its c sm k mn tk tm p s.heap.objs.size s.toks c.size tL (3 * k) ty (Int.fdiv k 4) tz (Int.fmod (3 * k + Int.fdiv k 4 + Int.fmod sm 997) mn) tw'
    exact Win.fin' (congrArg Prod.fst F8) (congrArg Prod.snd F8) fun s' D => ⟨_, _, rfl, Int.fmod_nonneg_of_pos _ hmn, Int.fmod_lt_of_pos _ hmn, fin D⟩
end M9
end
section
open PySem PySem.W PySem.Calls PyProof.Rows PySem.Spec
namespace M9
noncomputable def lawFor : Stmt := nth lawB 2
noncomputable def forT : PySem.Expr := match lawFor with | .For t _ _ _ _ => t | _ => .Name s0 p0
noncomputable def forB : List Stmt := match lawFor with | .For _ _ b _ _ => b | _ => []
noncomputable abbrev pD : Pos := ⟨965, 15, 965, 36⟩
noncomputable def loopC : Code := .forLoop forT (.ref 1487) forB [] envL
noncomputable def bL : List (Code × Pos) := [(.func lawB envL, ⟨964, 16, 964, 70⟩), (.builtin "claim.caller" {}, p0)]
noncomputable def bD : List (Code × Pos) := (loopC, pD) :: bL
noncomputable def ΓD : PySem.Ctx := ⟨.call (.ref 1323) ⟨[.ref 1346, .ref 1473], []⟩, none, none, bD, none⟩
noncomputable def peel1 : List (Code × Pos) → Option (Pos × List (Code × Pos))
  | (.func _ _, q) :: r => some (q, r)
  | _ => none
noncomputable def peel2 : List (Code × Pos) → Option (Pos × List (Code × Pos))
  | (.func _ _, q) :: (.func _ _, _) :: r => some (q, r)
  | _ => none
noncomputable def vT (f : List (Code × Pos) → Option (Pos × List (Code × Pos))) : Out → Option (Nat × Code × Option Value × Option Value × Option Value × Pos × Option (Pos × List (Code × Pos)) × DL × Nat × List (Nat × Nat) × Nat × Nat)
  | .need tag _ g p h _ => some (tag, g.code, g.handled, g.own, g.past, p, f g.below, h.D, h.m, h.bs, h.tb, h.i)
  | _ => none
noncomputable def setH (ob : Obj) : DL → DL
  | [] => []
  | x :: l => (x.1, ob) :: l
noncomputable def aTk (way : Int) (tw : Nat) (ob : Obj) (Bn tb orc : Nat) : Ans := ⟨.ok (.ret (.int way tw)), fun h => ⟨setH ob h.D, h.X, h.m, (h.m, Bn) :: h.bs, tb, nat_lit 0⟩, orc⟩
noncomputable def mkN : Nat → Array (Option Value) → Array (Option Value)
  | 0, sl => sl
  | n + 1, sl => markL envL .notImplemented (mkN n sl)
noncomputable def dl (ob T0 T1 T2 T3 fr jr pi ow en : Obj) : DL := [(nat_lit 1346, ob), (nat_lit 1292, T0), (nat_lit 1299, T1), (nat_lit 1306, T2), (nat_lit 1313, T3), (nat_lit 1339, fr), (nat_lit 1359, jr), (nat_lit 1382, pi), (nat_lit 1476, ow), (nat_lit 1480, en)]
noncomputable abbrev FinE (w : World) (o : Params → Out) (l : List Nat) (x : Params → Option (Result × DL × Nat × List (Nat × Nat) × Nat × Nat)) (v : List (Option Obj)) : Prop := (fun P => (vFin (o P), vX l (o P), vA (o P))) w.params = (fun P => (x P, v, vB (o P))) w.params
noncomputable abbrev TkE (w : World) (f : List (Code × Pos) → Option (Pos × List (Code × Pos))) (o : Params → Out) (mn : Int) (tm : Nat) (p : Pos) (D : DL) (m : Nat) (bs : List (Nat × Nat)) (tb i : Nat) : Prop :=
  (fun P => (vT f (o P), vA (o P))) w.params = (fun P => (some (nat_lit 0, .call (.ref 1269) ⟨[.ref 1346, .int mn tm], []⟩, none, none, none, p, some (p, bD), D, m, bs, tb, i), vB (o P))) w.params
noncomputable def cd0 (b tt : Nat) : Obj := (⟨(.type PySem.W.SL.s5856160107412720595x4), none, .fields ⟨[(.str (⟨⟨[60, 108, 97, 109, 98, 100, 97, 62]⟩⟩ : Str) (tt + 1)), (.str (⟨⟨[95, 108, 97, 119, 95, 99, 97, 108, 108, 101, 100, 46, 60, 108, 111, 99, 97, 108, 115, 62, 46, 60, 108, 97, 109, 98, 100, 97, 62]⟩⟩ : Str) (tt + 2)), (.str s163 (tt + 3)), (.int 923 0), (.int 0 0), (.int 0 0), (.int 0 0), (.int 19 0), (.ref (b)), (.bool true), (.int 181 0), (.ref (b + 1)), .none, (.ref (b + 2)), (.ref (b + 3)), (.ref (b + 4)), (.int (Int.ofNat (tt + 6)) 0), (.int 923 0), (.str s163 (tt + 7))]⟩, ⟨[]⟩⟩ : Obj)
noncomputable def cd1 (b : Nat) : Obj := (⟨.none, none, .fields ⟨[(.int 924 0), (.int 0 0), (.ref (b + 15))]⟩, ⟨[]⟩⟩ : Obj)
noncomputable def cd2 (b tt : Nat) : Obj := (⟨(.type PySem.W.SL.s5856160107412720595x4), none, .fields ⟨[(.str (⟨⟨[60, 108, 97, 109, 98, 100, 97, 62]⟩⟩ : Str) (tt + 11)), (.str (⟨⟨[95, 108, 97, 119, 95, 99, 97, 108, 108, 101, 100, 46, 60, 108, 111, 99, 97, 108, 115, 62, 46, 60, 108, 97, 109, 98, 100, 97, 62, 46, 60, 108, 111, 99, 97, 108, 115, 62, 46, 60, 108, 97, 109, 98, 100, 97, 62]⟩⟩ : Str) (tt + 12)), (.str s163 (tt + 13)), (.int 924 0), (.int 0 0), (.int 0 0), (.int 0 0), (.int 19 0), (.ref (b + 10)), (.bool true), (.int 181 0), (.ref (b + 11)), .none, (.ref (b + 12)), (.ref (b + 13)), (.ref (b + 14)), (.int (Int.ofNat (tt + 15)) 0), (.int 924 0), (.str s163 (tt + 16))]⟩, ⟨[]⟩⟩ : Obj)
noncomputable def cd3 (b tt : Nat) : Obj := (⟨(.type PySem.W.SL.s5856160107412720595x4), none, .fields ⟨[(.str (⟨⟨[60, 108, 97, 109, 98, 100, 97, 62]⟩⟩ : Str) (tt + 0)), (.str (⟨⟨[95, 108, 97, 119, 95, 119, 114, 105, 116, 116, 101, 110, 46, 60, 108, 111, 99, 97, 108, 115, 62, 46, 60, 108, 97, 109, 98, 100, 97, 62]⟩⟩ : Str) (tt + 1)), (.str s163 (tt + 2)), (.int 928 0), (.int 0 0), (.int 0 0), (.int 0 0), (.int 19 0), (.ref (b)), (.bool true), (.int 181 0), (.ref (b + 1)), .none, (.ref (b + 2)), (.ref (b + 3)), (.ref (b + 4)), (.int (Int.ofNat (tt + 5)) 0), (.int 928 0), (.str s163 (tt + 6))]⟩, ⟨[]⟩⟩ : Obj)
noncomputable def cd4 (b tt : Nat) : Obj := (⟨(.type PySem.W.SL.s5856160107412720595x4), none, .fields ⟨[(.str (⟨⟨[60, 108, 97, 109, 98, 100, 97, 62]⟩⟩ : Str) (tt + 0)), (.str (⟨⟨[95, 108, 97, 119, 95, 101, 110, 100, 101, 100, 46, 60, 108, 111, 99, 97, 108, 115, 62, 46, 60, 108, 97, 109, 98, 100, 97, 62]⟩⟩ : Str) (tt + 1)), (.str s163 (tt + 2)), (.int 932 0), (.int 0 0), (.int 0 0), (.int 0 0), (.int 19 0), (.ref (b)), (.bool true), (.int 181 0), (.ref (b + 1)), .none, (.ref (b + 2)), (.ref (b + 3)), (.ref (b + 4)), (.int (Int.ofNat (tt + 5)) 0), (.int 932 0), (.str s163 (tt + 6))]⟩, ⟨[]⟩⟩ : Obj)
noncomputable def cd5 (b tt : Nat) : Obj := (⟨(.type PySem.W.SL.s5856160107412720595x4), none, .fields ⟨[(.str (⟨⟨[60, 108, 97, 109, 98, 100, 97, 62]⟩⟩ : Str) (tt + 0)), (.str (⟨⟨[95, 108, 97, 119, 95, 115, 104, 117, 116, 46, 60, 108, 111, 99, 97, 108, 115, 62, 46, 60, 108, 97, 109, 98, 100, 97, 62]⟩⟩ : Str) (tt + 1)), (.str s163 (tt + 2)), (.int 942 0), (.int 0 0), (.int 0 0), (.int 0 0), (.int 19 0), (.ref (b)), (.bool true), (.int 181 0), (.ref (b + 1)), .none, (.ref (b + 2)), (.ref (b + 3)), (.ref (b + 4)), (.int (Int.ofNat (tt + 5)) 0), (.int 942 0), (.str s163 (tt + 6))]⟩, ⟨[]⟩⟩ : Obj)
noncomputable def orcD : Nat := nat_lit 1393797904136160969203076325771180377112576
noncomputable def dOut (P : Params) (t1 : Nat) (its c : Array Value) (E D : DL) (B T : Nat) (as : List Ans) : Out :=
  om (cfE P (lookW P t1 its c) E dkW) (nat_lit 2100) ⟨ΓD, pD, [], [], (cfE P (lookW P t1 its c) E dkW).den ΓD.code, ⟨D, .nil, nat_lit 0, [(nat_lit 0, B)], T, nat_lit 0⟩, ⟨orcD, [], [], [], []⟩⟩ as
noncomputable def or1 : Nat → Nat
  | 0 => nat_lit 1809254845206240555717836596410440557838219596089704838821659866058036610048
  | 1 => nat_lit 1809254845206240555717836596410440557838219596089704838821659866058036610048
  | 2 => nat_lit 1989296739914328463850745340276427056349990303762332611848186957095680812680072343323648
  | 4 => nat_lit 41408931168190505118508485133318915191282762359143041749957160141852918113241661653460895072324605353515068512619171900046733663737896444961993942921286897423485799892244844889682163953932386689320532875250430294464915601411846552415397349181790296809136487695143803118580696147576090546625998040228317530667569001345141377934120040001592548132854831540625514063541662095122684088566541678761981811500783414841489777268263493163550651130516742075326712562065734400838992896
  | 5 => nat_lit 1725438232202198269562770298803976870317739957231343875876516107650048
  | _ => 0
noncomputable def or2 : Nat → Nat
  | 0 => nat_lit 18814073393577370864254865775527839880735941318512571183195197013044539573552942264709370028170778726550117736929723165294233176127516707237209575426212699316092656727767827862574359339156398839926713527256199359775239065437726456805417668087819332258856568584675264601409218837771731637827414999177386331486530669072075335586127833664037614677360865142989235024397599015750798689872807649612370459646760515764852047389364475126868374717621392615235180981360327399381776090373495739175292697518651135416303991493722850282907636465428799887000056060317325113247925845906201040612590451563689140979247834313151618902897735354740755935109144527861841009993743794846412882222353686226471361287174873760619514643565594613360097414077459297447061349446867761660211132956623350186469827942695819685084349065498587339354679863666745478276421234091516234477538020479192719801518540041454198555478089529357353387164987741428972592631273672814583832603609583932612857795916760301700901770613468687711679011780005977171897214973655547075486839304608401906008224561644898552197221550981580286472422284052255279159096187801489176665306946535880758027045502778302112614629216949278170168794497843312254254045769320709350308015663951987838934385744141224282645594112
  | 1 => nat_lit 116109265386207112366139949912501080094449910182742601130250973008709503146387236169329719030051184495234523175534312254083058339800082790273228067020465498299653770210268151867907119111807185110053546835445653718785799385382074078845653439408264442207587430109893417827366957733506440959784618137241756991225863235634429594585664748631417611015451658210530082894926820056517683738713832513834418345814420472813483092778786499728803365557985457149600933256754668680562005269189965623975588937191674099200556722859198326995198730183147695211666513871145881839988575424671957414201345633695552144514030351578705722923745847362501182211197062333309712642402212510704388827180533589126880839932455842816545842676984678216531103162225599413993100826931890707422137564300469166348414728664784903219496931103476570457168189042339286835472045289670347752686126906036470691507021711992387033218753893394207578658448384822649643664674993171923844656712681024403269728348099333763329106457319909252386332724874166774340920619847736297154924128649342773145582315057206701555053406973341561502185623859940850689035837487756709169084569604149193305695701141701678909892277723901866962987450389396840969252349093651450133918503631536301934021565297200166016487170416586050522370676745080720821197852615830681454967967031091156784396683105830856109037779689282376177455815823755797684213528226449542794521187918580408019981389790191260130444779999236984243934242880802412340672852438449951087036537161755829713095318760554291041098992959989577823001569158589107809509837574770348079248926306961709543969375956880772715095829833509202692107977448670706181336551786804533197128196809292379584389585257268314659632578252576929009528418248264552122047223954568292297008911881527374878980004555150385822791924657843328117011402299751468491698757380390722490004534682052112908380360897859239156584259615090673777546251592196203514983180927665930088304195918309867749693794430859762510195203719893948798132039351144267045008127975299070521036840499603194090692063896071926075682120798304437556019465546192237956448951239188249453648762940228088602670882527602249984214423629970116764668271951233337592605606399564038252339361628682991385851300949001150086774830458221699107863588572388393355009772956221329940269431615170389272603118778311568073982348792811516872609212617283600384
  | _ => 0
noncomputable def tab_ca (a : Nat) : Obj := nO [(.int 923 0), (.int 0 0), (.ref a)]
noncomputable def tab_wr (a : Nat) : Obj := nO [(.int 928 0), (.int 20 0), (.ref a)]
noncomputable def tab_en (a : Nat) : Obj := nO [(.int 932 0), (.int 21 0), (.ref a)]
noncomputable def tab_sb (a : Nat) : Obj := nO [(.int 942 0), (.int 20 0), (.ref a)]
theorem n0 (w : World) (t1 : Nat) (its c : Array Value) (x0 x1 x2 x3 x4 x5 : Nat × Obj) (ob T0 T1 T2 T3 fr jr pi ow en : Obj) (B T : Nat) : TkE w peel1 (fun P => dOut P (t1 + 1998) its c [x0, x1, x2, x3, x4, x5] (dl ob T0 T1 T2 T3 fr jr pi ow en) (B + 1488) (T + 1998) []) 6 ((T + 1998) + 2) ⟨944, 10, 944, 27⟩ (dl ob T0 T1 T2 T3 fr jr pi ow en) (nat_lit 1) [(nat_lit 0, (B + 1488))] ((T + 1998)) (nat_lit 3) := by kernel_rfl
theorem n1_0 (w : World) (t1 : Nat) (its c : Array Value) (x0 x1 x2 x3 x4 x5 : Nat × Obj) (ob ob1 T0 T1 T2 T3 fr jr pi ow en : Obj) (B T tw0 tb0 : Nat) : TkE w peel2 (fun P => dOut P (t1 + 1998) its c [x0, x1, x2, x3, x4, x5] (dl ob T0 T1 T2 T3 fr jr pi ow en) (B + 1488) (T + 1998) [aTk 0 tw0 ob1 ((B + 1488) + 2) (tb0 + 1998) (or1 0)]) 5 ((tb0 + 1998) + 3) ⟨920, 10, 920, 27⟩ (dl ob1 T0 T1 T2 T3 fr jr pi ow en) (nat_lit 4) [(nat_lit 1, (B + 1488) + 2), (nat_lit 0, (B + 1488))] ((tb0 + 1998)) (nat_lit 4) := by kernel_rfl
theorem n1_1 (w : World) (t1 : Nat) (its c : Array Value) (x0 x1 x2 x3 x4 x5 : Nat × Obj) (ob ob1 T0 T1 T2 T3 fr jr pi ow en : Obj) (B T tw0 tb0 : Nat) : TkE w peel2 (fun P => dOut P (t1 + 1998) its c [x0, x1, x2, x3, x4, x5] (dl ob T0 T1 T2 T3 fr jr pi ow en) (B + 1488) (T + 1998) [aTk 1 tw0 ob1 ((B + 1488) + 2) (tb0 + 1998) (or1 1)]) 5 ((tb0 + 1998) + 3) ⟨920, 10, 920, 27⟩ (dl ob1 T0 T1 T2 T3 fr jr pi ow en) (nat_lit 4) [(nat_lit 1, (B + 1488) + 2), (nat_lit 0, (B + 1488))] ((tb0 + 1998)) (nat_lit 4) := by kernel_rfl
theorem n1_2 (w : World) (t1 : Nat) (its c : Array Value) (x0 x1 x2 x3 x4 x5 : Nat × Obj) (ob ob1 T0 T1 T2 T3 fr jr pi ow en : Obj) (B T tw0 tb0 : Nat) : TkE w peel2 (fun P => dOut P (t1 + 1998) its c [x0, x1, x2, x3, x4, x5] (dl ob T0 T1 T2 T3 fr jr pi ow en) (B + 1488) (T + 1998) [aTk 2 tw0 ob1 ((B + 1488) + 2) (tb0 + 1998) (or1 2)]) 5 ((tb0 + 1998) + 9) ⟨927, 45, 927, 62⟩ (dl ob1 T0 T1 T2 T3 fr jr pi ow en) (nat_lit 8) [(nat_lit 1, (B + 1488) + 2), (nat_lit 0, (B + 1488))] ((tb0 + 1998)) (nat_lit 10) := by kernel_rfl
theorem n1_4 (w : World) (t1 : Nat) (its c : Array Value) (x0 x1 x2 x3 x4 x5 : Nat × Obj) (ob ob1 T0 T1 T2 T3 fr jr pi ow en : Obj) (B T tw0 tb0 : Nat) : TkE w peel2 (fun P => dOut P (t1 + 1998) its c [x0, x1, x2, x3, x4, x5] (dl ob T0 T1 T2 T3 fr jr pi ow en) (B + 1488) (T + 1998) [aTk 4 tw0 ob1 ((B + 1488) + 2) (tb0 + 1998) (or1 4)]) 2 ((tb0 + 1998) + 18) ⟨936, 47, 936, 64⟩ (dl ob1 T0 T1 T2 T3 fr jr pi ow en) (nat_lit 9) [(nat_lit 1, (B + 1488) + 2), (nat_lit 0, (B + 1488))] ((tb0 + 1998)) (nat_lit 19) := by kernel_rfl
theorem n1_5 (w : World) (t1 : Nat) (its c : Array Value) (x0 x1 x2 x3 x4 x5 : Nat × Obj) (ob ob1 T0 T1 T2 T3 fr jr pi ow en : Obj) (B T tw0 tb0 : Nat) : TkE w peel1 (fun P => dOut P (t1 + 1998) its c [x0, x1, x2, x3, x4, x5] (dl ob T0 T1 T2 T3 fr jr pi ow en) (B + 1488) (T + 1998) [aTk 5 tw0 ob1 ((B + 1488) + 2) (tb0 + 1998) (or1 5)]) 2 ((tb0 + 1998) + 5) ⟨953, 11, 953, 28⟩ (dl ob1 T0 T1 T2 T3 fr jr pi ow en) (nat_lit 1) [(nat_lit 1, (B + 1488) + 2), (nat_lit 0, (B + 1488))] ((tb0 + 1998)) (nat_lit 6) := by kernel_rfl
theorem n2_0 (w : World) (t1 : Nat) (its c : Array Value) (x0 x1 x2 x3 x4 x5 : Nat × Obj) (ob ob1 ob2 T0 T1 T2 T3 fr jr pi ow en : Obj) (B T tw0 tb0 tw1 tb1 : Nat) : TkE w peel2 (fun P => dOut P (t1 + 1998) its c [x0, x1, x2, x3, x4, x5] (dl ob T0 T1 T2 T3 fr jr pi ow en) (B + 1488) (T + 1998) [aTk 4 tw0 ob1 ((B + 1488) + 2) (tb0 + 1998) (or1 4), aTk 0 tw1 ob2 ((B + 1488) + 11) (tb1 + 1998) (or2 0)]) 5 ((tb1 + 1998) + 43) ⟨937, 51, 937, 68⟩ (dl ob2 T0 T1 T2 T3 fr jr pi ow en) (nat_lit 21) [(nat_lit 9, (B + 1488) + 11), (nat_lit 1, (B + 1488) + 2), (nat_lit 0, (B + 1488))] ((tb1 + 1998)) (nat_lit 44) := by kernel_rfl
theorem n2_1 (w : World) (t1 : Nat) (its c : Array Value) (x0 x1 x2 x3 x4 x5 : Nat × Obj) (ob ob1 ob2 T0 T1 T2 T3 fr jr pi ow en : Obj) (B T tw0 tb0 tw1 tb1 : Nat) : TkE w peel2 (fun P => dOut P (t1 + 1998) its c [x0, x1, x2, x3, x4, x5] (dl ob T0 T1 T2 T3 fr jr pi ow en) (B + 1488) (T + 1998) [aTk 4 tw0 ob1 ((B + 1488) + 2) (tb0 + 1998) (or1 4), aTk 1 tw1 ob2 ((B + 1488) + 11) (tb1 + 1998) (or2 1)]) 5 ((tb1 + 1998) + 77) ⟨937, 51, 937, 68⟩ (dl ob2 T0 T1 T2 T3 fr jr pi ow en) (nat_lit 26) [(nat_lit 9, (B + 1488) + 11), (nat_lit 1, (B + 1488) + 2), (nat_lit 0, (B + 1488))] ((tb1 + 1998)) (nat_lit 78) := by kernel_rfl
end M9
end
section
open PySem PySem.W PySem.Calls PyProof.Rows PySem.Spec
namespace M9
noncomputable def fo_ca00f : Nat := nat_lit 48583983755377105880702444808110406687421531292887129354486095974383444582256141295396119378558577437192622886723906627481492340497430243073809490145782218232789539147676095668262525948550107340283728169614963154898350711706050403187398931022084614324619105594425576873452837065397914696245327338304069201667186920587946873680212451389739285631615786404639365002176123981733723855465978983726817560982025895380547224147560343230694545100737435603681996651472491446201574797937132138215795921211712434389520759730219088281287780386694194348328997018599059995672655835008849000523595445929972603153141384727428663108523108563657304090767054187456687556213396055755580015439562998161882266805612084187471404051858643530321474695401497029165195372017375264519725692947979244151597787378340215496500269953471221352884151619252244426423503434878355192280462666765633222916503256531528627184754429848328405866494569798894499178184019668876579304390736346022519608950567019191448354431095684905632286919598318531108044903765760833477160359223294343093573013289098508131218068621598124618657696183627873720870727067491503452926772433681530677424034169769915900818813174888060423059743776840524844384483263941701072526578616374494965828269037043440448607139439769700388238313241768440458443010660495275131273379227216274458170196337557231166356384306794358987138656436819626821632
theorem f_ca00f (w : World) (t1 : Nat) (its c : Array Value) (x0 x1 x2 x3 x4 x5 : Nat × Obj) (ob ob1 ob2 T1 T2 T3 pi ow en : Obj) (B T tw0 tb0 tw1 tb1 jt : Nat) (es : List DictEntry) (n : Nat) (sl : Array (Option Value)) : FinE w (fun P => dOut P (t1 + 1998) its c [x0, x1, x2, x3, x4, x5] (dl ob (nO []) T1 T2 T3 (frO es n sl) (jrO P (t1 + 1998) jt) pi ow en) (B + 1488) (T + 1998) [aTk 0 tw0 ob1 ((B + 1488) + 2) (tb0 + 1998) (or1 0), aTk 0 tw1 ob2 ((B + 1488) + 6) (tb1 + 1998) fo_ca00f]) [nat_lit 11, nat_lit 7, nat_lit 21] (fun P => some (.ok (.ret (.bool true)), dl ob2 (tab_ca ((B + 1488) + 13)) T1 T2 T3 (frO es n (mkN 0 sl)) (jrO P (t1 + 1998) ((tb1 + 1998) + 47)) pi ow en, nat_lit 31, [(nat_lit 4, (B + 1488) + 6), (nat_lit 1, (B + 1488) + 2), (nat_lit 0, (B + 1488))], ((tb1 + 1998)), nat_lit 60)) [some (cd0 ((B + 1488) + 8) (tb1 + 1998)), some (cd1 ((B + 1488) + 8)), some (cd2 ((B + 1488) + 8) (tb1 + 1998))] := by kernel_rfl
noncomputable def fo_ca00c : Nat := nat_lit 42139405879045242223183958459048851583989210656995534147077863073069483259157211164948034354484714932735149759096771443512376659881261567127079743198480594064136988267410338198979276258126041881315626100090721323263726646534829615508118629857644537041470226957415396247778035627192626424928788329705435225815793586914816874012820403661804985544887089372115648807487586703852161192580895089753461882946381188488264712169773239122284053778063748484645521620640590496619769330144701568302561281219451449702153133596386198525814887395016162290927174202594642973243352536127762655672754773725149322905919128625671358073407731993262037543872014621197483784390963155546678752806561860748367971880357275451608409984819113923206969857388347493081584997221124434211877560198127862561255084947111885424529665216382151707369420705830395184746370039789791351538917659610049200146975845792061553009371468156789663289769923787172423747633285779610447659628070685050960439498729341457327417104006648294249897231432116855819779574363415544897406140244043646500763882930118014150764393912463127062271879257842325104811030731726998774341032376679052096213734079008549607449822838267599621564691233777220123599529158186661004561322786968369545535710749666712417233077240717313505746807954674278804275372948795594056577530546941836988600472793928606917861028130056675788800
theorem f_ca00c (w : World) (t1 : Nat) (its c : Array Value) (x3 x4 x5 : Nat × Obj) (ob ob1 ob2 T1 T2 T3 pi ow en : Obj) (B T tw0 tb0 tw1 tb1 cb ct jt : Nat) (es : List DictEntry) (n : Nat) (sl : Array (Option Value)) : FinE w (fun P => dOut P (t1 + 1998) its c [(cb + 5, cd0 cb ct), (cb + 1, cd1 cb), (cb + 15, cd2 cb ct), x3, x4, x5] (dl ob (tab_ca (cb + 5)) T1 T2 T3 (frO es n sl) (jrO P (t1 + 1998) jt) pi ow en) (B + 1488) (T + 1998) [aTk 0 tw0 ob1 ((B + 1488) + 2) (tb0 + 1998) (or1 0), aTk 0 tw1 ob2 ((B + 1488) + 6) (tb1 + 1998) fo_ca00c]) [] (fun P => some (.ok (.ret (.bool true)), dl ob2 (tab_ca (cb + 5)) T1 T2 T3 (frO es n (mkN 0 sl)) (jrO P (t1 + 1998) ((tb1 + 1998) + 34)) pi ow en, nat_lit 19, [(nat_lit 4, (B + 1488) + 6), (nat_lit 1, (B + 1488) + 2), (nat_lit 0, (B + 1488))], ((tb1 + 1998)), nat_lit 47)) [] := by kernel_rfl
noncomputable def fo_ca01f : Nat := nat_lit 3471278542324228524082940313464117767274693079341674978637602986076062305570313917322536069699069109077191412807192331200145476421695648495075238907715988808818769633939321266395826540172798747369572323711318765712440527310585789181795459419264850453488949433065872131356119671120237321127154605008176504602285075828198746499620997933246332515595997213736108513141746508382983968207556868307012557733804711423844123558251629764057996639748416078255285724215730742988456944408062052561931911877534486682780675260049915982779123149216288499978240973990336383930027203178759716883800448383797649925347563143229736936464524961877697940325388640276737364744441069077585620349178453200153238192035046480537812693671018559251327457773903914021779309974211580799288480702745664768950664441275492469882184335610572780734184357953817989738758002060261951252428535839048428442529726645744866690899767770644232135076174270819305165028512757532966797754822629862241424647756628441488048190430457411598493964515935062112833707512363699622142517723779977962015054181988262662680551582878521017292191637271108330572442896725370889084027299856644492027828303226606616836663617377364264462404203412336241653700409967420030917971324579134192111043776568490297326118275119912679209916122758503220734332360044333239448126212740898405346996123371255025670322419433521800762886694460640012212668605665164674184950920834077282999612220785482945222704145694844528934414761401334800750692457892694139287727903016683342687487380385582576226498127042786458806620087875681644514432444460378229418191195506694702871185892222264663037634137974316665701027336681912341419626246274486496187481875759277201537701368623792878818743375670982810017666245730831251011439266311862186102848576601179496212054618743675351276588281581908068353867204525738225679060854347828769715769322653994569050581797733909145224340507781075672526587983242868369131520
theorem f_ca01f (w : World) (t1 : Nat) (its c : Array Value) (x0 x1 x2 x3 x4 x5 : Nat × Obj) (ob ob1 ob2 T1 T2 T3 pi ow en : Obj) (B T tw0 tb0 tw1 tb1 jt : Nat) (es : List DictEntry) (n : Nat) (sl : Array (Option Value)) : FinE w (fun P => dOut P (t1 + 1998) its c [x0, x1, x2, x3, x4, x5] (dl ob (nO []) T1 T2 T3 (frO es n sl) (jrO P (t1 + 1998) jt) pi ow en) (B + 1488) (T + 1998) [aTk 0 tw0 ob1 ((B + 1488) + 2) (tb0 + 1998) (or1 0), aTk 1 tw1 ob2 ((B + 1488) + 6) (tb1 + 1998) fo_ca01f]) [nat_lit 11, nat_lit 7, nat_lit 21] (fun P => some (.ok (.ret (.bool true)), dl ob2 (tab_ca ((B + 1488) + 13)) T1 T2 T3 (frO es n (mkN 1 sl)) (jrO P (t1 + 1998) ((tb1 + 1998) + 52)) pi ow en, nat_lit 41, [(nat_lit 4, (B + 1488) + 6), (nat_lit 1, (B + 1488) + 2), (nat_lit 0, (B + 1488))], ((tb1 + 1998)), nat_lit 65)) [some (cd0 ((B + 1488) + 8) (tb1 + 1998)), some (cd1 ((B + 1488) + 8)), some (cd2 ((B + 1488) + 8) (tb1 + 1998))] := by kernel_rfl
noncomputable def fo_ca01c : Nat := nat_lit 3010819700721364246682158467922650189968360750974942676103748700726124767808820346512352843161107254377989302677050917008648839628854517940484805918513522139918227381543846090481948814996158207759529034804645571157856977673208229362148451145455943685919449585986088137676290488310291162880668988545968144612075053840113386364894719386340364521623664220332698086620946231266710678724554272234263329578829785108049985387045839048216052543033751837493971733145337046162714460844215180226563164909917671076004448545769630374010241521528721207546190943742005558572213487035595240006976824620624253694958752094056289565252360379632950253545724107884708887982380683653653536134496817161524771324681508237073106082167393924600027502706422669419394179715450693885725277139007297481942699316732593547948938252032782898491460687929242515451150488678026697358990951687534598873703551547489297239085615273738419452514501240805266706615951290325718046111458745047620960751355364597789419958291293351120060831464007982653848508012314009582135197420085620839384400466237535908490575079714210141725070941716771371012382802013326549619507676514011763398495816736278375919276605868873530522632019295276713589682685030254754099889424076341703339575687863246863610091435246538618035901240838827828689778327747257055159786536101488713625841549799000049501184728953520134703352770890691060771667593894534453506528560117321215582328310191458512033076084563652553940160128678569497537339765453479920664061628083937343447986088670338962260865026296955478685312514883590639048706773566827332694148982336668972919935574153900205319622104668124999725219161151109457617512990762469177417086738070437228863448628195884403517450551477761308937461068078379281478460988335717704029484974616301468419392524638152098086911940229446590346213978639759299851617435449658186436694232549328323951404624754513343091374374951826898290688
theorem f_ca01c (w : World) (t1 : Nat) (its c : Array Value) (x3 x4 x5 : Nat × Obj) (ob ob1 ob2 T1 T2 T3 pi ow en : Obj) (B T tw0 tb0 tw1 tb1 cb ct jt : Nat) (es : List DictEntry) (n : Nat) (sl : Array (Option Value)) : FinE w (fun P => dOut P (t1 + 1998) its c [(cb + 5, cd0 cb ct), (cb + 1, cd1 cb), (cb + 15, cd2 cb ct), x3, x4, x5] (dl ob (tab_ca (cb + 5)) T1 T2 T3 (frO es n sl) (jrO P (t1 + 1998) jt) pi ow en) (B + 1488) (T + 1998) [aTk 0 tw0 ob1 ((B + 1488) + 2) (tb0 + 1998) (or1 0), aTk 1 tw1 ob2 ((B + 1488) + 6) (tb1 + 1998) fo_ca01c]) [] (fun P => some (.ok (.ret (.bool true)), dl ob2 (tab_ca (cb + 5)) T1 T2 T3 (frO es n (mkN 1 sl)) (jrO P (t1 + 1998) ((tb1 + 1998) + 39)) pi ow en, nat_lit 29, [(nat_lit 4, (B + 1488) + 6), (nat_lit 1, (B + 1488) + 2), (nat_lit 0, (B + 1488))], ((tb1 + 1998)), nat_lit 52)) [] := by kernel_rfl
noncomputable def fo_ca02f : Nat := nat_lit 4098162360244133982093875054913492591302300751617550850843296396516145954443431077633065568989093316185340669583294155715551148149178335530632015461430511565598598854161255865186125935525400502370566238308121362247776618146984592968309650771602503836176286576156357382511961775936880448592180381302335397027978373436503239381853803923155181909326290295226548649290721894438617557181606882762109396877314872696405116438003115238400626513270013553545197817166025033660259361317061931619682784143163711281219678752405103365111207826918214174174045376849044395325811476908590528773566744605103705436923994410179885045359011295770175065321638055405401621183042330948064464846971817478198483047128495896105166248388449034684646915032789869960976773879148773439542022635314044124937028148003104051621374213982175660177148333408249039411036736223106080744750102290605444603014441992433924345455633712880436166855066984507083637098615718315389167603936397741734487719733614599557101390751625462251873998426641577386619401315916037951360943480415557907854117072934739236769114036110932007246792040147367123515792889008497577933833686419249141966830384818502740214907210022716805605136295534785424411106114939416188471253051333293758660393236976512731438842180062381700643308403917585412804276591954872176738928587665033616092868061969023121735525285160390229043714859062915646436160520641435233165903812239088451342794854427535200932901202500484642557642912967603636698835607160183221948542994686378278100729575637353985621734595398772526039037714959943805637909528095113250037971011951477697396364689073316403803031232496467501675884142846940132396487079080112369262269824831539515776728021841565236194910896748046690279104305067855199968470384071583691463533858486995489525364361353226516649505469152466098953022579742217731578452747405531382711722109589304518137237022101028048538059984023520386098959884999970302152132710085612825133189120
theorem f_ca02f (w : World) (t1 : Nat) (its c : Array Value) (x0 x1 x2 x3 x4 x5 : Nat × Obj) (ob ob1 ob2 T1 T2 T3 pi ow en : Obj) (B T tw0 tb0 tw1 tb1 jt : Nat) (es : List DictEntry) (n : Nat) (sl : Array (Option Value)) : FinE w (fun P => dOut P (t1 + 1998) its c [x0, x1, x2, x3, x4, x5] (dl ob (nO []) T1 T2 T3 (frO es n sl) (jrO P (t1 + 1998) jt) pi ow en) (B + 1488) (T + 1998) [aTk 0 tw0 ob1 ((B + 1488) + 2) (tb0 + 1998) (or1 0), aTk 2 tw1 ob2 ((B + 1488) + 6) (tb1 + 1998) fo_ca02f]) [nat_lit 11, nat_lit 7, nat_lit 21] (fun P => some (.ok (.ret (.bool true)), dl ob2 (tab_ca ((B + 1488) + 13)) T1 T2 T3 (frO es n (mkN 1 sl)) (jrO P (t1 + 1998) ((tb1 + 1998) + 52)) pi ow en, nat_lit 41, [(nat_lit 4, (B + 1488) + 6), (nat_lit 1, (B + 1488) + 2), (nat_lit 0, (B + 1488))], ((tb1 + 1998)), nat_lit 65)) [some (cd0 ((B + 1488) + 8) (tb1 + 1998)), some (cd1 ((B + 1488) + 8)), some (cd2 ((B + 1488) + 8) (tb1 + 1998))] := by kernel_rfl
noncomputable def fo_ca02c : Nat := nat_lit 3554548510162546670469740607997238796386162134135527049066037070690423829134986788973840851713572392958770247676265304903119017823888935067639236453162945388180940413918137554157831055890625134654840766164131306597776857915980818398610835009195560169387696350744289483472834966860694717115555613902783044465451432881557028330479142963980420949233980108518560395820469900742679282447151816181312107596000523304453758580111292662558409150949766922924485609479712581639222116295307667611777637443798818624312829801879870563671522609757930232784958325371190719840700089253582190232012213508021944039397074864538390918302438024602434253401745610341787264024858292853540758620257386652750152038968039264669293937244326346950815287735751527699931632551644207959035608933931205821504301422329706094706249836633359898572645254660685826016907905378855788102651280261679641744158208792021699172220547446660072481909572566105247628913219569479373952777142133142332607214370633393575930754470631965102005571315789925712978373572382988886678190822549542572169355255958170139850269446173993963731336486165891533243658135062591085611774085235313783142677522829252652341779981812253050170683715743946141469408018147575488707576373227287626601425769042786489527334541741437728439844245857230703643679097891319622265344741690943160129186225322572050534088304054017242222063154267888888930013188392351262833149290673160809839616600850482280806829618815308643724626458963613546026391105063032342987570454788450734668609046531560436015019154531193493795179614896741350513801240313816028006609554563487967544178982481961215311372175202790403286219573595669593035958337565360593016439687465685241598510303731843233557715148402991060086621406720141493568338189289670137229379588812769507827287040426220335645682015752664690422720881142811018684160613810527228785909134969360947150738718194524757919078659236400708682328597760993544846182400
theorem f_ca02c (w : World) (t1 : Nat) (its c : Array Value) (x3 x4 x5 : Nat × Obj) (ob ob1 ob2 T1 T2 T3 pi ow en : Obj) (B T tw0 tb0 tw1 tb1 cb ct jt : Nat) (es : List DictEntry) (n : Nat) (sl : Array (Option Value)) : FinE w (fun P => dOut P (t1 + 1998) its c [(cb + 5, cd0 cb ct), (cb + 1, cd1 cb), (cb + 15, cd2 cb ct), x3, x4, x5] (dl ob (tab_ca (cb + 5)) T1 T2 T3 (frO es n sl) (jrO P (t1 + 1998) jt) pi ow en) (B + 1488) (T + 1998) [aTk 0 tw0 ob1 ((B + 1488) + 2) (tb0 + 1998) (or1 0), aTk 2 tw1 ob2 ((B + 1488) + 6) (tb1 + 1998) fo_ca02c]) [] (fun P => some (.ok (.ret (.bool true)), dl ob2 (tab_ca (cb + 5)) T1 T2 T3 (frO es n (mkN 1 sl)) (jrO P (t1 + 1998) ((tb1 + 1998) + 39)) pi ow en, nat_lit 29, [(nat_lit 4, (B + 1488) + 6), (nat_lit 1, (B + 1488) + 2), (nat_lit 0, (B + 1488))], ((tb1 + 1998)), nat_lit 52)) [] := by kernel_rfl
noncomputable def fo_ca03f : Nat := nat_lit 4838256142843713733923179342101967558096069449569732887257467691161248585910227096139453059538411319899973264524565205990218639647298261285735412603905483455616544635321980676514690128013373916929480621968556273790647758293636000554424000067765594720400402431399162048154937550896439240630997371557207470825714846050832057346030137438252646816240668137988099423980415519306824852670540484550867137055621147892326790464342632851709936441599501226278217662078297439224949410129006320814666253854621864618718507576166182282984520600659778650734551847493815664293036707801392232727619933728499796015971603994710650381075439181508954130086656897163604449707108728769286743721662186013077535438185489284834043027995533489089342383563890635245396824948628571670130373664557702922981522952827455003546764669040771892712864229031939922335436630329988463341067789915510028404735978862390488451314858018673624014258856113687692974442975559213835049226607548444312822496933862787406791477039179005211004422238399319283033186806808589780189817305148724938929278312916409927224023304798938991554018476134730769514470416919214974566175293614044907839796407569366631086036268629949391075648632701788369794515821061652018752442961765579712958919963159161387581128584235759955957292666712112500831781833522243634179423882252786296180477581144693198881610622240715361880790625970942835722472357893414082015017969338278989497763872281300482497937747599395111292288030480439877752788456965231537511270043967197738203404774198532768943620512196254856883399137697963447197686219402393756136630680494713521830278369692942709116274569660642792847443612337688550465253006182509952091256386532866883986227285835375254985558375451513117418707425690383238847206437441660991154424237467641783219330964220889683343055037448299809441914389474915531622716665648601057656626369569460302082070446142980733987132188448403846402353934682531630542143865695739286409152178308958700876146411520
theorem f_ca03f (w : World) (t1 : Nat) (its c : Array Value) (x0 x1 x2 x3 x4 x5 : Nat × Obj) (ob ob1 ob2 T1 T2 T3 pi ow en : Obj) (B T tw0 tb0 tw1 tb1 jt : Nat) (es : List DictEntry) (n : Nat) (sl : Array (Option Value)) : FinE w (fun P => dOut P (t1 + 1998) its c [x0, x1, x2, x3, x4, x5] (dl ob (nO []) T1 T2 T3 (frO es n sl) (jrO P (t1 + 1998) jt) pi ow en) (B + 1488) (T + 1998) [aTk 0 tw0 ob1 ((B + 1488) + 2) (tb0 + 1998) (or1 0), aTk 3 tw1 ob2 ((B + 1488) + 6) (tb1 + 1998) fo_ca03f]) [nat_lit 11, nat_lit 7, nat_lit 21] (fun P => some (.ok (.ret (.bool true)), dl ob2 (tab_ca ((B + 1488) + 13)) T1 T2 T3 (frO es n (mkN 1 sl)) (jrO P (t1 + 1998) ((tb1 + 1998) + 52)) pi ow en, nat_lit 41, [(nat_lit 4, (B + 1488) + 6), (nat_lit 1, (B + 1488) + 2), (nat_lit 0, (B + 1488))], ((tb1 + 1998)), nat_lit 65)) [some (cd0 ((B + 1488) + 8) (tb1 + 1998)), some (cd1 ((B + 1488) + 8)), some (cd2 ((B + 1488) + 8) (tb1 + 1998))] := by kernel_rfl
noncomputable def fo_ca03c : Nat := nat_lit 4196470186531460716775027142344173126086870622630096695897854176002136043659397038727944847465394776318717119953216491615737729449189025361577385510620812212140550226517587750769761193754161751948752275341116320436635982183678683712951946432290297781148403535467963193527701398181769359265066235346097436258614064055521509641696175413555122054287226265836073835988889779544206234838339929704238918454007696053393542647921674673731306378370208135507496112139346237202964734519441972805120035699868272387389998777579075448143960551087595482320068524232585527373719162941552520891005598178535347926103426916694510488446890257942774549045628144112464892311390925585838853983386685251841224135514983109646988558791870106915294615826763531807853443982668019497960543638806546343144581847299227681204853261202608445747674358718953446956177065822729270746366978274252065310010753580696009966796164791092980492376485348655770816464859117988351854313261583716562048399059010339739622216090429032886752088437898586245788698059602129646216253296064308474798305837486821080448675723729727525713668352096882103089349202744341760344092196910697736974805129935031657900948383632830230107046726175961014592405774620516460269428621017982914286913423748467985382717280902145236423583270651993105475713440472761925679480527368967064278742537566035133631697908554590388910207279687592145459914557637279097914926796333138444145114368128587194671870383775911207203966995098501723789769582728342510484992830978327213102988008116756298138313740484306525134050587928438737235066794279099093866006193268765305811128426670609093936395842061575836661478136355059454892658630919044633740589243081113600224814491873511645765915399986205694934091755639417378732510800711602106898515730856784293599192695463776468289088341673298322613693322850396896164136574699504979668264048614434811852476389710184573790020041906012965710393413709517968167685724053451601163573004288
theorem f_ca03c (w : World) (t1 : Nat) (its c : Array Value) (x3 x4 x5 : Nat × Obj) (ob ob1 ob2 T1 T2 T3 pi ow en : Obj) (B T tw0 tb0 tw1 tb1 cb ct jt : Nat) (es : List DictEntry) (n : Nat) (sl : Array (Option Value)) : FinE w (fun P => dOut P (t1 + 1998) its c [(cb + 5, cd0 cb ct), (cb + 1, cd1 cb), (cb + 15, cd2 cb ct), x3, x4, x5] (dl ob (tab_ca (cb + 5)) T1 T2 T3 (frO es n sl) (jrO P (t1 + 1998) jt) pi ow en) (B + 1488) (T + 1998) [aTk 0 tw0 ob1 ((B + 1488) + 2) (tb0 + 1998) (or1 0), aTk 3 tw1 ob2 ((B + 1488) + 6) (tb1 + 1998) fo_ca03c]) [] (fun P => some (.ok (.ret (.bool true)), dl ob2 (tab_ca (cb + 5)) T1 T2 T3 (frO es n (mkN 1 sl)) (jrO P (t1 + 1998) ((tb1 + 1998) + 39)) pi ow en, nat_lit 29, [(nat_lit 4, (B + 1488) + 6), (nat_lit 1, (B + 1488) + 2), (nat_lit 0, (B + 1488))], ((tb1 + 1998)), nat_lit 52)) [] := by kernel_rfl
noncomputable def fo_ca04f : Nat := nat_lit 5712004661125831049685298654821254101503566092868702879961619445232616886256023414176305495967657050300964015125420924717710820104886737207048298805775058134204286495570595992258859653527540046665709111348471915588397253962595152052269818061105611961140645543147505153592266549254424142813851518702623264297342749158355249833458426664421748595782298725762613869797366269151445841010298161739867886922333890543151379303009928889996187190796221435108311742104501868491296994111367151695603356623068001050356185852235945960619844173654909726705888876693607515429657031912713672515919689602537336173259688378237117166006385705268152964181209137328589611330057574384937802053628524031046472373802237838103370932266533562430682323459386470597476859652523732250265792457345609841673294266275880661211247081335150866783713357541726141598364935283791317017257225002925303755640124320924412919835754732518082760954976664889199511396813429124636899725384220763813984946391166954572856050649483651485812738928570577826774864724727185406709708553878885158080248907739404451968829812077081654822354254883059569939947321131905845269705834115536640880768579727273423219276265985181617961257667471795365043027368485970349750434180648709300939176528641142510524135110347784592015986535574695047495014579309331921792653478479076743925190086519231957692612859660806977911090895177533294120152152147036179613705475803057367110331576338313148405157443138132176825411033237468276078871047346447695857028932199121388952584979792847337302720422849949649979699684490088694074681098247944705421258452969278314194787759841914864337429926664302438794824841872786207796447997808866555933076393890493129722080757600042489218407998913207993281247231509412785492270747460158494912573934612834228399460520972944940755941115409371292440912825111601389887338833422361937330188439099116690999307324254628368362739419836885367962903821673012861870225228413813822141355225264748448646472471817178562386718539909120
theorem f_ca04f (w : World) (t1 : Nat) (its c : Array Value) (x0 x1 x2 x3 x4 x5 : Nat × Obj) (ob ob1 ob2 T1 T2 T3 pi ow en : Obj) (B T tw0 tb0 tw1 tb1 jt : Nat) (es : List DictEntry) (n : Nat) (sl : Array (Option Value)) : FinE w (fun P => dOut P (t1 + 1998) its c [x0, x1, x2, x3, x4, x5] (dl ob (nO []) T1 T2 T3 (frO es n sl) (jrO P (t1 + 1998) jt) pi ow en) (B + 1488) (T + 1998) [aTk 0 tw0 ob1 ((B + 1488) + 2) (tb0 + 1998) (or1 0), aTk 4 tw1 ob2 ((B + 1488) + 6) (tb1 + 1998) fo_ca04f]) [nat_lit 11, nat_lit 7, nat_lit 21] (fun P => some (.ok (.ret (.bool true)), dl ob2 (tab_ca ((B + 1488) + 13)) T1 T2 T3 (frO es n (mkN 1 sl)) (jrO P (t1 + 1998) ((tb1 + 1998) + 52)) pi ow en, nat_lit 41, [(nat_lit 4, (B + 1488) + 6), (nat_lit 1, (B + 1488) + 2), (nat_lit 0, (B + 1488))], ((tb1 + 1998)), nat_lit 65)) [some (cd0 ((B + 1488) + 8) (tb1 + 1998)), some (cd1 ((B + 1488) + 8)), some (cd2 ((B + 1488) + 8) (tb1 + 1998))] := by kernel_rfl
noncomputable def fo_ca04c : Nat := nat_lit 4954317538809474534883282111928303472449474074298769069001007117785362233614612198664885746999564032866585610180833904492581498342535910489795489285318476643253364064928386566429818413039123226893223636571967356368673771323504682073235589358079464527288211406847123157673131307864686391844866290847246964788928614199577477219273879658738164294645510381867909285774117250083096542941592953894057971126409072635147586449219808824947376854256388350258484191261094084006688158929239478434981160807644293782777981146874482067932690890346086579135816448202866568275881139162777163886623529204931123526131689874873025155355444576855010113419114574644867082000783665975274656578481126598682841428075897618997543421994419918289448887189220547528534707403422349088671203622579705592593396559368421442947330190752574856281865033999389073807195516041509504719902195631660324480518728685576084362279211548642177921984222514237120677001684531581739674854844753538522035615622546867964683415943958029581379857208886893007716790130531019828538070085130037195383456750471569578367083089053700531037902290442184458348168714063156011689016158910718734289077431778688841205255564950090010859895019390689664510732122298458850192616637166769852544613238571823640846239933945969512677590097680039432241659186350640627024088384676156531955696803949548556358937969937816738754086941391488977246337396464682864372299079377024229079181148391969323303078163899397517292730894720381629718363079794703777450493394870241173766778122019553417473168000155981019059960873271306511287264971521446812600769786788250251626622211497308817143453013723654021593087473144006534568705530066798748684258937002192792477154811355118589985619745759986832106860336565696281985969207748371558841872166212439385912885453254611088606890944978743370420112691763805281354970844775593595590722271624561507535435904247075643809266451603404373347797504270118902894604683529209340253453443964084184283222745548800
theorem f_ca04c (w : World) (t1 : Nat) (its c : Array Value) (x3 x4 x5 : Nat × Obj) (ob ob1 ob2 T1 T2 T3 pi ow en : Obj) (B T tw0 tb0 tw1 tb1 cb ct jt : Nat) (es : List DictEntry) (n : Nat) (sl : Array (Option Value)) : FinE w (fun P => dOut P (t1 + 1998) its c [(cb + 5, cd0 cb ct), (cb + 1, cd1 cb), (cb + 15, cd2 cb ct), x3, x4, x5] (dl ob (tab_ca (cb + 5)) T1 T2 T3 (frO es n sl) (jrO P (t1 + 1998) jt) pi ow en) (B + 1488) (T + 1998) [aTk 0 tw0 ob1 ((B + 1488) + 2) (tb0 + 1998) (or1 0), aTk 4 tw1 ob2 ((B + 1488) + 6) (tb1 + 1998) fo_ca04c]) [] (fun P => some (.ok (.ret (.bool true)), dl ob2 (tab_ca (cb + 5)) T1 T2 T3 (frO es n (mkN 1 sl)) (jrO P (t1 + 1998) ((tb1 + 1998) + 39)) pi ow en, nat_lit 29, [(nat_lit 4, (B + 1488) + 6), (nat_lit 1, (B + 1488) + 2), (nat_lit 0, (B + 1488))], ((tb1 + 1998)), nat_lit 52)) [] := by kernel_rfl
end M9
end
section
open PySem PySem.W PySem.Calls PyProof.Rows PySem.Spec
namespace M9
noncomputable def fo_ca10f : Nat := nat_lit 48583983755377105880702444808110406687421531292887129354486095974383444582256141295396119378558577437192622886723906627481492340497430243073809490145782218232789539147676095668262525948550107340283728169614963154898350711706050403187398931022084614324619105594425576873452837065397914696245327338304069201667186920587946873680212451389739285631615786404639365002176123981733723855465978983726817560982025895380547224147560343230694545100737435603681996651472491446201574797937132138215795921211712434389520759730219088281287780386694194348328997018599059995672655835008849000523595445929972603153141384727428663108523108563657304090767054187456687556213396055755580015439562998161882266805612084187471404051858643530321474695401497029165195372017375264519725692947979244151597787378340215496500269953471221352884151619252244426423503434878355192280462666765633222916503256531528627184754429848328405866494569798894499178184019668876579304390736346022519608950567019191448354431095684905632286919598318531108044903765760833477160359223294343093573013289098508131218068621598124618657696183627873720870727067491503452926772433681530677424034169769915900818813174888060423059743776840524844384483263941701072526578616374494965828269037043440448607139439769700388238313241768440458443010660495275131273379227216274458170196337557231166356384306794358987138656436819626821632
theorem f_ca10f (w : World) (t1 : Nat) (its c : Array Value) (x0 x1 x2 x3 x4 x5 : Nat × Obj) (ob ob1 ob2 T1 T2 T3 pi ow en : Obj) (B T tw0 tb0 tw1 tb1 jt : Nat) (es : List DictEntry) (n : Nat) (sl : Array (Option Value)) : FinE w (fun P => dOut P (t1 + 1998) its c [x0, x1, x2, x3, x4, x5] (dl ob (nO []) T1 T2 T3 (frO es n sl) (jrO P (t1 + 1998) jt) pi ow en) (B + 1488) (T + 1998) [aTk 1 tw0 ob1 ((B + 1488) + 2) (tb0 + 1998) (or1 1), aTk 0 tw1 ob2 ((B + 1488) + 6) (tb1 + 1998) fo_ca10f]) [nat_lit 11, nat_lit 7, nat_lit 21] (fun P => some (.ok (.ret (.bool true)), dl ob2 (tab_ca ((B + 1488) + 13)) T1 T2 T3 (frO es n (mkN 0 sl)) (jrO P (t1 + 1998) ((tb1 + 1998) + 47)) pi ow en, nat_lit 31, [(nat_lit 4, (B + 1488) + 6), (nat_lit 1, (B + 1488) + 2), (nat_lit 0, (B + 1488))], ((tb1 + 1998)), nat_lit 60)) [some (cd0 ((B + 1488) + 8) (tb1 + 1998)), some (cd1 ((B + 1488) + 8)), some (cd2 ((B + 1488) + 8) (tb1 + 1998))] := by kernel_rfl
noncomputable def fo_ca10c : Nat := nat_lit 42139405879045242223183958459048851583989210656995534147077863073069483259157211164948034354484714932735149759096771443512376659881261567127079743198480594064136988267410338198979276258126041881315626100090721323263726646534829615508118629857644537041470226957415396247778035627192626424928788329705435225815793586914816874012820403661804985544887089372115648807487586703852161192580895089753461882946381188488264712169773239122284053778063748484645521620640590496619769330144701568302561281219451449702153133596386198525814887395016162290927174202594642973243352536127762655672754773725149322905919128625671358073407731993262037543872014621197483784390963155546678752806561860748367971880357275451608409984819113923206969857388347493081584997221124434211877560198127862561255084947111885424529665216382151707369420705830395184746370039789791351538917659610049200146975845792061553009371468156789663289769923787172423747633285779610447659628070685050960439498729341457327417104006648294249897231432116855819779574363415544897406140244043646500763882930118014150764393912463127062271879257842325104811030731726998774341032376679052096213734079008549607449822838267599621564691233777220123599529158186661004561322786968369545535710749666712417233077240717313505746807954674278804275372948795594056577530546941836988600472793928606917861028130056675788800
theorem f_ca10c (w : World) (t1 : Nat) (its c : Array Value) (x3 x4 x5 : Nat × Obj) (ob ob1 ob2 T1 T2 T3 pi ow en : Obj) (B T tw0 tb0 tw1 tb1 cb ct jt : Nat) (es : List DictEntry) (n : Nat) (sl : Array (Option Value)) : FinE w (fun P => dOut P (t1 + 1998) its c [(cb + 5, cd0 cb ct), (cb + 1, cd1 cb), (cb + 15, cd2 cb ct), x3, x4, x5] (dl ob (tab_ca (cb + 5)) T1 T2 T3 (frO es n sl) (jrO P (t1 + 1998) jt) pi ow en) (B + 1488) (T + 1998) [aTk 1 tw0 ob1 ((B + 1488) + 2) (tb0 + 1998) (or1 1), aTk 0 tw1 ob2 ((B + 1488) + 6) (tb1 + 1998) fo_ca10c]) [] (fun P => some (.ok (.ret (.bool true)), dl ob2 (tab_ca (cb + 5)) T1 T2 T3 (frO es n (mkN 0 sl)) (jrO P (t1 + 1998) ((tb1 + 1998) + 34)) pi ow en, nat_lit 19, [(nat_lit 4, (B + 1488) + 6), (nat_lit 1, (B + 1488) + 2), (nat_lit 0, (B + 1488))], ((tb1 + 1998)), nat_lit 47)) [] := by kernel_rfl
noncomputable def fo_ca11f : Nat := nat_lit 3471278542324228524082940313464117767274693079341674978637602986076062305570313917322536069699069109077191412807192331200145476421695648495075238907715988808818769633939321266395826540172798747369572323711318765712440527310585789181795459419264850453488949433065872131356119671120237321127154605008176504602285075828198746499620997933246332515595997213736108513141746508382983968207556868307012557733804711423844123558251629764057996639748416078255285724215730742988456944408062052561931911877534486682780675260049915982779123149216288499978240973990336383930027203178759716883800448383797649925347563143229736936464524961877697940325388640276737364744441069077585620349178453200153238192035046480537812693671018559251327457773903914021779309974211580799288480702745664768950664441275492469882184335610572780734184357953817989738758002060261951252428535839048428442529726645744866690899767770644232135076174270819305165028512757532966797754822629862241424647756628441488048190430457411598493964515935062112833707512363699622142517723779977962015054181988262662680551582878521017292191637271108330572442896725370889084027299856644492027828303226606616836663617377364264462404203412336241653700409967420030917971324579134192111043776568490297326118275119912679209916122758503220734332360044333239448126212740898405346996123371255025670322419433521800762886694460640012212668605665164674184950920834077282999612220785482945222704145694844528934414761401334800750692457892694139287727903016683342687487380385582576226498127042786458806620087875681644514432444460378229418191195506694702871185892222264663037634137974316665701027336681912341419626246274486496187481875759277201537701368623792878818743375670982810017666245730831251011439266311862186102848576601179496212054618743675351276588281581908068353867204525738225679060854347828769715769322653994569050581797733909145224340507781075672526587983242868369131520
theorem f_ca11f (w : World) (t1 : Nat) (its c : Array Value) (x0 x1 x2 x3 x4 x5 : Nat × Obj) (ob ob1 ob2 T1 T2 T3 pi ow en : Obj) (B T tw0 tb0 tw1 tb1 jt : Nat) (es : List DictEntry) (n : Nat) (sl : Array (Option Value)) : FinE w (fun P => dOut P (t1 + 1998) its c [x0, x1, x2, x3, x4, x5] (dl ob (nO []) T1 T2 T3 (frO es n sl) (jrO P (t1 + 1998) jt) pi ow en) (B + 1488) (T + 1998) [aTk 1 tw0 ob1 ((B + 1488) + 2) (tb0 + 1998) (or1 1), aTk 1 tw1 ob2 ((B + 1488) + 6) (tb1 + 1998) fo_ca11f]) [nat_lit 11, nat_lit 7, nat_lit 21] (fun P => some (.ok (.ret (.bool true)), dl ob2 (tab_ca ((B + 1488) + 13)) T1 T2 T3 (frO es n (mkN 1 sl)) (jrO P (t1 + 1998) ((tb1 + 1998) + 52)) pi ow en, nat_lit 41, [(nat_lit 4, (B + 1488) + 6), (nat_lit 1, (B + 1488) + 2), (nat_lit 0, (B + 1488))], ((tb1 + 1998)), nat_lit 65)) [some (cd0 ((B + 1488) + 8) (tb1 + 1998)), some (cd1 ((B + 1488) + 8)), some (cd2 ((B + 1488) + 8) (tb1 + 1998))] := by kernel_rfl
noncomputable def fo_ca11c : Nat := nat_lit 3010819700721364246682158467922650189968360750974942676103748700726124767808820346512352843161107254377989302677050917008648839628854517940484805918513522139918227381543846090481948814996158207759529034804645571157856977673208229362148451145455943685919449585986088137676290488310291162880668988545968144612075053840113386364894719386340364521623664220332698086620946231266710678724554272234263329578829785108049985387045839048216052543033751837493971733145337046162714460844215180226563164909917671076004448545769630374010241521528721207546190943742005558572213487035595240006976824620624253694958752094056289565252360379632950253545724107884708887982380683653653536134496817161524771324681508237073106082167393924600027502706422669419394179715450693885725277139007297481942699316732593547948938252032782898491460687929242515451150488678026697358990951687534598873703551547489297239085615273738419452514501240805266706615951290325718046111458745047620960751355364597789419958291293351120060831464007982653848508012314009582135197420085620839384400466237535908490575079714210141725070941716771371012382802013326549619507676514011763398495816736278375919276605868873530522632019295276713589682685030254754099889424076341703339575687863246863610091435246538618035901240838827828689778327747257055159786536101488713625841549799000049501184728953520134703352770890691060771667593894534453506528560117321215582328310191458512033076084563652553940160128678569497537339765453479920664061628083937343447986088670338962260865026296955478685312514883590639048706773566827332694148982336668972919935574153900205319622104668124999725219161151109457617512990762469177417086738070437228863448628195884403517450551477761308937461068078379281478460988335717704029484974616301468419392524638152098086911940229446590346213978639759299851617435449658186436694232549328323951404624754513343091374374951826898290688
theorem f_ca11c (w : World) (t1 : Nat) (its c : Array Value) (x3 x4 x5 : Nat × Obj) (ob ob1 ob2 T1 T2 T3 pi ow en : Obj) (B T tw0 tb0 tw1 tb1 cb ct jt : Nat) (es : List DictEntry) (n : Nat) (sl : Array (Option Value)) : FinE w (fun P => dOut P (t1 + 1998) its c [(cb + 5, cd0 cb ct), (cb + 1, cd1 cb), (cb + 15, cd2 cb ct), x3, x4, x5] (dl ob (tab_ca (cb + 5)) T1 T2 T3 (frO es n sl) (jrO P (t1 + 1998) jt) pi ow en) (B + 1488) (T + 1998) [aTk 1 tw0 ob1 ((B + 1488) + 2) (tb0 + 1998) (or1 1), aTk 1 tw1 ob2 ((B + 1488) + 6) (tb1 + 1998) fo_ca11c]) [] (fun P => some (.ok (.ret (.bool true)), dl ob2 (tab_ca (cb + 5)) T1 T2 T3 (frO es n (mkN 1 sl)) (jrO P (t1 + 1998) ((tb1 + 1998) + 39)) pi ow en, nat_lit 29, [(nat_lit 4, (B + 1488) + 6), (nat_lit 1, (B + 1488) + 2), (nat_lit 0, (B + 1488))], ((tb1 + 1998)), nat_lit 52)) [] := by kernel_rfl
noncomputable def fo_ca12f : Nat := nat_lit 4098162360244133982093875054913492591302300751617550850843296396516145954443431077633065568989093316185340669583294155715551148149178335530632015461430511565598598854161255865186125935525400502370566238308121362247776618146984592968309650771602503836176286576156357382511961775936880448592180381302335397027978373436503239381853803923155181909326290295226548649290721894438617557181606882762109396877314872696405116438003115238400626513270013553545197817166025033660259361317061931619682784143163711281219678752405103365111207826918214174174045376849044395325811476908590528773566744605103705436923994410179885045359011295770175065321638055405401621183042330948064464846971817478198483047128495896105166248388449034684646915032789869960976773879148773439542022635314044124937028148003104051621374213982175660177148333408249039411036736223106080744750102290605444603014441992433924345455633712880436166855066984507083637098615718315389167603936397741734487719733614599557101390751625462251873998426641577386619401315916037951360943480415557907854117072934739236769114036110932007246792040147367123515792889008497577933833686419249141966830384818502740214907210022716805605136295534785424411106114939416188471253051333293758660393236976512731438842180062381700643308403917585412804276591954872176738928587665033616092868061969023121735525285160390229043714859062915646436160520641435233165903812239088451342794854427535200932901202500484642557642912967603636698835607160183221948542994686378278100729575637353985621734595398772526039037714959943805637909528095113250037971011951477697396364689073316403803031232496467501675884142846940132396487079080112369262269824831539515776728021841565236194910896748046690279104305067855199968470384071583691463533858486995489525364361353226516649505469152466098953022579742217731578452747405531382711722109589304518137237022101028048538059984023520386098959884999970302152132710085612825133189120
theorem f_ca12f (w : World) (t1 : Nat) (its c : Array Value) (x0 x1 x2 x3 x4 x5 : Nat × Obj) (ob ob1 ob2 T1 T2 T3 pi ow en : Obj) (B T tw0 tb0 tw1 tb1 jt : Nat) (es : List DictEntry) (n : Nat) (sl : Array (Option Value)) : FinE w (fun P => dOut P (t1 + 1998) its c [x0, x1, x2, x3, x4, x5] (dl ob (nO []) T1 T2 T3 (frO es n sl) (jrO P (t1 + 1998) jt) pi ow en) (B + 1488) (T + 1998) [aTk 1 tw0 ob1 ((B + 1488) + 2) (tb0 + 1998) (or1 1), aTk 2 tw1 ob2 ((B + 1488) + 6) (tb1 + 1998) fo_ca12f]) [nat_lit 11, nat_lit 7, nat_lit 21] (fun P => some (.ok (.ret (.bool true)), dl ob2 (tab_ca ((B + 1488) + 13)) T1 T2 T3 (frO es n (mkN 1 sl)) (jrO P (t1 + 1998) ((tb1 + 1998) + 52)) pi ow en, nat_lit 41, [(nat_lit 4, (B + 1488) + 6), (nat_lit 1, (B + 1488) + 2), (nat_lit 0, (B + 1488))], ((tb1 + 1998)), nat_lit 65)) [some (cd0 ((B + 1488) + 8) (tb1 + 1998)), some (cd1 ((B + 1488) + 8)), some (cd2 ((B + 1488) + 8) (tb1 + 1998))] := by kernel_rfl
noncomputable def fo_ca12c : Nat := nat_lit 3554548510162546670469740607997238796386162134135527049066037070690423829134986788973840851713572392958770247676265304903119017823888935067639236453162945388180940413918137554157831055890625134654840766164131306597776857915980818398610835009195560169387696350744289483472834966860694717115555613902783044465451432881557028330479142963980420949233980108518560395820469900742679282447151816181312107596000523304453758580111292662558409150949766922924485609479712581639222116295307667611777637443798818624312829801879870563671522609757930232784958325371190719840700089253582190232012213508021944039397074864538390918302438024602434253401745610341787264024858292853540758620257386652750152038968039264669293937244326346950815287735751527699931632551644207959035608933931205821504301422329706094706249836633359898572645254660685826016907905378855788102651280261679641744158208792021699172220547446660072481909572566105247628913219569479373952777142133142332607214370633393575930754470631965102005571315789925712978373572382988886678190822549542572169355255958170139850269446173993963731336486165891533243658135062591085611774085235313783142677522829252652341779981812253050170683715743946141469408018147575488707576373227287626601425769042786489527334541741437728439844245857230703643679097891319622265344741690943160129186225322572050534088304054017242222063154267888888930013188392351262833149290673160809839616600850482280806829618815308643724626458963613546026391105063032342987570454788450734668609046531560436015019154531193493795179614896741350513801240313816028006609554563487967544178982481961215311372175202790403286219573595669593035958337565360593016439687465685241598510303731843233557715148402991060086621406720141493568338189289670137229379588812769507827287040426220335645682015752664690422720881142811018684160613810527228785909134969360947150738718194524757919078659236400708682328597760993544846182400
theorem f_ca12c (w : World) (t1 : Nat) (its c : Array Value) (x3 x4 x5 : Nat × Obj) (ob ob1 ob2 T1 T2 T3 pi ow en : Obj) (B T tw0 tb0 tw1 tb1 cb ct jt : Nat) (es : List DictEntry) (n : Nat) (sl : Array (Option Value)) : FinE w (fun P => dOut P (t1 + 1998) its c [(cb + 5, cd0 cb ct), (cb + 1, cd1 cb), (cb + 15, cd2 cb ct), x3, x4, x5] (dl ob (tab_ca (cb + 5)) T1 T2 T3 (frO es n sl) (jrO P (t1 + 1998) jt) pi ow en) (B + 1488) (T + 1998) [aTk 1 tw0 ob1 ((B + 1488) + 2) (tb0 + 1998) (or1 1), aTk 2 tw1 ob2 ((B + 1488) + 6) (tb1 + 1998) fo_ca12c]) [] (fun P => some (.ok (.ret (.bool true)), dl ob2 (tab_ca (cb + 5)) T1 T2 T3 (frO es n (mkN 1 sl)) (jrO P (t1 + 1998) ((tb1 + 1998) + 39)) pi ow en, nat_lit 29, [(nat_lit 4, (B + 1488) + 6), (nat_lit 1, (B + 1488) + 2), (nat_lit 0, (B + 1488))], ((tb1 + 1998)), nat_lit 52)) [] := by kernel_rfl
noncomputable def fo_ca13f : Nat := nat_lit 4838256142843713733923179342101967558096069449569732887257467691161248585910227096139453059538411319899973264524565205990218639647298261285735412603905483455616544635321980676514690128013373916929480621968556273790647758293636000554424000067765594720400402431399162048154937550896439240630997371557207470825714846050832057346030137438252646816240668137988099423980415519306824852670540484550867137055621147892326790464342632851709936441599501226278217662078297439224949410129006320814666253854621864618718507576166182282984520600659778650734551847493815664293036707801392232727619933728499796015971603994710650381075439181508954130086656897163604449707108728769286743721662186013077535438185489284834043027995533489089342383563890635245396824948628571670130373664557702922981522952827455003546764669040771892712864229031939922335436630329988463341067789915510028404735978862390488451314858018673624014258856113687692974442975559213835049226607548444312822496933862787406791477039179005211004422238399319283033186806808589780189817305148724938929278312916409927224023304798938991554018476134730769514470416919214974566175293614044907839796407569366631086036268629949391075648632701788369794515821061652018752442961765579712958919963159161387581128584235759955957292666712112500831781833522243634179423882252786296180477581144693198881610622240715361880790625970942835722472357893414082015017969338278989497763872281300482497937747599395111292288030480439877752788456965231537511270043967197738203404774198532768943620512196254856883399137697963447197686219402393756136630680494713521830278369692942709116274569660642792847443612337688550465253006182509952091256386532866883986227285835375254985558375451513117418707425690383238847206437441660991154424237467641783219330964220889683343055037448299809441914389474915531622716665648601057656626369569460302082070446142980733987132188448403846402353934682531630542143865695739286409152178308958700876146411520
theorem f_ca13f (w : World) (t1 : Nat) (its c : Array Value) (x0 x1 x2 x3 x4 x5 : Nat × Obj) (ob ob1 ob2 T1 T2 T3 pi ow en : Obj) (B T tw0 tb0 tw1 tb1 jt : Nat) (es : List DictEntry) (n : Nat) (sl : Array (Option Value)) : FinE w (fun P => dOut P (t1 + 1998) its c [x0, x1, x2, x3, x4, x5] (dl ob (nO []) T1 T2 T3 (frO es n sl) (jrO P (t1 + 1998) jt) pi ow en) (B + 1488) (T + 1998) [aTk 1 tw0 ob1 ((B + 1488) + 2) (tb0 + 1998) (or1 1), aTk 3 tw1 ob2 ((B + 1488) + 6) (tb1 + 1998) fo_ca13f]) [nat_lit 11, nat_lit 7, nat_lit 21] (fun P => some (.ok (.ret (.bool true)), dl ob2 (tab_ca ((B + 1488) + 13)) T1 T2 T3 (frO es n (mkN 1 sl)) (jrO P (t1 + 1998) ((tb1 + 1998) + 52)) pi ow en, nat_lit 41, [(nat_lit 4, (B + 1488) + 6), (nat_lit 1, (B + 1488) + 2), (nat_lit 0, (B + 1488))], ((tb1 + 1998)), nat_lit 65)) [some (cd0 ((B + 1488) + 8) (tb1 + 1998)), some (cd1 ((B + 1488) + 8)), some (cd2 ((B + 1488) + 8) (tb1 + 1998))] := by kernel_rfl
noncomputable def fo_ca13c : Nat := nat_lit 4196470186531460716775027142344173126086870622630096695897854176002136043659397038727944847465394776318717119953216491615737729449189025361577385510620812212140550226517587750769761193754161751948752275341116320436635982183678683712951946432290297781148403535467963193527701398181769359265066235346097436258614064055521509641696175413555122054287226265836073835988889779544206234838339929704238918454007696053393542647921674673731306378370208135507496112139346237202964734519441972805120035699868272387389998777579075448143960551087595482320068524232585527373719162941552520891005598178535347926103426916694510488446890257942774549045628144112464892311390925585838853983386685251841224135514983109646988558791870106915294615826763531807853443982668019497960543638806546343144581847299227681204853261202608445747674358718953446956177065822729270746366978274252065310010753580696009966796164791092980492376485348655770816464859117988351854313261583716562048399059010339739622216090429032886752088437898586245788698059602129646216253296064308474798305837486821080448675723729727525713668352096882103089349202744341760344092196910697736974805129935031657900948383632830230107046726175961014592405774620516460269428621017982914286913423748467985382717280902145236423583270651993105475713440472761925679480527368967064278742537566035133631697908554590388910207279687592145459914557637279097914926796333138444145114368128587194671870383775911207203966995098501723789769582728342510484992830978327213102988008116756298138313740484306525134050587928438737235066794279099093866006193268765305811128426670609093936395842061575836661478136355059454892658630919044633740589243081113600224814491873511645765915399986205694934091755639417378732510800711602106898515730856784293599192695463776468289088341673298322613693322850396896164136574699504979668264048614434811852476389710184573790020041906012965710393413709517968167685724053451601163573004288
theorem f_ca13c (w : World) (t1 : Nat) (its c : Array Value) (x3 x4 x5 : Nat × Obj) (ob ob1 ob2 T1 T2 T3 pi ow en : Obj) (B T tw0 tb0 tw1 tb1 cb ct jt : Nat) (es : List DictEntry) (n : Nat) (sl : Array (Option Value)) : FinE w (fun P => dOut P (t1 + 1998) its c [(cb + 5, cd0 cb ct), (cb + 1, cd1 cb), (cb + 15, cd2 cb ct), x3, x4, x5] (dl ob (tab_ca (cb + 5)) T1 T2 T3 (frO es n sl) (jrO P (t1 + 1998) jt) pi ow en) (B + 1488) (T + 1998) [aTk 1 tw0 ob1 ((B + 1488) + 2) (tb0 + 1998) (or1 1), aTk 3 tw1 ob2 ((B + 1488) + 6) (tb1 + 1998) fo_ca13c]) [] (fun P => some (.ok (.ret (.bool true)), dl ob2 (tab_ca (cb + 5)) T1 T2 T3 (frO es n (mkN 1 sl)) (jrO P (t1 + 1998) ((tb1 + 1998) + 39)) pi ow en, nat_lit 29, [(nat_lit 4, (B + 1488) + 6), (nat_lit 1, (B + 1488) + 2), (nat_lit 0, (B + 1488))], ((tb1 + 1998)), nat_lit 52)) [] := by kernel_rfl
noncomputable def fo_ca14f : Nat := nat_lit 5712004661125831049685298654821254101503566092868702879961619445232616886256023414176305495967657050300964015125420924717710820104886737207048298805775058134204286495570595992258859653527540046665709111348471915588397253962595152052269818061105611961140645543147505153592266549254424142813851518702623264297342749158355249833458426664421748595782298725762613869797366269151445841010298161739867886922333890543151379303009928889996187190796221435108311742104501868491296994111367151695603356623068001050356185852235945960619844173654909726705888876693607515429657031912713672515919689602537336173259688378237117166006385705268152964181209137328589611330057574384937802053628524031046472373802237838103370932266533562430682323459386470597476859652523732250265792457345609841673294266275880661211247081335150866783713357541726141598364935283791317017257225002925303755640124320924412919835754732518082760954976664889199511396813429124636899725384220763813984946391166954572856050649483651485812738928570577826774864724727185406709708553878885158080248907739404451968829812077081654822354254883059569939947321131905845269705834115536640880768579727273423219276265985181617961257667471795365043027368485970349750434180648709300939176528641142510524135110347784592015986535574695047495014579309331921792653478479076743925190086519231957692612859660806977911090895177533294120152152147036179613705475803057367110331576338313148405157443138132176825411033237468276078871047346447695857028932199121388952584979792847337302720422849949649979699684490088694074681098247944705421258452969278314194787759841914864337429926664302438794824841872786207796447997808866555933076393890493129722080757600042489218407998913207993281247231509412785492270747460158494912573934612834228399460520972944940755941115409371292440912825111601389887338833422361937330188439099116690999307324254628368362739419836885367962903821673012861870225228413813822141355225264748448646472471817178562386718539909120
theorem f_ca14f (w : World) (t1 : Nat) (its c : Array Value) (x0 x1 x2 x3 x4 x5 : Nat × Obj) (ob ob1 ob2 T1 T2 T3 pi ow en : Obj) (B T tw0 tb0 tw1 tb1 jt : Nat) (es : List DictEntry) (n : Nat) (sl : Array (Option Value)) : FinE w (fun P => dOut P (t1 + 1998) its c [x0, x1, x2, x3, x4, x5] (dl ob (nO []) T1 T2 T3 (frO es n sl) (jrO P (t1 + 1998) jt) pi ow en) (B + 1488) (T + 1998) [aTk 1 tw0 ob1 ((B + 1488) + 2) (tb0 + 1998) (or1 1), aTk 4 tw1 ob2 ((B + 1488) + 6) (tb1 + 1998) fo_ca14f]) [nat_lit 11, nat_lit 7, nat_lit 21] (fun P => some (.ok (.ret (.bool true)), dl ob2 (tab_ca ((B + 1488) + 13)) T1 T2 T3 (frO es n (mkN 1 sl)) (jrO P (t1 + 1998) ((tb1 + 1998) + 52)) pi ow en, nat_lit 41, [(nat_lit 4, (B + 1488) + 6), (nat_lit 1, (B + 1488) + 2), (nat_lit 0, (B + 1488))], ((tb1 + 1998)), nat_lit 65)) [some (cd0 ((B + 1488) + 8) (tb1 + 1998)), some (cd1 ((B + 1488) + 8)), some (cd2 ((B + 1488) + 8) (tb1 + 1998))] := by kernel_rfl
noncomputable def fo_ca14c : Nat := nat_lit 4954317538809474534883282111928303472449474074298769069001007117785362233614612198664885746999564032866585610180833904492581498342535910489795489285318476643253364064928386566429818413039123226893223636571967356368673771323504682073235589358079464527288211406847123157673131307864686391844866290847246964788928614199577477219273879658738164294645510381867909285774117250083096542941592953894057971126409072635147586449219808824947376854256388350258484191261094084006688158929239478434981160807644293782777981146874482067932690890346086579135816448202866568275881139162777163886623529204931123526131689874873025155355444576855010113419114574644867082000783665975274656578481126598682841428075897618997543421994419918289448887189220547528534707403422349088671203622579705592593396559368421442947330190752574856281865033999389073807195516041509504719902195631660324480518728685576084362279211548642177921984222514237120677001684531581739674854844753538522035615622546867964683415943958029581379857208886893007716790130531019828538070085130037195383456750471569578367083089053700531037902290442184458348168714063156011689016158910718734289077431778688841205255564950090010859895019390689664510732122298458850192616637166769852544613238571823640846239933945969512677590097680039432241659186350640627024088384676156531955696803949548556358937969937816738754086941391488977246337396464682864372299079377024229079181148391969323303078163899397517292730894720381629718363079794703777450493394870241173766778122019553417473168000155981019059960873271306511287264971521446812600769786788250251626622211497308817143453013723654021593087473144006534568705530066798748684258937002192792477154811355118589985619745759986832106860336565696281985969207748371558841872166212439385912885453254611088606890944978743370420112691763805281354970844775593595590722271624561507535435904247075643809266451603404373347797504270118902894604683529209340253453443964084184283222745548800
theorem f_ca14c (w : World) (t1 : Nat) (its c : Array Value) (x3 x4 x5 : Nat × Obj) (ob ob1 ob2 T1 T2 T3 pi ow en : Obj) (B T tw0 tb0 tw1 tb1 cb ct jt : Nat) (es : List DictEntry) (n : Nat) (sl : Array (Option Value)) : FinE w (fun P => dOut P (t1 + 1998) its c [(cb + 5, cd0 cb ct), (cb + 1, cd1 cb), (cb + 15, cd2 cb ct), x3, x4, x5] (dl ob (tab_ca (cb + 5)) T1 T2 T3 (frO es n sl) (jrO P (t1 + 1998) jt) pi ow en) (B + 1488) (T + 1998) [aTk 1 tw0 ob1 ((B + 1488) + 2) (tb0 + 1998) (or1 1), aTk 4 tw1 ob2 ((B + 1488) + 6) (tb1 + 1998) fo_ca14c]) [] (fun P => some (.ok (.ret (.bool true)), dl ob2 (tab_ca (cb + 5)) T1 T2 T3 (frO es n (mkN 1 sl)) (jrO P (t1 + 1998) ((tb1 + 1998) + 39)) pi ow en, nat_lit 29, [(nat_lit 4, (B + 1488) + 6), (nat_lit 1, (B + 1488) + 2), (nat_lit 0, (B + 1488))], ((tb1 + 1998)), nat_lit 52)) [] := by kernel_rfl
end M9
end
section
open PySem PySem.W PySem.Calls PyProof.Rows PySem.Spec
namespace M9
noncomputable def fo_wr0f : Nat := nat_lit 1207646462035547572676483503124967423274753808345655260354554490245596564728132448515887056175173721506556372086007687817935097048455367989749348795730648682214018859272278798577332240644812540753404841208979503832118466347299272369017892979800426793087183764179728901239484193022051179762579197640370791587196059191414777195561037988411351685338153986382955498624401235172091754440499257490152820824400894539845799890546540349007582340057565533849247750920401970757011808909828624070238822269248961714793173049921031265533192574902552614852661184867378092803841786702389523086259534365212061873256979992959289029007388702715833604329567901762551199958016317962595307271752266180209081252204142586534340262926677040107288781874342807414982957801184261666952234673588879258813676509870962990217168728747758775521526916225596560152715254618252469806596888057677455849078322547884248070415871849275400
theorem f_wr0f (w : World) (t1 : Nat) (its c : Array Value) (x0 x1 x2 x3 x4 x5 : Nat × Obj) (ob ob1 ob2 T0 T2 T3 jr pi ow en : Obj) (B T tw0 tb0 tw1 tb1 : Nat) (es : List DictEntry) (n : Nat) (sl : Array (Option Value)) : FinE w (fun P => dOut P (t1 + 1998) its c [x0, x1, x2, x3, x4, x5] (dl ob T0 (nO []) T2 T3 (frO es n sl) jr pi ow en) (B + 1488) (T + 1998) [aTk 2 tw0 ob1 ((B + 1488) + 2) (tb0 + 1998) (or1 2), aTk 0 tw1 ob2 ((B + 1488) + 10) (tb1 + 1998) fo_wr0f]) [nat_lit 14] (fun P => some (.ok (.ret (.bool true)), dl ob2 T0 (tab_wr ((B + 1488) + 16)) T2 T3 (frO es n (mkN 1 sl)) jr pi ow en, nat_lit 30, [(nat_lit 8, (B + 1488) + 10), (nat_lit 1, (B + 1488) + 2), (nat_lit 0, (B + 1488))], ((tb1 + 1998)), nat_lit 29)) [some (cd3 ((B + 1488) + 11) (tb1 + 1998))] := by kernel_rfl
noncomputable def fo_wr0c : Nat := nat_lit 1118299817271844028688709351476822988553296023049282877869302248467272761253610077167807835198682768405958899344598658950199590004992446518052376415324884561099395412241843998451784265461801789039700474059013419010108650153110643867901194807235512915747028697328224205307900988606138435429730763582295429308331951370465536851635866368655314398780256747958672797884037166266534859245034159492676485181488666901755380997808739579019557692181823905517122056119360328808289380958725164871506316575755980192995986602619900891881890726030195693222877833995411454535144948360174595768376048867093557387918534066588352881543959091487499713756148677991349130641348625666168649947327424741978558252865887991557488926867281313896559994386628045150167786683091095837125780334075323299518048707962148076757555995625898089786144517660965331140956668541750976662873853650726937467792881517921262205149192
theorem f_wr0c (w : World) (t1 : Nat) (its c : Array Value) (x0 x1 x2 x4 x5 : Nat × Obj) (ob ob1 ob2 T0 T2 T3 jr pi ow en : Obj) (B T tw0 tb0 tw1 tb1 cb ct : Nat) (es : List DictEntry) (n : Nat) (sl : Array (Option Value)) : FinE w (fun P => dOut P (t1 + 1998) its c [x0, x1, x2, (cb + 5, cd3 cb ct), x4, x5] (dl ob T0 (tab_wr (cb + 5)) T2 T3 (frO es n sl) jr pi ow en) (B + 1488) (T + 1998) [aTk 2 tw0 ob1 ((B + 1488) + 2) (tb0 + 1998) (or1 2), aTk 0 tw1 ob2 ((B + 1488) + 10) (tb1 + 1998) fo_wr0c]) [] (fun P => some (.ok (.ret (.bool true)), dl ob2 T0 (tab_wr (cb + 5)) T2 T3 (frO es n (mkN 1 sl)) jr pi ow en, nat_lit 24, [(nat_lit 8, (B + 1488) + 10), (nat_lit 1, (B + 1488) + 2), (nat_lit 0, (B + 1488))], ((tb1 + 1998)), nat_lit 22)) [] := by kernel_rfl
noncomputable def fo_wr1f : Nat := nat_lit 1207646462035547572676483503124967423274753808345655260354554490245596564728132448515887056175173721506556372086007687817935097048455367989749348795730648682214018859272278798577332240644812540753404841208979503832118466347299272369017892979800426793087183764179728901239484193022051179762579197640370791587196059191414777195561037988411351685338153986382955498624401235172091754440499257490152820824400894539845799890546540349007582340057565533849247750920401970757011808909828624070238822269248961714793173049921031265533192574902552614852661184867378092803841786702389523086259534365212061873256979992959289029007388702715833604329567901762551199958016317962595307271752266180209081252204142586534340262926677040107288781874342807414982957801184261666952234673588879258813676509870962990217168728747758775521526916225596560152715254618252469806596888057677455849078322547884248070415871849275400
theorem f_wr1f (w : World) (t1 : Nat) (its c : Array Value) (x0 x1 x2 x3 x4 x5 : Nat × Obj) (ob ob1 ob2 T0 T2 T3 jr pi ow en : Obj) (B T tw0 tb0 tw1 tb1 : Nat) (es : List DictEntry) (n : Nat) (sl : Array (Option Value)) : FinE w (fun P => dOut P (t1 + 1998) its c [x0, x1, x2, x3, x4, x5] (dl ob T0 (nO []) T2 T3 (frO es n sl) jr pi ow en) (B + 1488) (T + 1998) [aTk 2 tw0 ob1 ((B + 1488) + 2) (tb0 + 1998) (or1 2), aTk 1 tw1 ob2 ((B + 1488) + 10) (tb1 + 1998) fo_wr1f]) [nat_lit 14] (fun P => some (.ok (.ret (.bool true)), dl ob2 T0 (tab_wr ((B + 1488) + 16)) T2 T3 (frO es n (mkN 1 sl)) jr pi ow en, nat_lit 30, [(nat_lit 8, (B + 1488) + 10), (nat_lit 1, (B + 1488) + 2), (nat_lit 0, (B + 1488))], ((tb1 + 1998)), nat_lit 29)) [some (cd3 ((B + 1488) + 11) (tb1 + 1998))] := by kernel_rfl
noncomputable def fo_wr1c : Nat := nat_lit 1118299817271844028688709351476822988553296023049282877869302248467272761253610077167807835198682768405958899344598658950199590004992446518052376415324884561099395412241843998451784265461801789039700474059013419010108650153110643867901194807235512915747028697328224205307900988606138435429730763582295429308331951370465536851635866368655314398780256747958672797884037166266534859245034159492676485181488666901755380997808739579019557692181823905517122056119360328808289380958725164871506316575755980192995986602619900891881890726030195693222877833995411454535144948360174595768376048867093557387918534066588352881543959091487499713756148677991349130641348625666168649947327424741978558252865887991557488926867281313896559994386628045150167786683091095837125780334075323299518048707962148076757555995625898089786144517660965331140956668541750976662873853650726937467792881517921262205149192
theorem f_wr1c (w : World) (t1 : Nat) (its c : Array Value) (x0 x1 x2 x4 x5 : Nat × Obj) (ob ob1 ob2 T0 T2 T3 jr pi ow en : Obj) (B T tw0 tb0 tw1 tb1 cb ct : Nat) (es : List DictEntry) (n : Nat) (sl : Array (Option Value)) : FinE w (fun P => dOut P (t1 + 1998) its c [x0, x1, x2, (cb + 5, cd3 cb ct), x4, x5] (dl ob T0 (tab_wr (cb + 5)) T2 T3 (frO es n sl) jr pi ow en) (B + 1488) (T + 1998) [aTk 2 tw0 ob1 ((B + 1488) + 2) (tb0 + 1998) (or1 2), aTk 1 tw1 ob2 ((B + 1488) + 10) (tb1 + 1998) fo_wr1c]) [] (fun P => some (.ok (.ret (.bool true)), dl ob2 T0 (tab_wr (cb + 5)) T2 T3 (frO es n (mkN 1 sl)) jr pi ow en, nat_lit 24, [(nat_lit 8, (B + 1488) + 10), (nat_lit 1, (B + 1488) + 2), (nat_lit 0, (B + 1488))], ((tb1 + 1998)), nat_lit 22)) [] := by kernel_rfl
noncomputable def fo_wr2f : Nat := nat_lit 2034880263078220152035667737896451559125102252037859380343076493363960640608304154332383871212752804489496885697556165555232354502781416050972346247862171819331466682688606390248223996779385731544755251507126245783730575980746857743695959562453270386525964412217870799838105775473399718194769171643248742598980684185809317239355837664586493917363403380329726833132425077345661237345617114113786767298915280333800211285219632383461519172242995115573751468630339360079274375398713059041413631744284559932703788898268209678499320559462590388764638132832877526726416136167298538931004385911245999584815242528185926946035427258158464013579727333137691344926864610887748052278932147771362030618503683721083462780239635583388594722231179053227721357704011621923088843873109203392744589604271465153009134804506203139512336819102264815264324163186307297451296788639367023586004274383196665092389504860242314275223500934899943266924130204506021948426758851660322931201810440
theorem f_wr2f (w : World) (t1 : Nat) (its c : Array Value) (x0 x1 x2 x3 x4 x5 : Nat × Obj) (ob ob1 ob2 T0 T2 T3 jr pi ow en : Obj) (B T tw0 tb0 tw1 tb1 : Nat) (es : List DictEntry) (n : Nat) (sl : Array (Option Value)) : FinE w (fun P => dOut P (t1 + 1998) its c [x0, x1, x2, x3, x4, x5] (dl ob T0 (nO []) T2 T3 (frO es n sl) jr pi ow en) (B + 1488) (T + 1998) [aTk 2 tw0 ob1 ((B + 1488) + 2) (tb0 + 1998) (or1 2), aTk 2 tw1 ob2 ((B + 1488) + 10) (tb1 + 1998) fo_wr2f]) [nat_lit 14] (fun P => some (.ok (.ret (.bool true)), dl ob2 T0 (tab_wr ((B + 1488) + 16)) T2 T3 (frO es n (mkN 1 sl)) jr pi ow en, nat_lit 30, [(nat_lit 8, (B + 1488) + 10), (nat_lit 1, (B + 1488) + 2), (nat_lit 0, (B + 1488))], ((tb1 + 1998)), nat_lit 29)) [some (cd3 ((B + 1488) + 11) (tb1 + 1998))] := by kernel_rfl
noncomputable def fo_wr2c : Nat := nat_lit 1884331464470826306815000821080794928188520391048257255907722538021292996914276920776136289553366894844786642357585567281558204072384068960188378647162393899080953653783125039506821716301420290064356065767842169890247753181856885862588749669118389709752573017748803898335577401445816200600154354920964843077141997613870262832945188623776018919393463000766198682589973476177266859436399639699864292385124320479550939988776459624219340378290438504707683968260554577808120761914020406264543133512837344011974244180542866718124684593776448490783636127352466750076813118951874648863558273111241797469409634810796367174711059973657720110803553293990708044708088288260258335187909297534782926536607528483176676399774863709992869437350989123893177829247170990118898930577548128788871068842273912254943528841203030719461233858503163261641768273040264177852287060723102788652554806134686841278828299838211470545391687783068431768362862969332013117241771310071160840
theorem f_wr2c (w : World) (t1 : Nat) (its c : Array Value) (x0 x1 x2 x4 x5 : Nat × Obj) (ob ob1 ob2 T0 T2 T3 jr pi ow en : Obj) (B T tw0 tb0 tw1 tb1 cb ct : Nat) (es : List DictEntry) (n : Nat) (sl : Array (Option Value)) : FinE w (fun P => dOut P (t1 + 1998) its c [x0, x1, x2, (cb + 5, cd3 cb ct), x4, x5] (dl ob T0 (tab_wr (cb + 5)) T2 T3 (frO es n sl) jr pi ow en) (B + 1488) (T + 1998) [aTk 2 tw0 ob1 ((B + 1488) + 2) (tb0 + 1998) (or1 2), aTk 2 tw1 ob2 ((B + 1488) + 10) (tb1 + 1998) fo_wr2c]) [] (fun P => some (.ok (.ret (.bool true)), dl ob2 T0 (tab_wr (cb + 5)) T2 T3 (frO es n (mkN 1 sl)) jr pi ow en, nat_lit 24, [(nat_lit 8, (B + 1488) + 10), (nat_lit 1, (B + 1488) + 2), (nat_lit 0, (B + 1488))], ((tb1 + 1998)), nat_lit 22)) [] := by kernel_rfl
noncomputable def fo_wr3f : Nat := nat_lit 2034880263078220152035667737896451559125102252037859380343076493363960640608304154332383871212752804489496885697556165555232354502781416050972346247862171819331466682688606390248223996779385731544755251507126245783730575980746857743695959562453270386525964412217870799838105775473399718194769171643248742598980684185809317239355837664586493917363403380329726833132425077345661237345617114113786767298915280333800211285219632383461519172242995115573751468630339360079274375398713059041413631744284559932703788898268209678499320559462590388792998888304617611680551396180751893443066397082321567116077241393555985350782755020831164354311171949188677163621108181116918028569915153915170538157220609314770331171604268688685145466516215549603846742244991262545435043442506079477183118947107734835513883384193139351210601108072857310262427458027560127622688055019168011764293133081394142020407283951492253070729323552810329698048912384772171101871202676449354258617212936
theorem f_wr3f (w : World) (t1 : Nat) (its c : Array Value) (x0 x1 x2 x3 x4 x5 : Nat × Obj) (ob ob1 ob2 T0 T2 T3 jr pi ow en : Obj) (B T tw0 tb0 tw1 tb1 : Nat) (es : List DictEntry) (n : Nat) (sl : Array (Option Value)) : FinE w (fun P => dOut P (t1 + 1998) its c [x0, x1, x2, x3, x4, x5] (dl ob T0 (nO []) T2 T3 (frO es n sl) jr pi ow en) (B + 1488) (T + 1998) [aTk 2 tw0 ob1 ((B + 1488) + 2) (tb0 + 1998) (or1 2), aTk 3 tw1 ob2 ((B + 1488) + 10) (tb1 + 1998) fo_wr3f]) [nat_lit 14] (fun P => some (.ok (.ret (.bool true)), dl ob2 T0 (tab_wr ((B + 1488) + 16)) T2 T3 (frO es n (mkN 1 sl)) jr pi ow en, nat_lit 30, [(nat_lit 8, (B + 1488) + 10), (nat_lit 1, (B + 1488) + 2), (nat_lit 0, (B + 1488))], ((tb1 + 1998)), nat_lit 29)) [some (cd3 ((B + 1488) + 11) (tb1 + 1998))] := by kernel_rfl
noncomputable def fo_wr3c : Nat := nat_lit 1884331464470826306815000821080794928188520391048257255907722538021292996914276920776136289553366894844786642357585567281558204072384068960188378647162393899080953653783125039506821716301420290064356065767842169890247753181856885862588749669118389709752573017748803898335577401445816200600154354920964843077141997613870262832945188623776018919393463000766198682589973476177266859436399639699864292385124320479550939988776459624219340378290438504707683968260554577808120761914020406264543133512837344011974244180542866718124684593776448490810049139156447745935027225375145867655220067567965472164661143301323470275379072848485161256219385224973575131660867330076897095727596541890283143634155295788631724401485778814755102061610800480907175809213144300871061826273224109167221804803581003597698888047260124954153412794219643739353050286807898538131608048018276817543031236619895804255777383542014312070456303891298175486648705004545637387357232347368923144
theorem f_wr3c (w : World) (t1 : Nat) (its c : Array Value) (x0 x1 x2 x4 x5 : Nat × Obj) (ob ob1 ob2 T0 T2 T3 jr pi ow en : Obj) (B T tw0 tb0 tw1 tb1 cb ct : Nat) (es : List DictEntry) (n : Nat) (sl : Array (Option Value)) : FinE w (fun P => dOut P (t1 + 1998) its c [x0, x1, x2, (cb + 5, cd3 cb ct), x4, x5] (dl ob T0 (tab_wr (cb + 5)) T2 T3 (frO es n sl) jr pi ow en) (B + 1488) (T + 1998) [aTk 2 tw0 ob1 ((B + 1488) + 2) (tb0 + 1998) (or1 2), aTk 3 tw1 ob2 ((B + 1488) + 10) (tb1 + 1998) fo_wr3c]) [] (fun P => some (.ok (.ret (.bool true)), dl ob2 T0 (tab_wr (cb + 5)) T2 T3 (frO es n (mkN 1 sl)) jr pi ow en, nat_lit 24, [(nat_lit 8, (B + 1488) + 10), (nat_lit 1, (B + 1488) + 2), (nat_lit 0, (B + 1488))], ((tb1 + 1998)), nat_lit 22)) [] := by kernel_rfl
noncomputable def fo_wr4f : Nat := nat_lit 2034880263078220152035667737896451559125102252037859380343076493363960640608304154332383871212752804489496885697556165555232354502781416050972346247862171819331466682688606390248223996779385731544755251507126245783730575980746857743695959562453270386525964412217870799838105775473399718194769171643248742598980684185809317239355837664586493917363403380329726833132425077345661237345617114113786767298915280333800211285219632383461519172242995115573751468630339360079274375398713059041413631744284559932703788898268209678499320559462590388821359643776357696634686656194205247955128408253397134647339240258926043755530082783503864695042616565239662982315351751346088004860898160058979045695937534908457199562968901793981696210801252045979972126785970903167781243011902955561621648289944004518018631963880075562908865397043449805260530752868812957794079321398968999942581991779591618948425063042742191866235146170720716129173694565038320255315646501238385586032615432
theorem f_wr4f (w : World) (t1 : Nat) (its c : Array Value) (x0 x1 x2 x3 x4 x5 : Nat × Obj) (ob ob1 ob2 T0 T2 T3 jr pi ow en : Obj) (B T tw0 tb0 tw1 tb1 : Nat) (es : List DictEntry) (n : Nat) (sl : Array (Option Value)) : FinE w (fun P => dOut P (t1 + 1998) its c [x0, x1, x2, x3, x4, x5] (dl ob T0 (nO []) T2 T3 (frO es n sl) jr pi ow en) (B + 1488) (T + 1998) [aTk 2 tw0 ob1 ((B + 1488) + 2) (tb0 + 1998) (or1 2), aTk 4 tw1 ob2 ((B + 1488) + 10) (tb1 + 1998) fo_wr4f]) [nat_lit 14] (fun P => some (.ok (.ret (.bool true)), dl ob2 T0 (tab_wr ((B + 1488) + 16)) T2 T3 (frO es n (mkN 1 sl)) jr pi ow en, nat_lit 30, [(nat_lit 8, (B + 1488) + 10), (nat_lit 1, (B + 1488) + 2), (nat_lit 0, (B + 1488))], ((tb1 + 1998)), nat_lit 29)) [some (cd3 ((B + 1488) + 11) (tb1 + 1998))] := by kernel_rfl
noncomputable def fo_wr4c : Nat := nat_lit 1884331464470826306815000821080794928188520391048257255907722538021292996914276920776136289553366894844786642357585567281558204072384068960188378647162393899080953653783125039506821716301420290064356065767842169890247753181856885862588749669118389709752573017748803898335577401445816200600154354920964843077141997613870262832945188623776018919393463000766198682589973476177266859436399639699864292385124320479550939988776459624219340378290438504707683968260554577808120761914020406264543133512837344011974244180542866718124684593776448490836462150960428741793241331798417086446881862024689146859912651791850573376047085723312602401635217155956442218613646371893535856267283786245783360731703063094086772403196693919517334685870611837921173789179117611623224721968900089545572540764888094940454247253317219188845591729936124217064332300575532898410929035313450846433507667105104767232726467245817153595520919999527919204934547039759261657472693384666685448
theorem f_wr4c (w : World) (t1 : Nat) (its c : Array Value) (x0 x1 x2 x4 x5 : Nat × Obj) (ob ob1 ob2 T0 T2 T3 jr pi ow en : Obj) (B T tw0 tb0 tw1 tb1 cb ct : Nat) (es : List DictEntry) (n : Nat) (sl : Array (Option Value)) : FinE w (fun P => dOut P (t1 + 1998) its c [x0, x1, x2, (cb + 5, cd3 cb ct), x4, x5] (dl ob T0 (tab_wr (cb + 5)) T2 T3 (frO es n sl) jr pi ow en) (B + 1488) (T + 1998) [aTk 2 tw0 ob1 ((B + 1488) + 2) (tb0 + 1998) (or1 2), aTk 4 tw1 ob2 ((B + 1488) + 10) (tb1 + 1998) fo_wr4c]) [] (fun P => some (.ok (.ret (.bool true)), dl ob2 T0 (tab_wr (cb + 5)) T2 T3 (frO es n (mkN 1 sl)) jr pi ow en, nat_lit 24, [(nat_lit 8, (B + 1488) + 10), (nat_lit 1, (B + 1488) + 2), (nat_lit 0, (B + 1488))], ((tb1 + 1998)), nat_lit 22)) [] := by kernel_rfl
noncomputable def fo_ow0tt : Nat := nat_lit 70798514126937712481431676768980810456543381040177548623937578043154769766766857916855615608369874415819382660127388565483582447893385241762696730089718708140562439158122929901251922192883635073747999936495759930967695324062460644497979161017287859440812173643166788884926074576630298640453617349527046689665594555436824924735413288643485261125175659826428178442957694428499031866213979563362033373778866421543151984702911278855364284797024139713296274157470720
theorem f_ow0tt (w : World) (t1 : Nat) (its c : Array Value) (x0 x1 x2 x3 x4 x5 : Nat × Obj) (ob ob1 ob2 T0 T1 T2 T3 fr jr : Obj) (B T tw0 tb0 tw1 tb1 : Nat) : FinE w (fun P => dOut P (t1 + 1998) its c [x0, x1, x2, x3, x4, x5] (dl ob T0 T1 T2 T3 fr jr (pipO (t1 + 1998) true) (ownO P (t1 + 1998) true true) (endO true true)) (B + 1488) (T + 1998) [aTk 5 tw0 ob1 ((B + 1488) + 2) (tb0 + 1998) (or1 5), aTk 0 tw1 ob2 ((B + 1488) + 3) (tb1 + 1998) fo_ow0tt]) [] (fun P => some (.ok (.ret (.bool true)), dl ob2 T0 T1 T2 T3 fr jr (pipO (t1 + 1998) true) (ownO P (t1 + 1998) false true) (endO false true), nat_lit 5, [(nat_lit 1, (B + 1488) + 3), (nat_lit 1, (B + 1488) + 2), (nat_lit 0, (B + 1488))], ((tb1 + 1998)), nat_lit 16)) [] := by kernel_rfl
noncomputable def fo_ow0ft : Nat := nat_lit 70798514126937712481431676768980810456543381040177548623937578043154769766766857916855615608369874415819382660127388565483582447893385241762696730089718708140562439158122929901251922192883635073747999936495759930967695324062460644497979161017287859440812173643166788884926074576630298640453617349527046689665594555436824924735413288643485261125175659826428178442957694428499031866213979563362033373778866421543151984702911278855364284797024139713296274157470720
theorem f_ow0ft (w : World) (t1 : Nat) (its c : Array Value) (x0 x1 x2 x3 x4 x5 : Nat × Obj) (ob ob1 ob2 T0 T1 T2 T3 fr jr : Obj) (B T tw0 tb0 tw1 tb1 : Nat) : FinE w (fun P => dOut P (t1 + 1998) its c [x0, x1, x2, x3, x4, x5] (dl ob T0 T1 T2 T3 fr jr (pipO (t1 + 1998) true) (ownO P (t1 + 1998) false true) (endO false true)) (B + 1488) (T + 1998) [aTk 5 tw0 ob1 ((B + 1488) + 2) (tb0 + 1998) (or1 5), aTk 0 tw1 ob2 ((B + 1488) + 3) (tb1 + 1998) fo_ow0ft]) [] (fun P => some (.ok (.ret (.bool true)), dl ob2 T0 T1 T2 T3 fr jr (pipO (t1 + 1998) true) (ownO P (t1 + 1998) false true) (endO false true), nat_lit 5, [(nat_lit 1, (B + 1488) + 3), (nat_lit 1, (B + 1488) + 2), (nat_lit 0, (B + 1488))], ((tb1 + 1998)), nat_lit 16)) [] := by kernel_rfl
noncomputable def fo_ow0tf : Nat := nat_lit 330766352916520356211305031015856244908252578158813964834751821600943291775428533471256666306722837724280741694704200648456166458234445941201166712607366759984742497351253180630537242897600957367102988229067537808418806803405047328642253302546768896530222909901106699362347781682414966488980590396308302071045526427183584916657576666506373937195792277494118740910102835931424688440050393420415032110154413607585092054874827725491416956161767849677521153397607230609955123437509898272254452921975379070930048885437864285953679108822417642844394389765831108285323690042071245516579438337104142657694350455505878922780284034920462380790759825571310484354761728
theorem f_ow0tf (w : World) (t1 : Nat) (its c : Array Value) (x0 x1 x2 x3 x4 x5 : Nat × Obj) (ob ob1 ob2 T0 T1 T2 T3 fr jr : Obj) (B T tw0 tb0 tw1 tb1 : Nat) : FinE w (fun P => dOut P (t1 + 1998) its c [x0, x1, x2, x3, x4, x5] (dl ob T0 T1 T2 T3 fr jr (pipO (t1 + 1998) true) (ownO P (t1 + 1998) true false) (endO true false)) (B + 1488) (T + 1998) [aTk 5 tw0 ob1 ((B + 1488) + 2) (tb0 + 1998) (or1 5), aTk 0 tw1 ob2 ((B + 1488) + 3) (tb1 + 1998) fo_ow0tf]) [] (fun P => some (.ok (.ret (.bool true)), dl ob2 T0 T1 T2 T3 fr jr (pipO (t1 + 1998) false) (ownO P (t1 + 1998) false false) (endO false false), nat_lit 5, [(nat_lit 1, (B + 1488) + 3), (nat_lit 1, (B + 1488) + 2), (nat_lit 0, (B + 1488))], ((tb1 + 1998)), nat_lit 22)) [] := by kernel_rfl
noncomputable def fo_ow0ff : Nat := nat_lit 158570599769809736005051736531716067330392774853811599822182217340622066581660071210744788583187880078845936266719932894024021411596088022855100265779296345837266513860772697330089003591514899543099960980762499412767759966493320358966037354573389995528632765470129109423490606790887635190391634403846645170724568478463636826120270779703442722765237776147750444221849613374990779288634137543668137583853828859775933187949105948983715954720914245220769714356949864460534451916022971289927296008183799463491986373792499382855608836738922421761120643660102485505213440
theorem f_ow0ff (w : World) (t1 : Nat) (its c : Array Value) (x0 x1 x2 x3 x4 x5 : Nat × Obj) (ob ob1 ob2 T0 T1 T2 T3 fr jr : Obj) (B T tw0 tb0 tw1 tb1 : Nat) : FinE w (fun P => dOut P (t1 + 1998) its c [x0, x1, x2, x3, x4, x5] (dl ob T0 T1 T2 T3 fr jr (pipO (t1 + 1998) false) (ownO P (t1 + 1998) false false) (endO false false)) (B + 1488) (T + 1998) [aTk 5 tw0 ob1 ((B + 1488) + 2) (tb0 + 1998) (or1 5), aTk 0 tw1 ob2 ((B + 1488) + 3) (tb1 + 1998) fo_ow0ff]) [] (fun P => some (.ok (.ret (.bool true)), dl ob2 T0 T1 T2 T3 fr jr (pipO (t1 + 1998) false) (ownO P (t1 + 1998) false false) (endO false false), nat_lit 5, [(nat_lit 1, (B + 1488) + 3), (nat_lit 1, (B + 1488) + 2), (nat_lit 0, (B + 1488))], ((tb1 + 1998)), nat_lit 19)) [] := by kernel_rfl
noncomputable def fo_ow1tt : Nat := nat_lit 53262882177809406446832906566023882877402976443325016688517877600104390001844216952866921498874820759796575687061959470799079367966713737303522239112376621405096734016360728705284927434803399767998676120987906583860359373376851460110040939066491366002662452458662866070247531758289250211525582899236710779154307705093904024229121938652805869293335751853028982010086798732233355017446189462340795343193678118836750645040514048
theorem f_ow1tt (w : World) (t1 : Nat) (its c : Array Value) (x0 x1 x2 x3 x4 x5 : Nat × Obj) (ob ob1 ob2 T0 T1 T2 T3 fr jr : Obj) (B T tw0 tb0 tw1 tb1 : Nat) : FinE w (fun P => dOut P (t1 + 1998) its c [x0, x1, x2, x3, x4, x5] (dl ob T0 T1 T2 T3 fr jr (pipO (t1 + 1998) true) (ownO P (t1 + 1998) true true) (endO true true)) (B + 1488) (T + 1998) [aTk 5 tw0 ob1 ((B + 1488) + 2) (tb0 + 1998) (or1 5), aTk 1 tw1 ob2 ((B + 1488) + 3) (tb1 + 1998) fo_ow1tt]) [] (fun P => some (.ok (.ret (.bool true)), dl ob2 T0 T1 T2 T3 fr jr (pipO (t1 + 1998) true) (ownO P (t1 + 1998) true false) (endO true false), nat_lit 5, [(nat_lit 1, (B + 1488) + 3), (nat_lit 1, (B + 1488) + 2), (nat_lit 0, (B + 1488))], ((tb1 + 1998)), nat_lit 15)) [] := by kernel_rfl
noncomputable def fo_ow1ft : Nat := nat_lit 346833659275793249034625384202482477860915855395456511990564726087030713116711749913156430129238206289575403003266151899155573200109642387240954586838982207717761348902587655132846220008594821472167382985282722525000558762687250907678379398971280742448075017972462858390573187525419955901149311555399374152448633918910454737569135110658587557569015083165673052868551991289629574059208743134047338781640513781331262892659144600482708642022846875673458873362425173608125177091555602851756662572280308205966072878040508988899598150684922917753335764662239789419210932249372209447417487030890512610229846208897346461411969518672325464663221307330361162907971541271552
theorem f_ow1ft (w : World) (t1 : Nat) (its c : Array Value) (x0 x1 x2 x3 x4 x5 : Nat × Obj) (ob ob1 ob2 T0 T1 T2 T3 fr jr : Obj) (B T tw0 tb0 tw1 tb1 : Nat) : FinE w (fun P => dOut P (t1 + 1998) its c [x0, x1, x2, x3, x4, x5] (dl ob T0 T1 T2 T3 fr jr (pipO (t1 + 1998) true) (ownO P (t1 + 1998) false true) (endO false true)) (B + 1488) (T + 1998) [aTk 5 tw0 ob1 ((B + 1488) + 2) (tb0 + 1998) (or1 5), aTk 1 tw1 ob2 ((B + 1488) + 3) (tb1 + 1998) fo_ow1ft]) [] (fun P => some (.ok (.ret (.bool true)), dl ob2 T0 T1 T2 T3 fr jr (pipO (t1 + 1998) false) (ownO P (t1 + 1998) false false) (endO false false), nat_lit 5, [(nat_lit 1, (B + 1488) + 3), (nat_lit 1, (B + 1488) + 2), (nat_lit 0, (B + 1488))], ((tb1 + 1998)), nat_lit 22)) [] := by kernel_rfl
noncomputable def fo_ow1tf : Nat := nat_lit 53262882177809406446832906566023882877402976443325016688517877600104390001844216952866921498874820759796575687061959470799079367966713737303522239112376621405096734016360728705284927434803399767998676120987906583860359373376851460110040939066491366002662452458662866070247531758289250211525582899236710779154307705093904024229121938652805869293335751853028982010086798732233355017446189462340795343193678118836750645040514048
theorem f_ow1tf (w : World) (t1 : Nat) (its c : Array Value) (x0 x1 x2 x3 x4 x5 : Nat × Obj) (ob ob1 ob2 T0 T1 T2 T3 fr jr : Obj) (B T tw0 tb0 tw1 tb1 : Nat) : FinE w (fun P => dOut P (t1 + 1998) its c [x0, x1, x2, x3, x4, x5] (dl ob T0 T1 T2 T3 fr jr (pipO (t1 + 1998) true) (ownO P (t1 + 1998) true false) (endO true false)) (B + 1488) (T + 1998) [aTk 5 tw0 ob1 ((B + 1488) + 2) (tb0 + 1998) (or1 5), aTk 1 tw1 ob2 ((B + 1488) + 3) (tb1 + 1998) fo_ow1tf]) [] (fun P => some (.ok (.ret (.bool true)), dl ob2 T0 T1 T2 T3 fr jr (pipO (t1 + 1998) true) (ownO P (t1 + 1998) true false) (endO true false), nat_lit 5, [(nat_lit 1, (B + 1488) + 3), (nat_lit 1, (B + 1488) + 2), (nat_lit 0, (B + 1488))], ((tb1 + 1998)), nat_lit 15)) [] := by kernel_rfl
noncomputable def fo_ow1ff : Nat := nat_lit 166273325224228013741233129685480707017033934285110352095144540730160124087930790829877927433404814541555956466812120354284132275685779594653309616289791445132657572038073591875595407029976327303305584685364018584242366674625699888723171585109146987951431630685606101042846086506361792910894560239490125878240924495217603854712606296496137772264846957291906022217745954358355204961304053170018538380294165571754934856430536726952982066409784891086745897020696730294388732092113014251931490236200534825025908089550657796955913298063919020583758372518634324306307595633664
theorem f_ow1ff (w : World) (t1 : Nat) (its c : Array Value) (x0 x1 x2 x3 x4 x5 : Nat × Obj) (ob ob1 ob2 T0 T1 T2 T3 fr jr : Obj) (B T tw0 tb0 tw1 tb1 : Nat) : FinE w (fun P => dOut P (t1 + 1998) its c [x0, x1, x2, x3, x4, x5] (dl ob T0 T1 T2 T3 fr jr (pipO (t1 + 1998) false) (ownO P (t1 + 1998) false false) (endO false false)) (B + 1488) (T + 1998) [aTk 5 tw0 ob1 ((B + 1488) + 2) (tb0 + 1998) (or1 5), aTk 1 tw1 ob2 ((B + 1488) + 3) (tb1 + 1998) fo_ow1ff]) [] (fun P => some (.ok (.ret (.bool true)), dl ob2 T0 T1 T2 T3 fr jr (pipO (t1 + 1998) false) (ownO P (t1 + 1998) false false) (endO false false), nat_lit 5, [(nat_lit 1, (B + 1488) + 3), (nat_lit 1, (B + 1488) + 2), (nat_lit 0, (B + 1488))], ((tb1 + 1998)), nat_lit 19)) [] := by kernel_rfl
end M9
end
section
open PySem PySem.W PySem.Calls PyProof.Rows PySem.Spec
namespace M9
noncomputable def fo_sg00p : Nat := nat_lit 30165247290518232434692788437398658918582616926984927097209776389003741974886827434597583456016633966845524693300151393669199281196233164430052848792682203697385288192917437647172170294502591766989850545003998729245688055384838561832809514056396753056179920668011597706478019122998804354750526173763150282405156292646085363853338091319095478708851125085175829220225098136875617707210187771216019762297750101123103998963632488555927049944451856615129313258928889979577174224739754595173024285318769049644128810271142728825935350478923078361711523111390221383107550206756710420345362787913902284846009204446319340874901063535558386098726157900265709319048486127682340018569063216075195103802094505932998654603876489172666906225642307097310403200025664672531009383419585284285235081312435139776921010015721194965791365110434456565238611546121999079544557971850166664985570797992739621807326836348623366793595765255081467299232115849794652857428242233149092811797
theorem f_sg00p (w : World) (t1 : Nat) (its c : Array Value) (x0 x1 x2 x3 x4 x5 : Nat × Obj) (ob ob1 ob2 ob3 T0 T1 T2 T3 fr jr ow en : Obj) (B T tw0 tb0 tw1 tb1 tw2 tb2 : Nat) : FinE w (fun P => dOut P (t1 + 1998) its c [x0, x1, x2, x3, x4, x5] (dl ob T0 T1 T2 T3 fr jr (pipO (t1 + 1998) true) ow en) (B + 1488) (T + 1998) [aTk 4 tw0 ob1 ((B + 1488) + 2) (tb0 + 1998) (or1 4), aTk 0 tw1 ob2 ((B + 1488) + 11) (tb1 + 1998) (or2 0), aTk 0 tw2 ob3 ((B + 1488) + 24) (tb2 + 1998) fo_sg00p]) [] (fun P => some (.ok (.ret (.bool true)), dl ob3 T0 T1 T2 T3 fr jr (pipO (t1 + 1998) true) ow en, nat_lit 28, [(nat_lit 21, (B + 1488) + 24), (nat_lit 9, (B + 1488) + 11), (nat_lit 1, (B + 1488) + 2), (nat_lit 0, (B + 1488))], ((tb2 + 1998)), nat_lit 27)) [] := by kernel_rfl
noncomputable def fo_sg00q : Nat := nat_lit 30165247290518232434692788437398658918582616926984927097209776389003741974886827434597583456016633966845524693300151393669199281196233164430052848792682203697385288192917437647172170294502591766989850545003998729245688055384838561832809514056396753056179920668011597706478019122998804354750526173763150282405156292646085363853338091319095478708851125085175829220225098136875617707210187771216019762297750101123103998963632488555927049944451856615129313258928889979577174224739754595173024285318769049644128810271142728825935350478923078361711523111390221383107550206756710420345362787913902284846009204446319340874901063535558386098726157900265709319048486127682340018569063216075195103802094505932998654603876489172666906225642307097310403200025664672531009383419585284285235081312435139776921010015721194965791365110434456565238611546121999079544557971850166664985570797992739621807326836348623366793595765255081467299232115849794652857428242233149092811797
theorem f_sg00q (w : World) (t1 : Nat) (its c : Array Value) (x0 x1 x2 x3 x4 x5 : Nat × Obj) (ob ob1 ob2 ob3 T0 T1 T2 T3 fr jr ow en : Obj) (B T tw0 tb0 tw1 tb1 tw2 tb2 : Nat) : FinE w (fun P => dOut P (t1 + 1998) its c [x0, x1, x2, x3, x4, x5] (dl ob T0 T1 T2 T3 fr jr (pipO (t1 + 1998) false) ow en) (B + 1488) (T + 1998) [aTk 4 tw0 ob1 ((B + 1488) + 2) (tb0 + 1998) (or1 4), aTk 0 tw1 ob2 ((B + 1488) + 11) (tb1 + 1998) (or2 0), aTk 0 tw2 ob3 ((B + 1488) + 24) (tb2 + 1998) fo_sg00q]) [] (fun P => some (.ok (.ret (.bool true)), dl ob3 T0 T1 T2 T3 fr jr (pipO (t1 + 1998) false) ow en, nat_lit 28, [(nat_lit 21, (B + 1488) + 24), (nat_lit 9, (B + 1488) + 11), (nat_lit 1, (B + 1488) + 2), (nat_lit 0, (B + 1488))], ((tb2 + 1998)), nat_lit 27)) [] := by kernel_rfl
noncomputable def fo_sg01p : Nat := nat_lit 22693809779943357965279383094622007568788611046054687275134445587414248822461212116465739378223157250876357087062902781510498994831169061201536965129267280554696257336643642759583703614663016923021690759912676913809383850373008644046646101752466335272518701896576329120679780348918832142280668765667431426312986586430609763194778654598446421934920551643231608792750537324937402113758624559440048245966311536569957800798555373476722499429484092228237297282568356110209246223848463519111360507807236665141697592225668554723703240815298424091177532362742128708630583556942676990928344577237321725866812242324995857768131200189276631813797514568592601345416533948812380242813881575632267928782207209468306682886148463033154274934356659572652397591547923386382620677288559676746172024640846516716907431563175568676053327060978781444267095029955911766920264739708398509694239693178899639530653785148566576729267123725772616913941
theorem f_sg01p (w : World) (t1 : Nat) (its c : Array Value) (x0 x1 x2 x3 x4 x5 : Nat × Obj) (ob ob1 ob2 ob3 T0 T1 T2 T3 fr jr ow en : Obj) (B T tw0 tb0 tw1 tb1 tw2 tb2 : Nat) : FinE w (fun P => dOut P (t1 + 1998) its c [x0, x1, x2, x3, x4, x5] (dl ob T0 T1 T2 T3 fr jr (pipO (t1 + 1998) true) ow en) (B + 1488) (T + 1998) [aTk 4 tw0 ob1 ((B + 1488) + 2) (tb0 + 1998) (or1 4), aTk 0 tw1 ob2 ((B + 1488) + 11) (tb1 + 1998) (or2 0), aTk 1 tw2 ob3 ((B + 1488) + 24) (tb2 + 1998) fo_sg01p]) [] (fun P => some (.ok (.ret (.bool true)), dl ob3 T0 T1 T2 T3 fr jr (pipO (t1 + 1998) true) ow en, nat_lit 28, [(nat_lit 21, (B + 1488) + 24), (nat_lit 9, (B + 1488) + 11), (nat_lit 1, (B + 1488) + 2), (nat_lit 0, (B + 1488))], ((tb2 + 1998)), nat_lit 26)) [] := by kernel_rfl
noncomputable def fo_sg01q : Nat := nat_lit 22693809779943357965279383094622007568788611046054687275134445587414248822461212116465739378223157250876357087062902781510498994831169061201536965129267280554696257336643642759583703614663016923021690759912676913809383850373008644046646101752466335272518701896576329120679780348918832142280668765667431426312986586430609763194778654598446421934920551643231608792750537324937402113758624559440048245966311536569957800798555373476722499429484092228237297282568356110209246223848463519111360507807236665141697592225668554723703240815298424091177532362742128708630583556942676990928344577237321725866812242324995857768131200189276631813797514568592601345416533948812380242813881575632267928782207209468306682886148463033154274934356659572652397591547923386382620677288559676746172024640846516716907431563175568676053327060978781444267095029955911766920264739708398509694239693178899639530653785148566576729267123725772616913941
theorem f_sg01q (w : World) (t1 : Nat) (its c : Array Value) (x0 x1 x2 x3 x4 x5 : Nat × Obj) (ob ob1 ob2 ob3 T0 T1 T2 T3 fr jr ow en : Obj) (B T tw0 tb0 tw1 tb1 tw2 tb2 : Nat) : FinE w (fun P => dOut P (t1 + 1998) its c [x0, x1, x2, x3, x4, x5] (dl ob T0 T1 T2 T3 fr jr (pipO (t1 + 1998) false) ow en) (B + 1488) (T + 1998) [aTk 4 tw0 ob1 ((B + 1488) + 2) (tb0 + 1998) (or1 4), aTk 0 tw1 ob2 ((B + 1488) + 11) (tb1 + 1998) (or2 0), aTk 1 tw2 ob3 ((B + 1488) + 24) (tb2 + 1998) fo_sg01q]) [] (fun P => some (.ok (.ret (.bool true)), dl ob3 T0 T1 T2 T3 fr jr (pipO (t1 + 1998) false) ow en, nat_lit 28, [(nat_lit 21, (B + 1488) + 24), (nat_lit 9, (B + 1488) + 11), (nat_lit 1, (B + 1488) + 2), (nat_lit 0, (B + 1488))], ((tb2 + 1998)), nat_lit 26)) [] := by kernel_rfl
noncomputable def fo_sb02f : Nat := nat_lit 13239735234543767678364825721043501753006236559372961186656669844513809502139456254907403936003640445439873043331838949823329009193786205307984105343385645902062747264576958924487055258121236265979509469552082102530534096199258008297916339881350175282016974985422121008262140096430127337183847099502007287905297075883490428152912743192699692452750546844735292483617093868042148806672420241178340758768085267583508186954670092209730531027276922308955853978061236865021069726493164754308312115880581482166023977004270896362178311244197239740498979244002366058843581971460310399401681888545280699008006350392986487659011047706013323550667859974464546487177348649824325457815804063548963075460285603278016817662641695022371661347466163847647050508824315396036030408823191339621665259633666402411960897180556467512031544608157953295950077155831096738157577765750068245
theorem f_sb02f (w : World) (t1 : Nat) (its c : Array Value) (x0 x1 x2 x3 x4 x5 : Nat × Obj) (ob ob1 ob2 ob3 T0 T1 T2 jr pi ow en : Obj) (B T tw0 tb0 tw1 tb1 tw2 tb2 : Nat) (es : List DictEntry) (n : Nat) (sl : Array (Option Value)) : FinE w (fun P => dOut P (t1 + 1998) its c [x0, x1, x2, x3, x4, x5] (dl ob T0 T1 T2 (nO []) (frO es n sl) jr pi ow en) (B + 1488) (T + 1998) [aTk 4 tw0 ob1 ((B + 1488) + 2) (tb0 + 1998) (or1 4), aTk 0 tw1 ob2 ((B + 1488) + 11) (tb1 + 1998) (or2 0), aTk 2 tw2 ob3 ((B + 1488) + 24) (tb2 + 1998) fo_sb02f]) [nat_lit 28] (fun P => some (.ok (.ret (.bool true)), dl ob3 T0 T1 T2 (tab_sb ((B + 1488) + 31)) (frO es n (mkN 1 sl)) jr pi ow en, nat_lit 42, [(nat_lit 21, (B + 1488) + 24), (nat_lit 9, (B + 1488) + 11), (nat_lit 1, (B + 1488) + 2), (nat_lit 0, (B + 1488))], ((tb2 + 1998)), nat_lit 20)) [some (cd5 ((B + 1488) + 26) (tb2 + 1998))] := by kernel_rfl
noncomputable def fo_sb02c : Nat := nat_lit 12330464305862568019297742956358475380582955255520493897289661545784966556485235928471576360428051870322822978336837684010979504615487329852358293720537642472081158833076268894677362078211501185672499896406227307150593178630280115742948984362707330735574919233062281569552516706383748191142511923137619833557451423895278767376900812701614804370290615092347321775916341493642738116241596613720260048823137096079772516421747053144361672910457679366309819755042766888158627412624063807435195133419443426517273868453144828690314643315283174617420504852616897177678088091235807574907319769119183000279389941261434008703477374429946117667521045362952088718135786949563835749108066300832521756228486019755307819314936568448933995185879886502702350300147358229726355859471439172773896692106046551800887964836152393841068797141490819112133671511145481646791218197
theorem f_sb02c (w : World) (t1 : Nat) (its c : Array Value) (x0 x1 x2 x3 x4 : Nat × Obj) (ob ob1 ob2 ob3 T0 T1 T2 jr pi ow en : Obj) (B T tw0 tb0 tw1 tb1 tw2 tb2 cb ct : Nat) (es : List DictEntry) (n : Nat) (sl : Array (Option Value)) : FinE w (fun P => dOut P (t1 + 1998) its c [x0, x1, x2, x3, x4, (cb + 5, cd5 cb ct)] (dl ob T0 T1 T2 (tab_sb (cb + 5)) (frO es n sl) jr pi ow en) (B + 1488) (T + 1998) [aTk 4 tw0 ob1 ((B + 1488) + 2) (tb0 + 1998) (or1 4), aTk 0 tw1 ob2 ((B + 1488) + 11) (tb1 + 1998) (or2 0), aTk 2 tw2 ob3 ((B + 1488) + 24) (tb2 + 1998) fo_sb02c]) [] (fun P => some (.ok (.ret (.bool true)), dl ob3 T0 T1 T2 (tab_sb (cb + 5)) (frO es n (mkN 1 sl)) jr pi ow en, nat_lit 36, [(nat_lit 21, (B + 1488) + 24), (nat_lit 9, (B + 1488) + 11), (nat_lit 1, (B + 1488) + 2), (nat_lit 0, (B + 1488))], ((tb2 + 1998)), nat_lit 13)) [] := by kernel_rfl
noncomputable def fo_sb03f : Nat := nat_lit 13239735234543767678364825721043501753006236559372961186656669844513809502139456254907403936003640445439873043331838949823329009193786205307984105343385645902062747264576958924487055258121236265979509469552082102530534096199258008297916339881350175282016974985422121008262140096430127337183847099502007287905297075883490428152912743192699692452750546844735292483617093868042148806672420241178340758768085267583508186954670092209730531027276922308955853978061236865021069726493164754308312115880581482166023977004270896362178311244197239740498979244002366058843581971460310399401681888545280699008006350392986487659011047706013323550667859974464546487177348649824325457815804063548963075460285603278016817662641695022371661347466163847647050508824315396036030408823191339621665259633666402411960897180556467512031544608157953295950077155831096738157577765750068245
theorem f_sb03f (w : World) (t1 : Nat) (its c : Array Value) (x0 x1 x2 x3 x4 x5 : Nat × Obj) (ob ob1 ob2 ob3 T0 T1 T2 jr pi ow en : Obj) (B T tw0 tb0 tw1 tb1 tw2 tb2 : Nat) (es : List DictEntry) (n : Nat) (sl : Array (Option Value)) : FinE w (fun P => dOut P (t1 + 1998) its c [x0, x1, x2, x3, x4, x5] (dl ob T0 T1 T2 (nO []) (frO es n sl) jr pi ow en) (B + 1488) (T + 1998) [aTk 4 tw0 ob1 ((B + 1488) + 2) (tb0 + 1998) (or1 4), aTk 0 tw1 ob2 ((B + 1488) + 11) (tb1 + 1998) (or2 0), aTk 3 tw2 ob3 ((B + 1488) + 24) (tb2 + 1998) fo_sb03f]) [nat_lit 28] (fun P => some (.ok (.ret (.bool true)), dl ob3 T0 T1 T2 (tab_sb ((B + 1488) + 31)) (frO es n (mkN 1 sl)) jr pi ow en, nat_lit 42, [(nat_lit 21, (B + 1488) + 24), (nat_lit 9, (B + 1488) + 11), (nat_lit 1, (B + 1488) + 2), (nat_lit 0, (B + 1488))], ((tb2 + 1998)), nat_lit 20)) [some (cd5 ((B + 1488) + 26) (tb2 + 1998))] := by kernel_rfl
noncomputable def fo_sb03c : Nat := nat_lit 12330464305862568019297742956358475380582955255520493897289661545784966556485235928471576360428051870322822978336837684010979504615487329852358293720537642472081158833076268894677362078211501185672499896406227307150593178630280115742948984362707330735574919233062281569552516706383748191142511923137619833557451423895278767376900812701614804370290615092347321775916341493642738116241596613720260048823137096079772516421747053144361672910457679366309819755042766888158627412624063807435195133419443426517273868453144828690314643315283174617420504852616897177678088091235807574907319769119183000279389941261434008703477374429946117667521045362952088718135786949563835749108066300832521756228486019755307819314936568448933995185879886502702350300147358229726355859471439172773896692106046551800887964836152393841068797141490819112133671511145481646791218197
theorem f_sb03c (w : World) (t1 : Nat) (its c : Array Value) (x0 x1 x2 x3 x4 : Nat × Obj) (ob ob1 ob2 ob3 T0 T1 T2 jr pi ow en : Obj) (B T tw0 tb0 tw1 tb1 tw2 tb2 cb ct : Nat) (es : List DictEntry) (n : Nat) (sl : Array (Option Value)) : FinE w (fun P => dOut P (t1 + 1998) its c [x0, x1, x2, x3, x4, (cb + 5, cd5 cb ct)] (dl ob T0 T1 T2 (tab_sb (cb + 5)) (frO es n sl) jr pi ow en) (B + 1488) (T + 1998) [aTk 4 tw0 ob1 ((B + 1488) + 2) (tb0 + 1998) (or1 4), aTk 0 tw1 ob2 ((B + 1488) + 11) (tb1 + 1998) (or2 0), aTk 3 tw2 ob3 ((B + 1488) + 24) (tb2 + 1998) fo_sb03c]) [] (fun P => some (.ok (.ret (.bool true)), dl ob3 T0 T1 T2 (tab_sb (cb + 5)) (frO es n (mkN 1 sl)) jr pi ow en, nat_lit 36, [(nat_lit 21, (B + 1488) + 24), (nat_lit 9, (B + 1488) + 11), (nat_lit 1, (B + 1488) + 2), (nat_lit 0, (B + 1488))], ((tb2 + 1998)), nat_lit 13)) [] := by kernel_rfl
noncomputable def fo_sb04f : Nat := nat_lit 13239735234543767678364825721043501753006236559372961186656669844513809502139456254907403936003640445439873043331838949823329009193786205307984105343385645902062747264576958924487055258121236265979509469552082102530534096199258008297916339881350175282016974985422121008262140096430127337183847099502007287905297075883490428152912743192699692452750546844735292483617093868042148806672420241178340758768085267583508186954670092209730531027276922308955853978061236865021069726493164754308312115880581482166023977004270896362178311244197239740498979244002366058843581971460310399401681888545280699008006350392986487659011047706013323550667859974464546487177348649824325457815804063548963075460285603278016817662641695022371661347466163847647050508824315396036030408823191339621665259633666402411960897180556467512031544608157953295950077155831096738157577765750068245
theorem f_sb04f (w : World) (t1 : Nat) (its c : Array Value) (x0 x1 x2 x3 x4 x5 : Nat × Obj) (ob ob1 ob2 ob3 T0 T1 T2 jr pi ow en : Obj) (B T tw0 tb0 tw1 tb1 tw2 tb2 : Nat) (es : List DictEntry) (n : Nat) (sl : Array (Option Value)) : FinE w (fun P => dOut P (t1 + 1998) its c [x0, x1, x2, x3, x4, x5] (dl ob T0 T1 T2 (nO []) (frO es n sl) jr pi ow en) (B + 1488) (T + 1998) [aTk 4 tw0 ob1 ((B + 1488) + 2) (tb0 + 1998) (or1 4), aTk 0 tw1 ob2 ((B + 1488) + 11) (tb1 + 1998) (or2 0), aTk 4 tw2 ob3 ((B + 1488) + 24) (tb2 + 1998) fo_sb04f]) [nat_lit 28] (fun P => some (.ok (.ret (.bool true)), dl ob3 T0 T1 T2 (tab_sb ((B + 1488) + 31)) (frO es n (mkN 1 sl)) jr pi ow en, nat_lit 42, [(nat_lit 21, (B + 1488) + 24), (nat_lit 9, (B + 1488) + 11), (nat_lit 1, (B + 1488) + 2), (nat_lit 0, (B + 1488))], ((tb2 + 1998)), nat_lit 20)) [some (cd5 ((B + 1488) + 26) (tb2 + 1998))] := by kernel_rfl
noncomputable def fo_sb04c : Nat := nat_lit 12330464305862568019297742956358475380582955255520493897289661545784966556485235928471576360428051870322822978336837684010979504615487329852358293720537642472081158833076268894677362078211501185672499896406227307150593178630280115742948984362707330735574919233062281569552516706383748191142511923137619833557451423895278767376900812701614804370290615092347321775916341493642738116241596613720260048823137096079772516421747053144361672910457679366309819755042766888158627412624063807435195133419443426517273868453144828690314643315283174617420504852616897177678088091235807574907319769119183000279389941261434008703477374429946117667521045362952088718135786949563835749108066300832521756228486019755307819314936568448933995185879886502702350300147358229726355859471439172773896692106046551800887964836152393841068797141490819112133671511145481646791218197
theorem f_sb04c (w : World) (t1 : Nat) (its c : Array Value) (x0 x1 x2 x3 x4 : Nat × Obj) (ob ob1 ob2 ob3 T0 T1 T2 jr pi ow en : Obj) (B T tw0 tb0 tw1 tb1 tw2 tb2 cb ct : Nat) (es : List DictEntry) (n : Nat) (sl : Array (Option Value)) : FinE w (fun P => dOut P (t1 + 1998) its c [x0, x1, x2, x3, x4, (cb + 5, cd5 cb ct)] (dl ob T0 T1 T2 (tab_sb (cb + 5)) (frO es n sl) jr pi ow en) (B + 1488) (T + 1998) [aTk 4 tw0 ob1 ((B + 1488) + 2) (tb0 + 1998) (or1 4), aTk 0 tw1 ob2 ((B + 1488) + 11) (tb1 + 1998) (or2 0), aTk 4 tw2 ob3 ((B + 1488) + 24) (tb2 + 1998) fo_sb04c]) [] (fun P => some (.ok (.ret (.bool true)), dl ob3 T0 T1 T2 (tab_sb (cb + 5)) (frO es n (mkN 1 sl)) jr pi ow en, nat_lit 36, [(nat_lit 21, (B + 1488) + 24), (nat_lit 9, (B + 1488) + 11), (nat_lit 1, (B + 1488) + 2), (nat_lit 0, (B + 1488))], ((tb2 + 1998)), nat_lit 13)) [] := by kernel_rfl
noncomputable def fo_sg10p : Nat := nat_lit 39591880955170565332463092459064534058526550610460508038651394749111722878272372675679599207962045514450910573418132229365226582154767789074135654272343403890272634462732466804794278494348674555340822191892733187695378175435194662612613115422681880094954947168951093854014774530824913729938090220688149518448924218715496827417934684498274299409264851992052849859913035173349724260841643300978646660280426473470565469887980502426615871829147866545260465862626707114480987393156192268680173465081550827871789495580934322592717713076234885282514478042869479728713013158657098842893630380150890725497967700708639858713112763442866184631747776937206627187195528063959355773859452295904232354301754380854787892442187991948598477102990909861830630016123968718340648406044329870066279706908251152465414145911561964052017129686215543121373782210904675455276162821070061760898941995540154580278583773279895331981803335861831564113493590836822730851261537925688335558682
theorem f_sg10p (w : World) (t1 : Nat) (its c : Array Value) (x0 x1 x2 x3 x4 x5 : Nat × Obj) (ob ob1 ob2 ob3 T0 T1 T2 T3 fr jr ow en : Obj) (B T tw0 tb0 tw1 tb1 tw2 tb2 : Nat) : FinE w (fun P => dOut P (t1 + 1998) its c [x0, x1, x2, x3, x4, x5] (dl ob T0 T1 T2 T3 fr jr (pipO (t1 + 1998) true) ow en) (B + 1488) (T + 1998) [aTk 4 tw0 ob1 ((B + 1488) + 2) (tb0 + 1998) (or1 4), aTk 1 tw1 ob2 ((B + 1488) + 11) (tb1 + 1998) (or2 1), aTk 0 tw2 ob3 ((B + 1488) + 29) (tb2 + 1998) fo_sg10p]) [] (fun P => some (.ok (.ret (.bool true)), dl ob3 T0 T1 T2 T3 fr jr (pipO (t1 + 1998) true) ow en, nat_lit 33, [(nat_lit 26, (B + 1488) + 29), (nat_lit 9, (B + 1488) + 11), (nat_lit 1, (B + 1488) + 2), (nat_lit 0, (B + 1488))], ((tb2 + 1998)), nat_lit 27)) [] := by kernel_rfl
noncomputable def fo_sg10q : Nat := nat_lit 57321372114989580215837248633116083461759350764531949372279281064325174672879115294066067824852252673021951708053141159533883123136910628150832818429735975844200417543465234534331883664632759333826980516455473025431413883180173475792584676275881052741078491097118243648295496912665898053168105596181912150019654000549901846645383345341464596454299396183994846853787524600075371269520071110546271780768149272467078285228279908220624750856506585498260910595571439346177153825605200883732127803243720109108487277596778604455404436619662731899361789089348598481526654064274992261300697026400545572730284753135401680830457310394771034722957992658490448094065294271557693531141112079555763653996966656455450224697138901865929207584811749011708032223756723968759589697711570833534595185194651703635251041311891162692256346308576598814509270395940970123572969266677343709999856958204725780310099889048986345253733369654427874792263099184016265158396300635432986
theorem f_sg10q (w : World) (t1 : Nat) (its c : Array Value) (x0 x1 x2 x3 x4 x5 : Nat × Obj) (ob ob1 ob2 ob3 T0 T1 T2 T3 fr jr ow en : Obj) (B T tw0 tb0 tw1 tb1 tw2 tb2 : Nat) : FinE w (fun P => dOut P (t1 + 1998) its c [x0, x1, x2, x3, x4, x5] (dl ob T0 T1 T2 T3 fr jr (pipO (t1 + 1998) false) ow en) (B + 1488) (T + 1998) [aTk 4 tw0 ob1 ((B + 1488) + 2) (tb0 + 1998) (or1 4), aTk 1 tw1 ob2 ((B + 1488) + 11) (tb1 + 1998) (or2 1), aTk 0 tw2 ob3 ((B + 1488) + 29) (tb2 + 1998) fo_sg10q]) [] (fun P => some (.ok (.ret (.bool true)), dl ob3 T0 T1 T2 T3 fr jr (pipO (t1 + 1998) false) ow en, nat_lit 33, [(nat_lit 26, (B + 1488) + 29), (nat_lit 9, (B + 1488) + 11), (nat_lit 1, (B + 1488) + 2), (nat_lit 0, (B + 1488))], ((tb2 + 1998)), nat_lit 27)) [] := by kernel_rfl
noncomputable def fo_sg11p : Nat := nat_lit 29785620736788167655064525667070066343907553861374507339574762810637179974210694093303213556197191383147659323811020801098607253464974693351328113520908894243131832978240763621657768532489285942743516907757676286331014782632543330403592940364441115095701229862971984007768209929640482490711531792157763952330598720780663688301969234944781857814967052305380289220446633719598830524329744015683481949042882837795812024160860109449643519396358742653281973457414733766104121177675439636343412822818483353864691640330836323851251180022472735100335776042791398518588273249144906923500269222313753483445050438894515714754642252056187416745357756968185468564297390919025741348950069758934971126015364077145322834998654584253884588496831439673773224641058367291332025336666548953856398707033100709240574418051177205043587627653024909302898828890475364504102323899753737254090358119352065045282673076904853071357571670422024592844826
theorem f_sg11p (w : World) (t1 : Nat) (its c : Array Value) (x0 x1 x2 x3 x4 x5 : Nat × Obj) (ob ob1 ob2 ob3 T0 T1 T2 T3 fr jr ow en : Obj) (B T tw0 tb0 tw1 tb1 tw2 tb2 : Nat) : FinE w (fun P => dOut P (t1 + 1998) its c [x0, x1, x2, x3, x4, x5] (dl ob T0 T1 T2 T3 fr jr (pipO (t1 + 1998) true) ow en) (B + 1488) (T + 1998) [aTk 4 tw0 ob1 ((B + 1488) + 2) (tb0 + 1998) (or1 4), aTk 1 tw1 ob2 ((B + 1488) + 11) (tb1 + 1998) (or2 1), aTk 1 tw2 ob3 ((B + 1488) + 29) (tb2 + 1998) fo_sg11p]) [] (fun P => some (.ok (.ret (.bool true)), dl ob3 T0 T1 T2 T3 fr jr (pipO (t1 + 1998) true) ow en, nat_lit 33, [(nat_lit 26, (B + 1488) + 29), (nat_lit 9, (B + 1488) + 11), (nat_lit 1, (B + 1488) + 2), (nat_lit 0, (B + 1488))], ((tb2 + 1998)), nat_lit 26)) [] := by kernel_rfl
noncomputable def fo_sg11q : Nat := nat_lit 43123807425633568052717998762197319058084123335471925541815024074908063400455489723093502980799095450018914880452875022995289842615823271326627371862890183994981698954423482708261305183361882887004938370119268191713457615058580470803705014365061622766884470966491262413839186474538820653495975723977234173400001701412632429680944928570655495044508160768934113285711512663608591217768075866318285301632456121487614345408517450521746671831055751834025465032062133340681925606984854925236336809430390509424289513444358473043605059658840813662903403248883397420492314760565844964259148617196731817330135761052829279214179755847645601118160939517277519914374988785066190220630726879784902349971997321943543503526341916287161217980899939876307106659226974777716613489777718175873517797388118119369250104014117399511574641522932782149709557602651652528363696133722347370763074250082920238026050064552338650951134008500578330
theorem f_sg11q (w : World) (t1 : Nat) (its c : Array Value) (x0 x1 x2 x3 x4 x5 : Nat × Obj) (ob ob1 ob2 ob3 T0 T1 T2 T3 fr jr ow en : Obj) (B T tw0 tb0 tw1 tb1 tw2 tb2 : Nat) : FinE w (fun P => dOut P (t1 + 1998) its c [x0, x1, x2, x3, x4, x5] (dl ob T0 T1 T2 T3 fr jr (pipO (t1 + 1998) false) ow en) (B + 1488) (T + 1998) [aTk 4 tw0 ob1 ((B + 1488) + 2) (tb0 + 1998) (or1 4), aTk 1 tw1 ob2 ((B + 1488) + 11) (tb1 + 1998) (or2 1), aTk 1 tw2 ob3 ((B + 1488) + 29) (tb2 + 1998) fo_sg11q]) [] (fun P => some (.ok (.ret (.bool true)), dl ob3 T0 T1 T2 T3 fr jr (pipO (t1 + 1998) false) ow en, nat_lit 33, [(nat_lit 26, (B + 1488) + 29), (nat_lit 9, (B + 1488) + 11), (nat_lit 1, (B + 1488) + 2), (nat_lit 0, (B + 1488))], ((tb2 + 1998)), nat_lit 26)) [] := by kernel_rfl
end M9
end
section
open PySem PySem.W PySem.Calls PyProof.Rows PySem.Spec
namespace M9
noncomputable def fo_sb12f : Nat := nat_lit 17652980031864733700265266297800123720907388573803344750520572067996509732537119569411751437155619579905989876136051449557897825820777068709232288518728125890517131289400824497583528982341429810980032515977544474811461416461704970409128365562037520657516834271357048626905959188531066449913682690436708312395192923150286995235377866745117844063638112644285808116712909771595074772753293934100497841001532133420778365910291789510715568485965486150228004732416024671101812311440654469773434152315915918457847015539544722184234884187529020157812222718397505741390841233231683413207982209689508098780756103601800185116662417762369868553129082759201542783227825388957744232615462751565233040609404955119460705526805610445471733434433769689496338016765104657627118850681186073229914261886735004323456265606101443496781434293354587773691152346391756367437314219185301530
theorem f_sb12f (w : World) (t1 : Nat) (its c : Array Value) (x0 x1 x2 x3 x4 x5 : Nat × Obj) (ob ob1 ob2 ob3 T0 T1 T2 jr pi ow en : Obj) (B T tw0 tb0 tw1 tb1 tw2 tb2 : Nat) (es : List DictEntry) (n : Nat) (sl : Array (Option Value)) : FinE w (fun P => dOut P (t1 + 1998) its c [x0, x1, x2, x3, x4, x5] (dl ob T0 T1 T2 (nO []) (frO es n sl) jr pi ow en) (B + 1488) (T + 1998) [aTk 4 tw0 ob1 ((B + 1488) + 2) (tb0 + 1998) (or1 4), aTk 1 tw1 ob2 ((B + 1488) + 11) (tb1 + 1998) (or2 1), aTk 2 tw2 ob3 ((B + 1488) + 29) (tb2 + 1998) fo_sb12f]) [nat_lit 33] (fun P => some (.ok (.ret (.bool true)), dl ob3 T0 T1 T2 (tab_sb ((B + 1488) + 36)) (frO es n (mkN 1 sl)) jr pi ow en, nat_lit 47, [(nat_lit 26, (B + 1488) + 29), (nat_lit 9, (B + 1488) + 11), (nat_lit 1, (B + 1488) + 2), (nat_lit 0, (B + 1488))], ((tb2 + 1998)), nat_lit 20)) [some (cd5 ((B + 1488) + 31) (tb2 + 1998))] := by kernel_rfl
noncomputable def fo_sb12c : Nat := nat_lit 16440618812911895755925463789887841530989286092858151300363775406029550109558850125793136129671034375646297118060962372418915467280373580386684302404858464819459874728959882694465861072379575563485432185076638987305959204739780868608483284049898565055511272281311361991555170383494251723814659740055200408764602754219910479853125566290442272462739220130154357625435244003630954767920495630810384203503961809709694581332968856590648065735823271012735386162293741034883066252167199379161906634260947795720110321003654611032607545322359859391611850382615679904192482730082783338986618892279935840407884138027316621335740239563861721761993966615889141392774338366494968325349837700822497340106942962344743441284491062978058411663934436763264109315218226584058761540537113733600145300345180694620682556224969850206590454656845739858893404955532591639824459802
theorem f_sb12c (w : World) (t1 : Nat) (its c : Array Value) (x0 x1 x2 x3 x4 : Nat × Obj) (ob ob1 ob2 ob3 T0 T1 T2 jr pi ow en : Obj) (B T tw0 tb0 tw1 tb1 tw2 tb2 cb ct : Nat) (es : List DictEntry) (n : Nat) (sl : Array (Option Value)) : FinE w (fun P => dOut P (t1 + 1998) its c [x0, x1, x2, x3, x4, (cb + 5, cd5 cb ct)] (dl ob T0 T1 T2 (tab_sb (cb + 5)) (frO es n sl) jr pi ow en) (B + 1488) (T + 1998) [aTk 4 tw0 ob1 ((B + 1488) + 2) (tb0 + 1998) (or1 4), aTk 1 tw1 ob2 ((B + 1488) + 11) (tb1 + 1998) (or2 1), aTk 2 tw2 ob3 ((B + 1488) + 29) (tb2 + 1998) fo_sb12c]) [] (fun P => some (.ok (.ret (.bool true)), dl ob3 T0 T1 T2 (tab_sb (cb + 5)) (frO es n (mkN 1 sl)) jr pi ow en, nat_lit 41, [(nat_lit 26, (B + 1488) + 29), (nat_lit 9, (B + 1488) + 11), (nat_lit 1, (B + 1488) + 2), (nat_lit 0, (B + 1488))], ((tb2 + 1998)), nat_lit 13)) [] := by kernel_rfl
noncomputable def fo_sb13f : Nat := nat_lit 17652980031864733700265266297800123720907388573803344750520572067996509732537119569411751437155619579905989876136051449557897825820777068709232288518728125890517131289400824497583528982341429810980032515977544474811461416461704970409128365562037520657516834271357048626905959188531066449913682690436708312395192923150286995235377866745117844063638112644285808116712909771595074772753293934100497841001532133420778365910291789510715568485965486150228004732416024671101812311440654469773434152315915918457847015539544722184234884187529020157812222718397505741390841233231683413207982209689508098780756103601800185116662417762369868553129082759201542783227825388957744232615462751565233040609404955119460705526805610445471733434433769689496338016765104657627118850681186073229914261886735004323456265606101443496781434293354587773691152346391756367437314219185301530
theorem f_sb13f (w : World) (t1 : Nat) (its c : Array Value) (x0 x1 x2 x3 x4 x5 : Nat × Obj) (ob ob1 ob2 ob3 T0 T1 T2 jr pi ow en : Obj) (B T tw0 tb0 tw1 tb1 tw2 tb2 : Nat) (es : List DictEntry) (n : Nat) (sl : Array (Option Value)) : FinE w (fun P => dOut P (t1 + 1998) its c [x0, x1, x2, x3, x4, x5] (dl ob T0 T1 T2 (nO []) (frO es n sl) jr pi ow en) (B + 1488) (T + 1998) [aTk 4 tw0 ob1 ((B + 1488) + 2) (tb0 + 1998) (or1 4), aTk 1 tw1 ob2 ((B + 1488) + 11) (tb1 + 1998) (or2 1), aTk 3 tw2 ob3 ((B + 1488) + 29) (tb2 + 1998) fo_sb13f]) [nat_lit 33] (fun P => some (.ok (.ret (.bool true)), dl ob3 T0 T1 T2 (tab_sb ((B + 1488) + 36)) (frO es n (mkN 1 sl)) jr pi ow en, nat_lit 47, [(nat_lit 26, (B + 1488) + 29), (nat_lit 9, (B + 1488) + 11), (nat_lit 1, (B + 1488) + 2), (nat_lit 0, (B + 1488))], ((tb2 + 1998)), nat_lit 20)) [some (cd5 ((B + 1488) + 31) (tb2 + 1998))] := by kernel_rfl
noncomputable def fo_sb13c : Nat := nat_lit 16440618812911895755925463789887841530989286092858151300363775406029550109558850125793136129671034375646297118060962372418915467280373580386684302404858464819459874728959882694465861072379575563485432185076638987305959204739780868608483284049898565055511272281311361991555170383494251723814659740055200408764602754219910479853125566290442272462739220130154357625435244003630954767920495630810384203503961809709694581332968856590648065735823271012735386162293741034883066252167199379161906634260947795720110321003654611032607545322359859391611850382615679904192482730082783338986618892279935840407884138027316621335740239563861721761993966615889141392774338366494968325349837700822497340106942962344743441284491062978058411663934436763264109315218226584058761540537113733600145300345180694620682556224969850206590454656845739858893404955532591639824459802
theorem f_sb13c (w : World) (t1 : Nat) (its c : Array Value) (x0 x1 x2 x3 x4 : Nat × Obj) (ob ob1 ob2 ob3 T0 T1 T2 jr pi ow en : Obj) (B T tw0 tb0 tw1 tb1 tw2 tb2 cb ct : Nat) (es : List DictEntry) (n : Nat) (sl : Array (Option Value)) : FinE w (fun P => dOut P (t1 + 1998) its c [x0, x1, x2, x3, x4, (cb + 5, cd5 cb ct)] (dl ob T0 T1 T2 (tab_sb (cb + 5)) (frO es n sl) jr pi ow en) (B + 1488) (T + 1998) [aTk 4 tw0 ob1 ((B + 1488) + 2) (tb0 + 1998) (or1 4), aTk 1 tw1 ob2 ((B + 1488) + 11) (tb1 + 1998) (or2 1), aTk 3 tw2 ob3 ((B + 1488) + 29) (tb2 + 1998) fo_sb13c]) [] (fun P => some (.ok (.ret (.bool true)), dl ob3 T0 T1 T2 (tab_sb (cb + 5)) (frO es n (mkN 1 sl)) jr pi ow en, nat_lit 41, [(nat_lit 26, (B + 1488) + 29), (nat_lit 9, (B + 1488) + 11), (nat_lit 1, (B + 1488) + 2), (nat_lit 0, (B + 1488))], ((tb2 + 1998)), nat_lit 13)) [] := by kernel_rfl
noncomputable def fo_sb14f : Nat := nat_lit 17652980031864733700265266297800123720907388573803344750520572067996509732537119569411751437155619579905989876136051449557897825820777068709232288518728125890517131289400824497583528982341429810980032515977544474811461416461704970409128365562037520657516834271357048626905959188531066449913682690436708312395192923150286995235377866745117844063638112644285808116712909771595074772753293934100497841001532133420778365910291789510715568485965486150228004732416024671101812311440654469773434152315915918457847015539544722184234884187529020157812222718397505741390841233231683413207982209689508098780756103601800185116662417762369868553129082759201542783227825388957744232615462751565233040609404955119460705526805610445471733434433769689496338016765104657627118850681186073229914261886735004323456265606101443496781434293354587773691152346391756367437314219185301530
theorem f_sb14f (w : World) (t1 : Nat) (its c : Array Value) (x0 x1 x2 x3 x4 x5 : Nat × Obj) (ob ob1 ob2 ob3 T0 T1 T2 jr pi ow en : Obj) (B T tw0 tb0 tw1 tb1 tw2 tb2 : Nat) (es : List DictEntry) (n : Nat) (sl : Array (Option Value)) : FinE w (fun P => dOut P (t1 + 1998) its c [x0, x1, x2, x3, x4, x5] (dl ob T0 T1 T2 (nO []) (frO es n sl) jr pi ow en) (B + 1488) (T + 1998) [aTk 4 tw0 ob1 ((B + 1488) + 2) (tb0 + 1998) (or1 4), aTk 1 tw1 ob2 ((B + 1488) + 11) (tb1 + 1998) (or2 1), aTk 4 tw2 ob3 ((B + 1488) + 29) (tb2 + 1998) fo_sb14f]) [nat_lit 33] (fun P => some (.ok (.ret (.bool true)), dl ob3 T0 T1 T2 (tab_sb ((B + 1488) + 36)) (frO es n (mkN 1 sl)) jr pi ow en, nat_lit 47, [(nat_lit 26, (B + 1488) + 29), (nat_lit 9, (B + 1488) + 11), (nat_lit 1, (B + 1488) + 2), (nat_lit 0, (B + 1488))], ((tb2 + 1998)), nat_lit 20)) [some (cd5 ((B + 1488) + 31) (tb2 + 1998))] := by kernel_rfl
noncomputable def fo_sb14c : Nat := nat_lit 16440618812911895755925463789887841530989286092858151300363775406029550109558850125793136129671034375646297118060962372418915467280373580386684302404858464819459874728959882694465861072379575563485432185076638987305959204739780868608483284049898565055511272281311361991555170383494251723814659740055200408764602754219910479853125566290442272462739220130154357625435244003630954767920495630810384203503961809709694581332968856590648065735823271012735386162293741034883066252167199379161906634260947795720110321003654611032607545322359859391611850382615679904192482730082783338986618892279935840407884138027316621335740239563861721761993966615889141392774338366494968325349837700822497340106942962344743441284491062978058411663934436763264109315218226584058761540537113733600145300345180694620682556224969850206590454656845739858893404955532591639824459802
theorem f_sb14c (w : World) (t1 : Nat) (its c : Array Value) (x0 x1 x2 x3 x4 : Nat × Obj) (ob ob1 ob2 ob3 T0 T1 T2 jr pi ow en : Obj) (B T tw0 tb0 tw1 tb1 tw2 tb2 cb ct : Nat) (es : List DictEntry) (n : Nat) (sl : Array (Option Value)) : FinE w (fun P => dOut P (t1 + 1998) its c [x0, x1, x2, x3, x4, (cb + 5, cd5 cb ct)] (dl ob T0 T1 T2 (tab_sb (cb + 5)) (frO es n sl) jr pi ow en) (B + 1488) (T + 1998) [aTk 4 tw0 ob1 ((B + 1488) + 2) (tb0 + 1998) (or1 4), aTk 1 tw1 ob2 ((B + 1488) + 11) (tb1 + 1998) (or2 1), aTk 4 tw2 ob3 ((B + 1488) + 29) (tb2 + 1998) fo_sb14c]) [] (fun P => some (.ok (.ret (.bool true)), dl ob3 T0 T1 T2 (tab_sb (cb + 5)) (frO es n (mkN 1 sl)) jr pi ow en, nat_lit 41, [(nat_lit 26, (B + 1488) + 29), (nat_lit 9, (B + 1488) + 11), (nat_lit 1, (B + 1488) + 2), (nat_lit 0, (B + 1488))], ((tb2 + 1998)), nat_lit 13)) [] := by kernel_rfl
end M9
end
section
open PySem PySem.W PySem.Calls PyProof.Rows PySem.Spec
namespace M9
noncomputable def fo_en0f : Nat := nat_lit 260456371081098863001950776453171094510031728210255084908621021446043308471371821006377266324834960309735416858013511589436135180786879978851502832944676075056054867780450720142599237007420729902263286001766131639476193891280166100718973054040925313415989672231622607262596301933163797643167553836048360799786509522627935701069348546311543236054294523374519582836636291843927211579023080144051126180807042506592436052924786285313354200036171523039006289600375213972049637978364799195325397818634096384391731457516265106662072514899238751359387799642304545262220226674055935141942674950239491030977839889445847461110301272522456863977083063670485334666076002648214711526610552627427021436119042908934063935060540229361752665207861194420564867625313489199683923994961688539370559631068661247197747934346304497022366371366987987055039498580835396671899151506661443485562263212794277785329566831886789294397310057859589127881035641735037607395724922395321241930040774776592522213647005477204913605935984073164695652753450067570030217202613811345559392010569281956024159196125395879609524568578846055791661829642919726981727515416613112121605228095925844519476338951503907158072302824097740783467902581477714043725483818493214068641844526197763846916799217366666976612673186024446859252580817264864257500068660352447904011381733935983313115821556652327006354616389995085486738210501798939291669030529028038783469349651610049096064413639993329298330421190716678289198965128616496495443543598621315885253254706305645171907389986910071327288121793690007541268552208727605599984869933058984366490595588367751252415839984751099361998359791557156981624756420255566076999264212527780168327576716527678093795726709790190040155550380053697844459358059545421186590416776284011048447167549573642263305568734461532194132291034453477260194449238495781611800375293310470684855861438746608284476214893395611112353262755581338524653066902720026281226545308440427775090368629752014156039507477146863504029186902549820604856490813932099836871072851922561529423124608008533746066896207347574709665440311426249981263483892686386193153283279420217983353522193220490116690797755638265373331062587140803393442247794845221142759202209057103540257201948813982757067077405723931964511960345542371708556894549473209470274985034097444357400748505281754626060579696046836480495043902795694835370793122729147789823596640997687467189632753518431066776501097521753828939843490347618252198285913997678962395092792646440558988107419798127218700120993442899089131518677901083620940059356128841102603667459005968393287557541568394699163014242682612545255015965026359819176210724762724825007894766252980690875288567514076420428460747756163063528879111197636201313535414760383600194104226064258267972927283547077528445061940520913562018284983302530674232418147641642986378764967006619878180568498813311380820995685771923858228997795603479758002056928674371778207482320079638535900338980921096686953919070966902566296332149481661057643188659734168662027006743209784903976503459717617030471957571386227139451530485500479888374802271806301587339003139214597061919214304583356726581525012881009593761488882294130262010648972974085344295156402323244801222618701012776699888471669518758215057943090798666610990308666055406155388986995027339037820871300608445533437625758552521454912512
theorem f_en0f (w : World) (t1 : Nat) (its c : Array Value) (x0 x1 x2 x3 x4 x5 : Nat × Obj) (ob ob1 T0 T1 T3 jr pi ow en : Obj) (B T tw0 tb0 : Nat) (es : List DictEntry) (n : Nat) (sl : Array (Option Value)) : FinE w (fun P => dOut P (t1 + 1998) its c [x0, x1, x2, x3, x4, x5] (dl ob T0 T1 (nO []) T3 (frO es n sl) jr pi ow en) (B + 1488) (T + 1998) [aTk 3 tw0 ob1 ((B + 1488) + 2) (tb0 + 1998) fo_en0f]) [nat_lit 35] (fun P => some (.ok (.ret (.bool true)), dl ob1 T0 T1 (tab_en ((B + 1488) + 36)) T3 (frO es n (mkN 1 sl)) jr pi ow en, nat_lit 73, [(nat_lit 1, (B + 1488) + 2), (nat_lit 0, (B + 1488))], ((tb0 + 1998)), nat_lit 66)) [some (cd4 ((B + 1488) + 31) ((tb0 + 1998) + 22))] := by kernel_rfl
noncomputable def fo_en0c : Nat := nat_lit 242568898090253456497519068840842578531857338460152382179918263827707960407243443722457650551384127740812636496167302707654131756902754052751782271060687877289030281547530354235625686355538096874618811850864532244418580711310900850563212501972425408466332483570835420562853811545996497412472610170420963560381534458240898088029782698468790946068482994293769665698830974460255251609513900400310012850068462797443102184732962797826490840238716678381693396709413252037697055265923884025236452674291964285926148031474999009530770622471117051191881067333836695642678354871772740389160906708980299125272875777496068225691173339238457558257184211606181446507724450779909640130276061511960662408755274141279594658734457493419879606437748715992249975971781961558850453082265850077428919523000979406437702986411920378678796565913767259248531594756223963372918587673448121813214127733342352923900306215740983185669299302803034002079801101623792083488138339740809053629073399531046611353171989424562177705745083610554839355413288370640816900069330153712213985900785597611560194437470096324475923037837904124892046755382110894003560444312859381672052835891181163361376616528773650644463852267948921142517281480085966161530781731624681269990963789834023826192688403907244328795921380757880983502317927365305254446914337515384002811722481162145093681426020051888910263333451259460823446716841662542459618060043143353024202376890151748772755864018927752955789022994463356247172382732341385688989078238005127267515195816752252012298045650623269231008067528904854545375706716599373616090044922794961268149852158082444758461808300487373762149157330500174635785811720652407541150463280286904326403815411255025498211525378973004419472466036733529200294557143874356487491443309367255995794215092705564506495377007619301027377698271025765110415961190410275799149769402570612788622532834354971195850775645635214505418467921516187508071099129183305999876559022671795649602088164498978694873948852236150057834017807095366432650502630793040340846073349764309424787038239334627563102276584059105688344235192148897885630219648973455457084839281239201459385967661402400176017440829569087324613441790905446341543623356984546659695109031512970395317991314332267262337828622126303312604750120408832507207037020569117093616255542533511047657803890156614443183667744040110062823965618522040437149988741754979910828496614512728430904655411854357259385138966326843141771880837269895717084167552036946308030227191205351473349173073819604054556911083876195407987255188585718795641968806329628309995855166510232606824093454605475255193528530542171049195049108414023530274734039194601686825235715693023623388507985062700826901038819248544152694570116910349960892903835208203996215775625398069505947610216045122842350704194504454612922400123151674822529906224455964048039294220080551459536439152679292441405595309517935753498293701396492610856969854969543843913588587496063047883788386765764985485835829945016164980127675172504396178019951134389110509517718013390235075438371873062526167004848055598789400881987679036693973859386954954386169409949190364346556123598029161056067613641307799276960367251296771409863742888982025677507436915344385380697349820753301571409322027557656745305250815111994848987386128798870430337072909625226927899835437439755592998606601192448
theorem f_en0c (w : World) (t1 : Nat) (its c : Array Value) (x0 x1 x2 x3 x5 : Nat × Obj) (ob ob1 T0 T1 T3 jr pi ow en : Obj) (B T tw0 tb0 cb ct : Nat) (es : List DictEntry) (n : Nat) (sl : Array (Option Value)) : FinE w (fun P => dOut P (t1 + 1998) its c [x0, x1, x2, x3, (cb + 5, cd4 cb ct), x5] (dl ob T0 T1 (tab_en (cb + 5)) T3 (frO es n sl) jr pi ow en) (B + 1488) (T + 1998) [aTk 3 tw0 ob1 ((B + 1488) + 2) (tb0 + 1998) fo_en0c]) [] (fun P => some (.ok (.ret (.bool true)), dl ob1 T0 T1 (tab_en (cb + 5)) T3 (frO es n (mkN 1 sl)) jr pi ow en, nat_lit 67, [(nat_lit 1, (B + 1488) + 2), (nat_lit 0, (B + 1488))], ((tb0 + 1998)), nat_lit 59)) [] := by kernel_rfl
end M9
end
section
open PySem PySem.W PySem.Calls PyProof.Rows PySem.Spec
namespace M9
noncomputable def keysD : List Nat := [1346, 1292, 1299, 1306, 1313, 1339, 1359, 1382, 1476, 1480]
theorem lookD_dl {ob T0 T1 T2 T3 fr jr pi ow en : Obj} {a : Nat} : lookD (dl ob T0 T1 T2 T3 fr jr pi ow en) a = none ↔ a ∉ keysD := by
  unfold dl keysD
  simp only [lookD_cons, List.mem_cons, List.not_mem_nil, or_false, not_or]
  have : lookD [] a = none := rfl
  rw [this]
  constructor
  · intro h
    refine ⟨?_, ?_, ?_, ?_, ?_, ?_, ?_, ?_, ?_, ?_⟩ <;> (rintro rfl; revert h; simp)
  · rintro ⟨h1, h2, h3, h4, h5, h6, h7, h8, h9, h10⟩
    simp [Ne.symm h1, Ne.symm h2, Ne.symm h3, Ne.symm h4, Ne.symm h5, Ne.symm h6, Ne.symm h7, Ne.symm h8, Ne.symm h9, Ne.symm h10]
theorem lookW_keys {P : Params} {t1 : Nat} {its c : Array Value} {a : Nat} {o : Obj} (h : lookW P t1 its c a = some o) : a ∉ keysD := by
  intro hm
  simp only [keysD, List.mem_cons, List.not_mem_nil, or_false] at hm
  rcases hm with rfl | rfl | rfl | rfl | rfl | rfl | rfl | rfl | rfl | rfl <;> exact absurd (show (none : Option Obj) = some o from h) (by simp)
theorem lookD_setH {ob ob' T0 T1 T2 T3 fr jr pi ow en : Obj} : setH ob' (dl ob T0 T1 T2 T3 fr jr pi ow en) = dl ob' T0 T1 T2 T3 fr jr pi ow en := rfl
theorem lookD_dl_ne {ob ob' T0 T1 T2 T3 fr jr pi ow en : Obj} {a : Nat} (h : a ≠ 1346) : lookD (dl ob' T0 T1 T2 T3 fr jr pi ow en) a = lookD (dl ob T0 T1 T2 T3 fr jr pi ow en) a := by
  unfold dl
  rw [lookD_cons (nat_lit 1346, ob'), lookD_cons (nat_lit 1346, ob), if_neg (Ne.symm h), if_neg (Ne.symm h)]
theorem lookD_dl_1346 {ob T0 T1 T2 T3 fr jr pi ow en : Obj} : lookD (dl ob T0 T1 T2 T3 fr jr pi ow en) 1346 = some ob := rfl
noncomputable def PeelOk (w : World) (f : List (Code × Pos) → Option (Pos × List (Code × Pos))) : Prop := ∀ l q, f l = some (q, bD) → TkOk w l
theorem peel1_ok (w : World) : PeelOk w peel1 := by
  intro l q h
  unfold peel1 at h
  split at h
  · cases h; exact tkOk1 w _ _ _ _ _ _ _ _ _ _ _ _
  · cases h
theorem peel2_ok (w : World) : PeelOk w peel2 := by
  intro l q h
  unfold peel2 at h
  split at h
  · cases h; exact tkOk2 w _ _ _ _ _ _ _ _ _ _ _ _ _ _ _
  · cases h
theorem Rep.take {h₀ : Heap} {E : DL} {os : OsState} {dr : Drawn} {t1 : Nat} {sm k : Int} {tk m tb i : Nat} {bs : List (Nat × Nat)} {X : BT} {T0 T1 T2 T3 fr jr pi ow en : Obj} {s s' : Shared}
    (D : Rep h₀ E os dr ⟨dl (boxO t1 sm k tk) T0 T1 T2 T3 fr jr pi ow en, X, m, bs, tb, i⟩ s) (Z : TakeEnd t1 sm k s s') {tk' : Nat} (hb : s'.heap.get? 1346 = some (boxO t1 sm (k + 1) tk')) :
    Rep h₀ E os dr ⟨dl (boxO t1 sm (k + 1) tk') T0 T1 T2 T3 fr jr pi ow en, X, m, (m, adr bs m + 1) :: bs, s'.toks, 0⟩ s' := by
  obtain ⟨i0, b0, r0, hbs, hle⟩ := D.seg
  dsimp only at hbs hle
  have hsz : s.heap.objs.size = adr bs m := D.size
  have hsz' : s'.heap.objs.size = adr bs m + 1 := by rw [Z.size, hsz]
  have h13 : 1346 < h₀.objs.size := (D.D 1346 _ lookD_dl_1346).2
  have top : adr ((m, adr bs m + 1) :: bs) m = adr bs m + 1 := by rw [adr_seg (Nat.le_refl m)]; omega
  have old : ∀ j, j < m → adr ((m, adr bs m + 1) :: bs) j = adr bs j := fun j hj => adr_old hj
  have keep : ∀ a o, a ≠ 1346 → s.heap.get? a = some o → s'.heap.get? a = some o := Z.keep
  refine ⟨hsz'.trans top.symm, ⟨m, _, bs, rfl, Nat.le_refl m⟩, fun a b h1 h2 => ?_, fun j hj => ?_, fun j hj => ?_, fun j o hj => ?_, fun a o h => ?_, fun a o h1 h2 => ?_, (Nat.add_zero _).symm, Z.gens, Z.os.trans D.os, Z.dr.trans D.dr, fun x hx => ?_⟩
  · have h2 : b ≤ m := h2
    show adr ((m, adr bs m + 1) :: bs) a ≠ adr ((m, adr bs m + 1) :: bs) b
    rw [old a (Nat.lt_of_lt_of_le h1 h2)]
    have ha : adr bs a < s.heap.objs.size := D.bnd a (Nat.lt_of_lt_of_le h1 h2)
    by_cases q : b = m
    · subst q; rw [top]; omega
    · rw [old b (Nat.lt_of_le_of_ne h2 q)]; exact D.inj a b h1 h2
  · have hj : j < m := hj
    show adr ((m, adr bs m + 1) :: bs) j < s'.heap.objs.size
    rw [old j hj, hsz']
    have : adr bs j < s.heap.objs.size := D.bnd j hj
    omega
  · have hj : j ≤ m := hj
    show h₀.objs.size ≤ adr ((m, adr bs m + 1) :: bs) j
    by_cases q : j = m
    · subst q; rw [top]
      have : h₀.objs.size ≤ adr bs j := D.low j (Nat.le_refl _)
      omega
    · rw [old j (Nat.lt_of_le_of_ne hj q)]; exact D.low j hj
  · have z := D.own j o hj
    have z1 : j < m := z.1
    have z2 : s.heap.get? (adr bs j) = some o := z.2
    refine ⟨z1, ?_⟩
    show s'.heap.get? (adr ((m, adr bs m + 1) :: bs) j) = some o
    rw [old j z1]
    have : h₀.objs.size ≤ adr bs j := D.low j (Nat.le_of_lt z1)
    exact keep _ _ (fun q => by rw [q] at this; omega) z2
  · have h : lookD (dl (boxO t1 sm (k + 1) tk') T0 T1 T2 T3 fr jr pi ow en) a = some o := h
    by_cases q : a = 1346
    · subst q
      rw [lookD_dl_1346] at h
      cases h
      exact ⟨hb, h13⟩
    · rw [lookD_dl_ne (ob := boxO t1 sm k tk) q] at h
      have z := D.D a o h
      exact ⟨keep _ _ q z.1, z.2⟩
  · have h2 : lookD (dl (boxO t1 sm (k + 1) tk') T0 T1 T2 T3 fr jr pi ow en) a = none := h2
    have q : a ≠ 1346 := by rintro rfl; rw [lookD_dl_1346] at h2; cases h2
    rw [lookD_dl_ne (ob := boxO t1 sm k tk) q] at h2
    exact keep _ _ q (D.keep a o h1 h2)
  · have z := D.ext x hx
    refine ⟨z.1, ?_⟩
    have q := z.2
    exact lookD_dl.mpr (lookD_dl.mp q)
theorem tk_win {w : World} {h₀ : Heap} {E : DL} {os : OsState} {dr : Drawn} {R : Result → Shared → Prop} {F : List Ans → Out} {f : List (Code × Pos) → Option (Pos × List (Code × Pos))} (hf : PeelOk w f)
    {o : Params → Out} {mn : Int} {tm : Nat} {p : Pos} {t1 : Nat} {its c : Array Value} {sm k : Int} {tk m tb i : Nat} {bs : List (Nat × Nat)} {T0 T1 T2 T3 fr jr pi ow en : Obj}
    (e : TkE w f o mn tm p (dl (boxO (t1 + 1998) sm k tk) T0 T1 T2 T3 fr jr pi ow en) m bs tb i) (ho : F [] = o w.params)
    (hst : ∀ a o, lookW w.params (t1 + 1998) its c a = some o → h₀.get? a = some o) (hc : ∀ (i : Nat), i < c.size → ∃ x tx, c[i]? = some (.int x tx)) (hsz : c.size ≤ 1000)
    (hk : 0 ≤ k) (hk2 : k < 2 ^ 63) (htb : 1998 ≤ tb) (hmn : 0 < mn) (orcs : Int → Nat) (Bn : Nat) (hB : adr bs m + 1 = Bn)
    (y : ∀ way tw tk' tb', 0 ≤ way → way < mn → Win (model M9.tw w) h₀ E os dr R fun as => F (aTk way tw (boxO (t1 + 1998) sm (k + 1) tk') Bn (tb' + 1998) (orcs way) :: as)) :
    Win (model M9.tw w) h₀ E os dr R F := by
  have e1 : vT f (o w.params) = _ := congrArg Prod.fst e
  have e2 : vA (o w.params) = vB (o w.params) := congrArg Prod.snd e
  rw [← ho] at e1 e2
  generalize hF : F [] = out at e1 e2
  cases out with
  | need tg c0 g p' h b =>
    obtain ⟨D', X', m', bs', tb', i'⟩ := h
    have e1 := Option.some.inj e1
    simp only [Prod.mk.injEq] at e1
    obtain ⟨rfl, q2, q3, q4, q5, rfl, q7, rfl, rfl, rfl, rfl, rfl⟩ := e1
    obtain ⟨gc, gh, go, gb, gp⟩ := g
    dsimp only at q2 q3 q4 q5 q7
    subst q2 q3 q4 q5
    refine .need hF ⟨congrArg Prod.fst e2, congrArg Prod.snd e2⟩ (fun a => ∃ way tw tk' tb', a = aTk way tw (boxO (t1 + 1998) sm (k + 1) tk') Bn (tb' + 1998) (orcs way) ∧ 0 ≤ way ∧ way < mn) (fun s D => ?_) ?_
    · have hks : ∀ a o, lookW w.params (t1 + 1998) its c a = some o → s.heap.get? a = some o := fun a o h => D.keep a o (hst a o h) (lookD_dl.mpr (lookW_keys h))
      refine wpCode_mono (take_wp (hf _ _ q7) hks (D.D 1346 _ lookD_dl_1346).1 D.gens hc hsz hk hk2 hmn) fun r s' h => ?_
      obtain ⟨mm, tm', rfl, h0, h1, Z⟩ := h
      obtain ⟨tk', hb⟩ := Z.box
      have htk : s.toks = tb' + i' := D.toks
      obtain ⟨tq, htq⟩ : ∃ tq, s'.toks = tq + 1998 := ⟨s'.toks - 1998, by have := Z.toks; omega⟩
      refine ⟨_, rfl, ⟨mm, tm', tk', tq, rfl, h0, h1⟩, ?_⟩
      have z := D.take Z hb
      rw [hB, htq] at z
      exact z
    · rintro _ ⟨way, tw, tk', tb', rfl, h0, h1⟩
      exact y way tw tk' tb' h0 h1
  | _ => cases e1
end M9
end
section
open PySem PySem.W PySem.Calls PyProof.Rows PySem.Spec
namespace M9
structure WS where
  k : Int
  tk : Nat
  T0 : Obj
  T1 : Obj
  T2 : Obj
  T3 : Obj
  es : List DictEntry
  n : Nat
  sl : Array (Option Value)
  jt : Nat
  er : Bool
  ew : Bool
  x0 : Nat × Obj
  x1 : Nat × Obj
  x2 : Nat × Obj
  x3 : Nat × Obj
  x4 : Nat × Obj
  x5 : Nat × Obj
noncomputable def WS.D (σ : WS) (P : Params) (t1 : Nat) (sm : Int) : DL := dl (boxO (t1 + 1998) sm σ.k σ.tk) σ.T0 σ.T1 σ.T2 σ.T3 (frO σ.es σ.n σ.sl) (jrO P (t1 + 1998) σ.jt) (pipO (t1 + 1998) (σ.er || σ.ew)) (ownO P (t1 + 1998) σ.er σ.ew) (endO σ.er σ.ew)
noncomputable def WS.E (σ : WS) : DL := [σ.x0, σ.x1, σ.x2, σ.x3, σ.x4, σ.x5]
noncomputable def At (h : Heap) (x : Nat × Obj) : Prop := h.get? x.1 = some x.2 ∧ x.1 ∉ keysD ∧ x.1 ≠ 1487
structure Tb (T0 T1 T2 T3 : Obj) (x0 x1 x2 x3 x4 x5 : Nat × Obj) : Prop where
  ca : T0 = nO [] ∨ ∃ cb ct, T0 = tab_ca (cb + 5) ∧ x0 = (cb + 5, cd0 cb ct) ∧ x1 = (cb + 1, cd1 cb) ∧ x2 = (cb + 15, cd2 cb ct)
  wr : T1 = nO [] ∨ ∃ cb ct, T1 = tab_wr (cb + 5) ∧ x3 = (cb + 5, cd3 cb ct)
  en : T2 = nO [] ∨ ∃ cb ct, T2 = tab_en (cb + 5) ∧ x4 = (cb + 5, cd4 cb ct)
  sb : T3 = nO [] ∨ ∃ cb ct, T3 = tab_sb (cb + 5) ∧ x5 = (cb + 5, cd5 cb ct)
structure Inv (w : World) (t1 : Nat) (its c : Array Value) (sm : Int) (σ : WS) (s : Shared) : Prop where
  st : ∀ a o, lookW w.params (t1 + 1998) its c a = some o → s.heap.get? a = some o
  sz : 1488 ≤ s.heap.objs.size
  tk : 1998 ≤ s.toks
  gens : s.gens = #[]
  D : ∀ a o, lookD (σ.D w.params t1 sm) a = some o → s.heap.get? a = some o
  e0 : At s.heap σ.x0
  e1 : At s.heap σ.x1
  e2 : At s.heap σ.x2
  e3 : At s.heap σ.x3
  e4 : At s.heap σ.x4
  e5 : At s.heap σ.x5
  tb : Tb σ.T0 σ.T1 σ.T2 σ.T3 σ.x0 σ.x1 σ.x2 σ.x3 σ.x4 σ.x5
  k0 : 0 ≤ σ.k
structure Nxt (s s' : Shared) : Prop where
  keep : ∀ a o, a ∉ keysD → s.heap.get? a = some o → s'.heap.get? a = some o
  size : s.heap.objs.size ≤ s'.heap.objs.size
  os : s'.os = s.os
  dr : s'.drawn = s.drawn
noncomputable def RD (w : World) (t1 : Nat) (its c : Array Value) (sm : Int) (σ : WS) (s : Shared) : Result → Shared → Prop := fun r s' =>
  r = .ok (.ret (.bool true)) ∧ ∃ σ', Inv w t1 its c sm σ' s' ∧ σ'.k ≤ σ.k + 3 ∧ σ'.es = σ.es ∧ σ'.n = σ.n ∧ Nxt s s'
theorem keysD_lt {a : Nat} (h : a ∈ keysD) : a < 1488 := by
  simp only [keysD, List.mem_cons, List.not_mem_nil, or_false] at h
  omega
noncomputable def Cell (h : Heap) (o : Out) (bs : List (Nat × Nat)) (y : Nat × Obj) : Prop := At h y ∨ ∃ ix, (outX o).get ix = some y.2 ∧ adr bs ix = y.1
section
variable {w : World} {t1 : Nat} {its c : Array Value} {sm : Int} {σ : WS} {s : Shared}
theorem fin_win (I : Inv w t1 its c sm σ s) (σ' : WS) {o : Params → Out} {l : List Nat} {x : Params → Option (Result × DL × Nat × List (Nat × Nat) × Nat × Nat)} {v : List (Option Obj)} {F : List Ans → Out} {m tb i : Nat} {bs : List (Nat × Nat)}
    (e : FinE w o l x v) (hF : F [] = o w.params) (hx : x w.params = some (.ok (.ret (.bool true)), σ'.D w.params t1 sm, m, bs, tb + 1998, i))
    (hk : σ'.k ≤ σ.k + 3) (hk0 : 0 ≤ σ'.k) (he : σ'.es = σ.es) (hn : σ'.n = σ.n) (ht : Tb σ'.T0 σ'.T1 σ'.T2 σ'.T3 σ'.x0 σ'.x1 σ'.x2 σ'.x3 σ'.x4 σ'.x5)
    (h0 : Cell s.heap (o w.params) bs σ'.x0) (h1 : Cell s.heap (o w.params) bs σ'.x1) (h2 : Cell s.heap (o w.params) bs σ'.x2) (h3 : Cell s.heap (o w.params) bs σ'.x3) (h4 : Cell s.heap (o w.params) bs σ'.x4) (h5 : Cell s.heap (o w.params) bs σ'.x5) :
    Win (model M9.tw w) s.heap σ.E s.os s.drawn (RD w t1 its c sm σ s) F := by
  have q1 : vFin (o w.params) = x w.params := congrArg Prod.fst e
  have q2 : vA (o w.params) = vB (o w.params) := congrArg (fun z => z.2.2) e
  rw [hx] at q1
  rw [← hF] at q1 q2 h0 h1 h2 h3 h4 h5
  refine Win.fin' q1 q2 fun s' R => ?_
  have kp : ∀ a o, a ∉ keysD → s.heap.get? a = some o → s'.heap.get? a = some o := fun a o h1 h2 => R.keep a o h2 (lookD_dl.mpr h1)
  have cell : ∀ y, Cell s.heap (F []) bs y → At s'.heap y := by
    rintro y (hy | ⟨ix, hy1, hy2⟩)
    · exact ⟨kp _ _ hy.2.1 hy.1, hy.2⟩
    · have z := R.own ix y.2 hy1
      have z1 : ix < m := z.1
      have z2 : s'.heap.get? (adr bs ix) = some y.2 := z.2
      have z3 : s.heap.objs.size ≤ adr bs ix := R.low ix (Nat.le_of_lt z1)
      rw [hy2] at z2 z3
      have q := I.sz
      refine ⟨z2, fun hm => ?_, fun hm => ?_⟩
      · have := keysD_lt hm
        omega
      · omega
  have hsz : s.heap.objs.size ≤ s'.heap.objs.size := by
    have a1 : s.heap.objs.size ≤ adr bs m := R.low m (Nat.le_refl m)
    have a2 : s'.heap.objs.size = adr bs m := R.size
    omega
  refine ⟨rfl, σ', ⟨fun a o h => kp a o (lookW_keys h) (I.st a o h), Nat.le_trans I.sz hsz, ?_, R.gens, fun a o h => (R.D a o h).1, cell _ h0, cell _ h1, cell _ h2, cell _ h3, cell _ h4, cell _ h5, ht, hk0⟩, hk, he, hn, kp, hsz, R.os, R.dr⟩
  have : s'.toks = (tb + 1998) + i := R.toks
  omega
end
theorem vX1 {o : Out} {i : Nat} {a : Obj} (h : vX [i] o = [some a]) : (outX o).get i = some a := (List.cons.inj h).1
theorem vX3 {o : Out} {i j k : Nat} {a b d : Obj} (h : vX [i, j, k] o = [some a, some b, some d]) : (outX o).get i = some a ∧ (outX o).get j = some b ∧ (outX o).get k = some d := by
  have h1 := List.cons.inj h
  have h2 := List.cons.inj h1.2
  exact ⟨h1.1, h2.1, (List.cons.inj h2.2).1⟩
noncomputable def pk : List Nat → Nat → Nat
  | [], _ => 0
  | x :: _, 0 => x
  | _ :: l, n + 1 => pk l n
structure Cells (c : Array Value) : Prop where
  isInt : ∀ (i : Nat), i < c.size → ∃ x tx, c[i]? = some (.int x tx)
  size : c.size ≤ 1000
end M9
end
section
open PySem PySem.W PySem.Calls PyProof.Rows PySem.Spec
namespace M9
section
variable {w : World} {t1 : Nat} {its c : Array Value} {sm : Int} (σ : WS) {s : Shared} (I : Inv w t1 its c sm σ s) (hc : Cells c) (hk2 : σ.k < 2 ^ 60) (B T : Nat)
include I hc hk2
theorem wi_ca0 (tw0 tk1 tb0 : Nat) : Win (model M9.tw w) s.heap σ.E s.os s.drawn (RD w t1 its c sm σ s) (fun as => dOut w.params (t1 + 1998) its c σ.E (σ.D w.params t1 sm) (B + 1488) (T + 1998) (aTk 0 tw0 (boxO (t1 + 1998) sm (σ.k + 1) tk1) ((B + 1488) + 2) (tb0 + 1998) (or1 0) :: as)) := by
  obtain ⟨k, tk, T0, T1, T2, T3, es, n, sl, jt, er, ew, x0, x1, x2, x3, x4, x5⟩ := σ
  have ht := I.tb
  have k0 : 0 ≤ k := I.k0
  dsimp only at ht hk2
  rcases ht.ca with rfl | ⟨cb, ct, rfl, rfl, rfl, rfl⟩
  · refine tk_win (peel2_ok w) (n1_0 w t1 its c x0 x1 x2 x3 x4 x5 (boxO (t1 + 1998) sm k tk) (boxO (t1 + 1998) sm (k + 1) tk1) (nO []) T1 T2 T3 (frO es n sl) (jrO w.params (t1 + 1998) jt) (pipO (t1 + 1998) (er || ew)) (ownO w.params (t1 + 1998) er ew) (endO er ew) B T tw0 tb0) rfl I.st hc.isInt hc.size (by omega) (by omega) (by omega) (by decide) (fun y => pk [fo_ca00f, fo_ca01f, fo_ca02f, fo_ca03f, fo_ca04f] y.toNat) _ rfl fun way tw1 tk2 tb1 h0 h1 => ?_
    rcases (by omega : way = 0 ∨ way = 1 ∨ way = 2 ∨ way = 3 ∨ way = 4) with rfl | rfl | rfl | rfl | rfl
    · have e := f_ca00f w t1 its c x0 x1 x2 x3 x4 x5 (boxO (t1 + 1998) sm k tk) (boxO (t1 + 1998) sm (k + 1) tk1) (boxO (t1 + 1998) sm (k + 1 + 1) tk2) T1 T2 T3 (pipO (t1 + 1998) (er || ew)) (ownO w.params (t1 + 1998) er ew) (endO er ew) B T tw0 tb0 tw1 tb1 jt es n sl
      exact fin_win I ⟨(k + 1 + 1), tk2, (tab_ca (((B + 1488) + 8) + 5)), T1, T2, T3, es, n, (mkN 0 sl), ((tb1 + 1998) + 47), er, ew, (((B + 1488) + 8) + 5, cd0 ((B + 1488) + 8) (tb1 + 1998)), (((B + 1488) + 8) + 1, cd1 ((B + 1488) + 8)), (((B + 1488) + 8) + 15, cd2 ((B + 1488) + 8) (tb1 + 1998)), x3, x4, x5⟩ e rfl rfl (by dsimp only; omega) (by dsimp only; omega) rfl rfl ⟨.inr ⟨((B + 1488) + 8), (tb1 + 1998), rfl, rfl, rfl, rfl⟩, ht.wr, ht.en, ht.sb⟩ (.inr ⟨nat_lit 11, (vX3 (congrArg (fun z => z.2.1) e)).1, rfl⟩) (.inr ⟨nat_lit 7, (vX3 (congrArg (fun z => z.2.1) e)).2.1, rfl⟩) (.inr ⟨nat_lit 21, (vX3 (congrArg (fun z => z.2.1) e)).2.2, rfl⟩) (.inl I.e3) (.inl I.e4) (.inl I.e5)
    · have e := f_ca01f w t1 its c x0 x1 x2 x3 x4 x5 (boxO (t1 + 1998) sm k tk) (boxO (t1 + 1998) sm (k + 1) tk1) (boxO (t1 + 1998) sm (k + 1 + 1) tk2) T1 T2 T3 (pipO (t1 + 1998) (er || ew)) (ownO w.params (t1 + 1998) er ew) (endO er ew) B T tw0 tb0 tw1 tb1 jt es n sl
      exact fin_win I ⟨(k + 1 + 1), tk2, (tab_ca (((B + 1488) + 8) + 5)), T1, T2, T3, es, n, (mkN 1 sl), ((tb1 + 1998) + 52), er, ew, (((B + 1488) + 8) + 5, cd0 ((B + 1488) + 8) (tb1 + 1998)), (((B + 1488) + 8) + 1, cd1 ((B + 1488) + 8)), (((B + 1488) + 8) + 15, cd2 ((B + 1488) + 8) (tb1 + 1998)), x3, x4, x5⟩ e rfl rfl (by dsimp only; omega) (by dsimp only; omega) rfl rfl ⟨.inr ⟨((B + 1488) + 8), (tb1 + 1998), rfl, rfl, rfl, rfl⟩, ht.wr, ht.en, ht.sb⟩ (.inr ⟨nat_lit 11, (vX3 (congrArg (fun z => z.2.1) e)).1, rfl⟩) (.inr ⟨nat_lit 7, (vX3 (congrArg (fun z => z.2.1) e)).2.1, rfl⟩) (.inr ⟨nat_lit 21, (vX3 (congrArg (fun z => z.2.1) e)).2.2, rfl⟩) (.inl I.e3) (.inl I.e4) (.inl I.e5)
    · have e := f_ca02f w t1 its c x0 x1 x2 x3 x4 x5 (boxO (t1 + 1998) sm k tk) (boxO (t1 + 1998) sm (k + 1) tk1) (boxO (t1 + 1998) sm (k + 1 + 1) tk2) T1 T2 T3 (pipO (t1 + 1998) (er || ew)) (ownO w.params (t1 + 1998) er ew) (endO er ew) B T tw0 tb0 tw1 tb1 jt es n sl
      exact fin_win I ⟨(k + 1 + 1), tk2, (tab_ca (((B + 1488) + 8) + 5)), T1, T2, T3, es, n, (mkN 1 sl), ((tb1 + 1998) + 52), er, ew, (((B + 1488) + 8) + 5, cd0 ((B + 1488) + 8) (tb1 + 1998)), (((B + 1488) + 8) + 1, cd1 ((B + 1488) + 8)), (((B + 1488) + 8) + 15, cd2 ((B + 1488) + 8) (tb1 + 1998)), x3, x4, x5⟩ e rfl rfl (by dsimp only; omega) (by dsimp only; omega) rfl rfl ⟨.inr ⟨((B + 1488) + 8), (tb1 + 1998), rfl, rfl, rfl, rfl⟩, ht.wr, ht.en, ht.sb⟩ (.inr ⟨nat_lit 11, (vX3 (congrArg (fun z => z.2.1) e)).1, rfl⟩) (.inr ⟨nat_lit 7, (vX3 (congrArg (fun z => z.2.1) e)).2.1, rfl⟩) (.inr ⟨nat_lit 21, (vX3 (congrArg (fun z => z.2.1) e)).2.2, rfl⟩) (.inl I.e3) (.inl I.e4) (.inl I.e5)
    · have e := f_ca03f w t1 its c x0 x1 x2 x3 x4 x5 (boxO (t1 + 1998) sm k tk) (boxO (t1 + 1998) sm (k + 1) tk1) (boxO (t1 + 1998) sm (k + 1 + 1) tk2) T1 T2 T3 (pipO (t1 + 1998) (er || ew)) (ownO w.params (t1 + 1998) er ew) (endO er ew) B T tw0 tb0 tw1 tb1 jt es n sl
      exact fin_win I ⟨(k + 1 + 1), tk2, (tab_ca (((B + 1488) + 8) + 5)), T1, T2, T3, es, n, (mkN 1 sl), ((tb1 + 1998) + 52), er, ew, (((B + 1488) + 8) + 5, cd0 ((B + 1488) + 8) (tb1 + 1998)), (((B + 1488) + 8) + 1, cd1 ((B + 1488) + 8)), (((B + 1488) + 8) + 15, cd2 ((B + 1488) + 8) (tb1 + 1998)), x3, x4, x5⟩ e rfl rfl (by dsimp only; omega) (by dsimp only; omega) rfl rfl ⟨.inr ⟨((B + 1488) + 8), (tb1 + 1998), rfl, rfl, rfl, rfl⟩, ht.wr, ht.en, ht.sb⟩ (.inr ⟨nat_lit 11, (vX3 (congrArg (fun z => z.2.1) e)).1, rfl⟩) (.inr ⟨nat_lit 7, (vX3 (congrArg (fun z => z.2.1) e)).2.1, rfl⟩) (.inr ⟨nat_lit 21, (vX3 (congrArg (fun z => z.2.1) e)).2.2, rfl⟩) (.inl I.e3) (.inl I.e4) (.inl I.e5)
    · have e := f_ca04f w t1 its c x0 x1 x2 x3 x4 x5 (boxO (t1 + 1998) sm k tk) (boxO (t1 + 1998) sm (k + 1) tk1) (boxO (t1 + 1998) sm (k + 1 + 1) tk2) T1 T2 T3 (pipO (t1 + 1998) (er || ew)) (ownO w.params (t1 + 1998) er ew) (endO er ew) B T tw0 tb0 tw1 tb1 jt es n sl
      exact fin_win I ⟨(k + 1 + 1), tk2, (tab_ca (((B + 1488) + 8) + 5)), T1, T2, T3, es, n, (mkN 1 sl), ((tb1 + 1998) + 52), er, ew, (((B + 1488) + 8) + 5, cd0 ((B + 1488) + 8) (tb1 + 1998)), (((B + 1488) + 8) + 1, cd1 ((B + 1488) + 8)), (((B + 1488) + 8) + 15, cd2 ((B + 1488) + 8) (tb1 + 1998)), x3, x4, x5⟩ e rfl rfl (by dsimp only; omega) (by dsimp only; omega) rfl rfl ⟨.inr ⟨((B + 1488) + 8), (tb1 + 1998), rfl, rfl, rfl, rfl⟩, ht.wr, ht.en, ht.sb⟩ (.inr ⟨nat_lit 11, (vX3 (congrArg (fun z => z.2.1) e)).1, rfl⟩) (.inr ⟨nat_lit 7, (vX3 (congrArg (fun z => z.2.1) e)).2.1, rfl⟩) (.inr ⟨nat_lit 21, (vX3 (congrArg (fun z => z.2.1) e)).2.2, rfl⟩) (.inl I.e3) (.inl I.e4) (.inl I.e5)
  · refine tk_win (peel2_ok w) (n1_0 w t1 its c (cb + 5, cd0 cb ct) (cb + 1, cd1 cb) (cb + 15, cd2 cb ct) x3 x4 x5 (boxO (t1 + 1998) sm k tk) (boxO (t1 + 1998) sm (k + 1) tk1) (tab_ca (cb + 5)) T1 T2 T3 (frO es n sl) (jrO w.params (t1 + 1998) jt) (pipO (t1 + 1998) (er || ew)) (ownO w.params (t1 + 1998) er ew) (endO er ew) B T tw0 tb0) rfl I.st hc.isInt hc.size (by omega) (by omega) (by omega) (by decide) (fun y => pk [fo_ca00c, fo_ca01c, fo_ca02c, fo_ca03c, fo_ca04c] y.toNat) _ rfl fun way tw1 tk2 tb1 h0 h1 => ?_
    rcases (by omega : way = 0 ∨ way = 1 ∨ way = 2 ∨ way = 3 ∨ way = 4) with rfl | rfl | rfl | rfl | rfl
    · have e := f_ca00c w t1 its c x3 x4 x5 (boxO (t1 + 1998) sm k tk) (boxO (t1 + 1998) sm (k + 1) tk1) (boxO (t1 + 1998) sm (k + 1 + 1) tk2) T1 T2 T3 (pipO (t1 + 1998) (er || ew)) (ownO w.params (t1 + 1998) er ew) (endO er ew) B T tw0 tb0 tw1 tb1 cb ct jt es n sl
      exact fin_win I ⟨(k + 1 + 1), tk2, (tab_ca (cb + 5)), T1, T2, T3, es, n, (mkN 0 sl), ((tb1 + 1998) + 34), er, ew, (cb + 5, cd0 cb ct), (cb + 1, cd1 cb), (cb + 15, cd2 cb ct), x3, x4, x5⟩ e rfl rfl (by dsimp only; omega) (by dsimp only; omega) rfl rfl ⟨.inr ⟨cb, ct, rfl, rfl, rfl, rfl⟩, ht.wr, ht.en, ht.sb⟩ (.inl I.e0) (.inl I.e1) (.inl I.e2) (.inl I.e3) (.inl I.e4) (.inl I.e5)
    · have e := f_ca01c w t1 its c x3 x4 x5 (boxO (t1 + 1998) sm k tk) (boxO (t1 + 1998) sm (k + 1) tk1) (boxO (t1 + 1998) sm (k + 1 + 1) tk2) T1 T2 T3 (pipO (t1 + 1998) (er || ew)) (ownO w.params (t1 + 1998) er ew) (endO er ew) B T tw0 tb0 tw1 tb1 cb ct jt es n sl
      exact fin_win I ⟨(k + 1 + 1), tk2, (tab_ca (cb + 5)), T1, T2, T3, es, n, (mkN 1 sl), ((tb1 + 1998) + 39), er, ew, (cb + 5, cd0 cb ct), (cb + 1, cd1 cb), (cb + 15, cd2 cb ct), x3, x4, x5⟩ e rfl rfl (by dsimp only; omega) (by dsimp only; omega) rfl rfl ⟨.inr ⟨cb, ct, rfl, rfl, rfl, rfl⟩, ht.wr, ht.en, ht.sb⟩ (.inl I.e0) (.inl I.e1) (.inl I.e2) (.inl I.e3) (.inl I.e4) (.inl I.e5)
    · have e := f_ca02c w t1 its c x3 x4 x5 (boxO (t1 + 1998) sm k tk) (boxO (t1 + 1998) sm (k + 1) tk1) (boxO (t1 + 1998) sm (k + 1 + 1) tk2) T1 T2 T3 (pipO (t1 + 1998) (er || ew)) (ownO w.params (t1 + 1998) er ew) (endO er ew) B T tw0 tb0 tw1 tb1 cb ct jt es n sl
      exact fin_win I ⟨(k + 1 + 1), tk2, (tab_ca (cb + 5)), T1, T2, T3, es, n, (mkN 1 sl), ((tb1 + 1998) + 39), er, ew, (cb + 5, cd0 cb ct), (cb + 1, cd1 cb), (cb + 15, cd2 cb ct), x3, x4, x5⟩ e rfl rfl (by dsimp only; omega) (by dsimp only; omega) rfl rfl ⟨.inr ⟨cb, ct, rfl, rfl, rfl, rfl⟩, ht.wr, ht.en, ht.sb⟩ (.inl I.e0) (.inl I.e1) (.inl I.e2) (.inl I.e3) (.inl I.e4) (.inl I.e5)
    · have e := f_ca03c w t1 its c x3 x4 x5 (boxO (t1 + 1998) sm k tk) (boxO (t1 + 1998) sm (k + 1) tk1) (boxO (t1 + 1998) sm (k + 1 + 1) tk2) T1 T2 T3 (pipO (t1 + 1998) (er || ew)) (ownO w.params (t1 + 1998) er ew) (endO er ew) B T tw0 tb0 tw1 tb1 cb ct jt es n sl
      exact fin_win I ⟨(k + 1 + 1), tk2, (tab_ca (cb + 5)), T1, T2, T3, es, n, (mkN 1 sl), ((tb1 + 1998) + 39), er, ew, (cb + 5, cd0 cb ct), (cb + 1, cd1 cb), (cb + 15, cd2 cb ct), x3, x4, x5⟩ e rfl rfl (by dsimp only; omega) (by dsimp only; omega) rfl rfl ⟨.inr ⟨cb, ct, rfl, rfl, rfl, rfl⟩, ht.wr, ht.en, ht.sb⟩ (.inl I.e0) (.inl I.e1) (.inl I.e2) (.inl I.e3) (.inl I.e4) (.inl I.e5)
    · have e := f_ca04c w t1 its c x3 x4 x5 (boxO (t1 + 1998) sm k tk) (boxO (t1 + 1998) sm (k + 1) tk1) (boxO (t1 + 1998) sm (k + 1 + 1) tk2) T1 T2 T3 (pipO (t1 + 1998) (er || ew)) (ownO w.params (t1 + 1998) er ew) (endO er ew) B T tw0 tb0 tw1 tb1 cb ct jt es n sl
      exact fin_win I ⟨(k + 1 + 1), tk2, (tab_ca (cb + 5)), T1, T2, T3, es, n, (mkN 1 sl), ((tb1 + 1998) + 39), er, ew, (cb + 5, cd0 cb ct), (cb + 1, cd1 cb), (cb + 15, cd2 cb ct), x3, x4, x5⟩ e rfl rfl (by dsimp only; omega) (by dsimp only; omega) rfl rfl ⟨.inr ⟨cb, ct, rfl, rfl, rfl, rfl⟩, ht.wr, ht.en, ht.sb⟩ (.inl I.e0) (.inl I.e1) (.inl I.e2) (.inl I.e3) (.inl I.e4) (.inl I.e5)
theorem wi_ca1 (tw0 tk1 tb0 : Nat) : Win (model M9.tw w) s.heap σ.E s.os s.drawn (RD w t1 its c sm σ s) (fun as => dOut w.params (t1 + 1998) its c σ.E (σ.D w.params t1 sm) (B + 1488) (T + 1998) (aTk 1 tw0 (boxO (t1 + 1998) sm (σ.k + 1) tk1) ((B + 1488) + 2) (tb0 + 1998) (or1 1) :: as)) := by
  obtain ⟨k, tk, T0, T1, T2, T3, es, n, sl, jt, er, ew, x0, x1, x2, x3, x4, x5⟩ := σ
  have ht := I.tb
  have k0 : 0 ≤ k := I.k0
  dsimp only at ht hk2
  rcases ht.ca with rfl | ⟨cb, ct, rfl, rfl, rfl, rfl⟩
  · refine tk_win (peel2_ok w) (n1_1 w t1 its c x0 x1 x2 x3 x4 x5 (boxO (t1 + 1998) sm k tk) (boxO (t1 + 1998) sm (k + 1) tk1) (nO []) T1 T2 T3 (frO es n sl) (jrO w.params (t1 + 1998) jt) (pipO (t1 + 1998) (er || ew)) (ownO w.params (t1 + 1998) er ew) (endO er ew) B T tw0 tb0) rfl I.st hc.isInt hc.size (by omega) (by omega) (by omega) (by decide) (fun y => pk [fo_ca10f, fo_ca11f, fo_ca12f, fo_ca13f, fo_ca14f] y.toNat) _ rfl fun way tw1 tk2 tb1 h0 h1 => ?_
    rcases (by omega : way = 0 ∨ way = 1 ∨ way = 2 ∨ way = 3 ∨ way = 4) with rfl | rfl | rfl | rfl | rfl
    · have e := f_ca10f w t1 its c x0 x1 x2 x3 x4 x5 (boxO (t1 + 1998) sm k tk) (boxO (t1 + 1998) sm (k + 1) tk1) (boxO (t1 + 1998) sm (k + 1 + 1) tk2) T1 T2 T3 (pipO (t1 + 1998) (er || ew)) (ownO w.params (t1 + 1998) er ew) (endO er ew) B T tw0 tb0 tw1 tb1 jt es n sl
      exact fin_win I ⟨(k + 1 + 1), tk2, (tab_ca (((B + 1488) + 8) + 5)), T1, T2, T3, es, n, (mkN 0 sl), ((tb1 + 1998) + 47), er, ew, (((B + 1488) + 8) + 5, cd0 ((B + 1488) + 8) (tb1 + 1998)), (((B + 1488) + 8) + 1, cd1 ((B + 1488) + 8)), (((B + 1488) + 8) + 15, cd2 ((B + 1488) + 8) (tb1 + 1998)), x3, x4, x5⟩ e rfl rfl (by dsimp only; omega) (by dsimp only; omega) rfl rfl ⟨.inr ⟨((B + 1488) + 8), (tb1 + 1998), rfl, rfl, rfl, rfl⟩, ht.wr, ht.en, ht.sb⟩ (.inr ⟨nat_lit 11, (vX3 (congrArg (fun z => z.2.1) e)).1, rfl⟩) (.inr ⟨nat_lit 7, (vX3 (congrArg (fun z => z.2.1) e)).2.1, rfl⟩) (.inr ⟨nat_lit 21, (vX3 (congrArg (fun z => z.2.1) e)).2.2, rfl⟩) (.inl I.e3) (.inl I.e4) (.inl I.e5)
    · have e := f_ca11f w t1 its c x0 x1 x2 x3 x4 x5 (boxO (t1 + 1998) sm k tk) (boxO (t1 + 1998) sm (k + 1) tk1) (boxO (t1 + 1998) sm (k + 1 + 1) tk2) T1 T2 T3 (pipO (t1 + 1998) (er || ew)) (ownO w.params (t1 + 1998) er ew) (endO er ew) B T tw0 tb0 tw1 tb1 jt es n sl
      exact fin_win I ⟨(k + 1 + 1), tk2, (tab_ca (((B + 1488) + 8) + 5)), T1, T2, T3, es, n, (mkN 1 sl), ((tb1 + 1998) + 52), er, ew, (((B + 1488) + 8) + 5, cd0 ((B + 1488) + 8) (tb1 + 1998)), (((B + 1488) + 8) + 1, cd1 ((B + 1488) + 8)), (((B + 1488) + 8) + 15, cd2 ((B + 1488) + 8) (tb1 + 1998)), x3, x4, x5⟩ e rfl rfl (by dsimp only; omega) (by dsimp only; omega) rfl rfl ⟨.inr ⟨((B + 1488) + 8), (tb1 + 1998), rfl, rfl, rfl, rfl⟩, ht.wr, ht.en, ht.sb⟩ (.inr ⟨nat_lit 11, (vX3 (congrArg (fun z => z.2.1) e)).1, rfl⟩) (.inr ⟨nat_lit 7, (vX3 (congrArg (fun z => z.2.1) e)).2.1, rfl⟩) (.inr ⟨nat_lit 21, (vX3 (congrArg (fun z => z.2.1) e)).2.2, rfl⟩) (.inl I.e3) (.inl I.e4) (.inl I.e5)
    · have e := f_ca12f w t1 its c x0 x1 x2 x3 x4 x5 (boxO (t1 + 1998) sm k tk) (boxO (t1 + 1998) sm (k + 1) tk1) (boxO (t1 + 1998) sm (k + 1 + 1) tk2) T1 T2 T3 (pipO (t1 + 1998) (er || ew)) (ownO w.params (t1 + 1998) er ew) (endO er ew) B T tw0 tb0 tw1 tb1 jt es n sl
      exact fin_win I ⟨(k + 1 + 1), tk2, (tab_ca (((B + 1488) + 8) + 5)), T1, T2, T3, es, n, (mkN 1 sl), ((tb1 + 1998) + 52), er, ew, (((B + 1488) + 8) + 5, cd0 ((B + 1488) + 8) (tb1 + 1998)), (((B + 1488) + 8) + 1, cd1 ((B + 1488) + 8)), (((B + 1488) + 8) + 15, cd2 ((B + 1488) + 8) (tb1 + 1998)), x3, x4, x5⟩ e rfl rfl (by dsimp only; omega) (by dsimp only; omega) rfl rfl ⟨.inr ⟨((B + 1488) + 8), (tb1 + 1998), rfl, rfl, rfl, rfl⟩, ht.wr, ht.en, ht.sb⟩ (.inr ⟨nat_lit 11, (vX3 (congrArg (fun z => z.2.1) e)).1, rfl⟩) (.inr ⟨nat_lit 7, (vX3 (congrArg (fun z => z.2.1) e)).2.1, rfl⟩) (.inr ⟨nat_lit 21, (vX3 (congrArg (fun z => z.2.1) e)).2.2, rfl⟩) (.inl I.e3) (.inl I.e4) (.inl I.e5)
    · have e := f_ca13f w t1 its c x0 x1 x2 x3 x4 x5 (boxO (t1 + 1998) sm k tk) (boxO (t1 + 1998) sm (k + 1) tk1) (boxO (t1 + 1998) sm (k + 1 + 1) tk2) T1 T2 T3 (pipO (t1 + 1998) (er || ew)) (ownO w.params (t1 + 1998) er ew) (endO er ew) B T tw0 tb0 tw1 tb1 jt es n sl
      exact fin_win I ⟨(k + 1 + 1), tk2, (tab_ca (((B + 1488) + 8) + 5)), T1, T2, T3, es, n, (mkN 1 sl), ((tb1 + 1998) + 52), er, ew, (((B + 1488) + 8) + 5, cd0 ((B + 1488) + 8) (tb1 + 1998)), (((B + 1488) + 8) + 1, cd1 ((B + 1488) + 8)), (((B + 1488) + 8) + 15, cd2 ((B + 1488) + 8) (tb1 + 1998)), x3, x4, x5⟩ e rfl rfl (by dsimp only; omega) (by dsimp only; omega) rfl rfl ⟨.inr ⟨((B + 1488) + 8), (tb1 + 1998), rfl, rfl, rfl, rfl⟩, ht.wr, ht.en, ht.sb⟩ (.inr ⟨nat_lit 11, (vX3 (congrArg (fun z => z.2.1) e)).1, rfl⟩) (.inr ⟨nat_lit 7, (vX3 (congrArg (fun z => z.2.1) e)).2.1, rfl⟩) (.inr ⟨nat_lit 21, (vX3 (congrArg (fun z => z.2.1) e)).2.2, rfl⟩) (.inl I.e3) (.inl I.e4) (.inl I.e5)
    · have e := f_ca14f w t1 its c x0 x1 x2 x3 x4 x5 (boxO (t1 + 1998) sm k tk) (boxO (t1 + 1998) sm (k + 1) tk1) (boxO (t1 + 1998) sm (k + 1 + 1) tk2) T1 T2 T3 (pipO (t1 + 1998) (er || ew)) (ownO w.params (t1 + 1998) er ew) (endO er ew) B T tw0 tb0 tw1 tb1 jt es n sl
      exact fin_win I ⟨(k + 1 + 1), tk2, (tab_ca (((B + 1488) + 8) + 5)), T1, T2, T3, es, n, (mkN 1 sl), ((tb1 + 1998) + 52), er, ew, (((B + 1488) + 8) + 5, cd0 ((B + 1488) + 8) (tb1 + 1998)), (((B + 1488) + 8) + 1, cd1 ((B + 1488) + 8)), (((B + 1488) + 8) + 15, cd2 ((B + 1488) + 8) (tb1 + 1998)), x3, x4, x5⟩ e rfl rfl (by dsimp only; omega) (by dsimp only; omega) rfl rfl ⟨.inr ⟨((B + 1488) + 8), (tb1 + 1998), rfl, rfl, rfl, rfl⟩, ht.wr, ht.en, ht.sb⟩ (.inr ⟨nat_lit 11, (vX3 (congrArg (fun z => z.2.1) e)).1, rfl⟩) (.inr ⟨nat_lit 7, (vX3 (congrArg (fun z => z.2.1) e)).2.1, rfl⟩) (.inr ⟨nat_lit 21, (vX3 (congrArg (fun z => z.2.1) e)).2.2, rfl⟩) (.inl I.e3) (.inl I.e4) (.inl I.e5)
  · refine tk_win (peel2_ok w) (n1_1 w t1 its c (cb + 5, cd0 cb ct) (cb + 1, cd1 cb) (cb + 15, cd2 cb ct) x3 x4 x5 (boxO (t1 + 1998) sm k tk) (boxO (t1 + 1998) sm (k + 1) tk1) (tab_ca (cb + 5)) T1 T2 T3 (frO es n sl) (jrO w.params (t1 + 1998) jt) (pipO (t1 + 1998) (er || ew)) (ownO w.params (t1 + 1998) er ew) (endO er ew) B T tw0 tb0) rfl I.st hc.isInt hc.size (by omega) (by omega) (by omega) (by decide) (fun y => pk [fo_ca10c, fo_ca11c, fo_ca12c, fo_ca13c, fo_ca14c] y.toNat) _ rfl fun way tw1 tk2 tb1 h0 h1 => ?_
    rcases (by omega : way = 0 ∨ way = 1 ∨ way = 2 ∨ way = 3 ∨ way = 4) with rfl | rfl | rfl | rfl | rfl
    · have e := f_ca10c w t1 its c x3 x4 x5 (boxO (t1 + 1998) sm k tk) (boxO (t1 + 1998) sm (k + 1) tk1) (boxO (t1 + 1998) sm (k + 1 + 1) tk2) T1 T2 T3 (pipO (t1 + 1998) (er || ew)) (ownO w.params (t1 + 1998) er ew) (endO er ew) B T tw0 tb0 tw1 tb1 cb ct jt es n sl
      exact fin_win I ⟨(k + 1 + 1), tk2, (tab_ca (cb + 5)), T1, T2, T3, es, n, (mkN 0 sl), ((tb1 + 1998) + 34), er, ew, (cb + 5, cd0 cb ct), (cb + 1, cd1 cb), (cb + 15, cd2 cb ct), x3, x4, x5⟩ e rfl rfl (by dsimp only; omega) (by dsimp only; omega) rfl rfl ⟨.inr ⟨cb, ct, rfl, rfl, rfl, rfl⟩, ht.wr, ht.en, ht.sb⟩ (.inl I.e0) (.inl I.e1) (.inl I.e2) (.inl I.e3) (.inl I.e4) (.inl I.e5)
    · have e := f_ca11c w t1 its c x3 x4 x5 (boxO (t1 + 1998) sm k tk) (boxO (t1 + 1998) sm (k + 1) tk1) (boxO (t1 + 1998) sm (k + 1 + 1) tk2) T1 T2 T3 (pipO (t1 + 1998) (er || ew)) (ownO w.params (t1 + 1998) er ew) (endO er ew) B T tw0 tb0 tw1 tb1 cb ct jt es n sl
      exact fin_win I ⟨(k + 1 + 1), tk2, (tab_ca (cb + 5)), T1, T2, T3, es, n, (mkN 1 sl), ((tb1 + 1998) + 39), er, ew, (cb + 5, cd0 cb ct), (cb + 1, cd1 cb), (cb + 15, cd2 cb ct), x3, x4, x5⟩ e rfl rfl (by dsimp only; omega) (by dsimp only; omega) rfl rfl ⟨.inr ⟨cb, ct, rfl, rfl, rfl, rfl⟩, ht.wr, ht.en, ht.sb⟩ (.inl I.e0) (.inl I.e1) (.inl I.e2) (.inl I.e3) (.inl I.e4) (.inl I.e5)
    · have e := f_ca12c w t1 its c x3 x4 x5 (boxO (t1 + 1998) sm k tk) (boxO (t1 + 1998) sm (k + 1) tk1) (boxO (t1 + 1998) sm (k + 1 + 1) tk2) T1 T2 T3 (pipO (t1 + 1998) (er || ew)) (ownO w.params (t1 + 1998) er ew) (endO er ew) B T tw0 tb0 tw1 tb1 cb ct jt es n sl
      exact fin_win I ⟨(k + 1 + 1), tk2, (tab_ca (cb + 5)), T1, T2, T3, es, n, (mkN 1 sl), ((tb1 + 1998) + 39), er, ew, (cb + 5, cd0 cb ct), (cb + 1, cd1 cb), (cb + 15, cd2 cb ct), x3, x4, x5⟩ e rfl rfl (by dsimp only; omega) (by dsimp only; omega) rfl rfl ⟨.inr ⟨cb, ct, rfl, rfl, rfl, rfl⟩, ht.wr, ht.en, ht.sb⟩ (.inl I.e0) (.inl I.e1) (.inl I.e2) (.inl I.e3) (.inl I.e4) (.inl I.e5)
    · have e := f_ca13c w t1 its c x3 x4 x5 (boxO (t1 + 1998) sm k tk) (boxO (t1 + 1998) sm (k + 1) tk1) (boxO (t1 + 1998) sm (k + 1 + 1) tk2) T1 T2 T3 (pipO (t1 + 1998) (er || ew)) (ownO w.params (t1 + 1998) er ew) (endO er ew) B T tw0 tb0 tw1 tb1 cb ct jt es n sl
      exact fin_win I ⟨(k + 1 + 1), tk2, (tab_ca (cb + 5)), T1, T2, T3, es, n, (mkN 1 sl), ((tb1 + 1998) + 39), er, ew, (cb + 5, cd0 cb ct), (cb + 1, cd1 cb), (cb + 15, cd2 cb ct), x3, x4, x5⟩ e rfl rfl (by dsimp only; omega) (by dsimp only; omega) rfl rfl ⟨.inr ⟨cb, ct, rfl, rfl, rfl, rfl⟩, ht.wr, ht.en, ht.sb⟩ (.inl I.e0) (.inl I.e1) (.inl I.e2) (.inl I.e3) (.inl I.e4) (.inl I.e5)
    · have e := f_ca14c w t1 its c x3 x4 x5 (boxO (t1 + 1998) sm k tk) (boxO (t1 + 1998) sm (k + 1) tk1) (boxO (t1 + 1998) sm (k + 1 + 1) tk2) T1 T2 T3 (pipO (t1 + 1998) (er || ew)) (ownO w.params (t1 + 1998) er ew) (endO er ew) B T tw0 tb0 tw1 tb1 cb ct jt es n sl
      exact fin_win I ⟨(k + 1 + 1), tk2, (tab_ca (cb + 5)), T1, T2, T3, es, n, (mkN 1 sl), ((tb1 + 1998) + 39), er, ew, (cb + 5, cd0 cb ct), (cb + 1, cd1 cb), (cb + 15, cd2 cb ct), x3, x4, x5⟩ e rfl rfl (by dsimp only; omega) (by dsimp only; omega) rfl rfl ⟨.inr ⟨cb, ct, rfl, rfl, rfl, rfl⟩, ht.wr, ht.en, ht.sb⟩ (.inl I.e0) (.inl I.e1) (.inl I.e2) (.inl I.e3) (.inl I.e4) (.inl I.e5)
theorem wi_wr (tw0 tk1 tb0 : Nat) : Win (model M9.tw w) s.heap σ.E s.os s.drawn (RD w t1 its c sm σ s) (fun as => dOut w.params (t1 + 1998) its c σ.E (σ.D w.params t1 sm) (B + 1488) (T + 1998) (aTk 2 tw0 (boxO (t1 + 1998) sm (σ.k + 1) tk1) ((B + 1488) + 2) (tb0 + 1998) (or1 2) :: as)) := by
  obtain ⟨k, tk, T0, T1, T2, T3, es, n, sl, jt, er, ew, x0, x1, x2, x3, x4, x5⟩ := σ
  have ht := I.tb
  have k0 : 0 ≤ k := I.k0
  dsimp only at ht hk2
  rcases ht.wr with rfl | ⟨cb, ct, rfl, rfl⟩
  · refine tk_win (peel2_ok w) (n1_2 w t1 its c x0 x1 x2 x3 x4 x5 (boxO (t1 + 1998) sm k tk) (boxO (t1 + 1998) sm (k + 1) tk1) T0 (nO []) T2 T3 (frO es n sl) (jrO w.params (t1 + 1998) jt) (pipO (t1 + 1998) (er || ew)) (ownO w.params (t1 + 1998) er ew) (endO er ew) B T tw0 tb0) rfl I.st hc.isInt hc.size (by omega) (by omega) (by omega) (by decide) (fun y => pk [fo_wr0f, fo_wr1f, fo_wr2f, fo_wr3f, fo_wr4f] y.toNat) _ rfl fun way tw1 tk2 tb1 h0 h1 => ?_
    rcases (by omega : way = 0 ∨ way = 1 ∨ way = 2 ∨ way = 3 ∨ way = 4) with rfl | rfl | rfl | rfl | rfl
    · have e := f_wr0f w t1 its c x0 x1 x2 x3 x4 x5 (boxO (t1 + 1998) sm k tk) (boxO (t1 + 1998) sm (k + 1) tk1) (boxO (t1 + 1998) sm (k + 1 + 1) tk2) T0 T2 T3 (jrO w.params (t1 + 1998) jt) (pipO (t1 + 1998) (er || ew)) (ownO w.params (t1 + 1998) er ew) (endO er ew) B T tw0 tb0 tw1 tb1 es n sl
      exact fin_win I ⟨(k + 1 + 1), tk2, T0, (tab_wr (((B + 1488) + 11) + 5)), T2, T3, es, n, (mkN 1 sl), jt, er, ew, x0, x1, x2, (((B + 1488) + 11) + 5, cd3 ((B + 1488) + 11) (tb1 + 1998)), x4, x5⟩ e rfl rfl (by dsimp only; omega) (by dsimp only; omega) rfl rfl ⟨ht.ca, .inr ⟨((B + 1488) + 11), (tb1 + 1998), rfl, rfl⟩, ht.en, ht.sb⟩ (.inl I.e0) (.inl I.e1) (.inl I.e2) (.inr ⟨nat_lit 14, (vX1 (congrArg (fun z => z.2.1) e)), rfl⟩) (.inl I.e4) (.inl I.e5)
    · have e := f_wr1f w t1 its c x0 x1 x2 x3 x4 x5 (boxO (t1 + 1998) sm k tk) (boxO (t1 + 1998) sm (k + 1) tk1) (boxO (t1 + 1998) sm (k + 1 + 1) tk2) T0 T2 T3 (jrO w.params (t1 + 1998) jt) (pipO (t1 + 1998) (er || ew)) (ownO w.params (t1 + 1998) er ew) (endO er ew) B T tw0 tb0 tw1 tb1 es n sl
      exact fin_win I ⟨(k + 1 + 1), tk2, T0, (tab_wr (((B + 1488) + 11) + 5)), T2, T3, es, n, (mkN 1 sl), jt, er, ew, x0, x1, x2, (((B + 1488) + 11) + 5, cd3 ((B + 1488) + 11) (tb1 + 1998)), x4, x5⟩ e rfl rfl (by dsimp only; omega) (by dsimp only; omega) rfl rfl ⟨ht.ca, .inr ⟨((B + 1488) + 11), (tb1 + 1998), rfl, rfl⟩, ht.en, ht.sb⟩ (.inl I.e0) (.inl I.e1) (.inl I.e2) (.inr ⟨nat_lit 14, (vX1 (congrArg (fun z => z.2.1) e)), rfl⟩) (.inl I.e4) (.inl I.e5)
    · have e := f_wr2f w t1 its c x0 x1 x2 x3 x4 x5 (boxO (t1 + 1998) sm k tk) (boxO (t1 + 1998) sm (k + 1) tk1) (boxO (t1 + 1998) sm (k + 1 + 1) tk2) T0 T2 T3 (jrO w.params (t1 + 1998) jt) (pipO (t1 + 1998) (er || ew)) (ownO w.params (t1 + 1998) er ew) (endO er ew) B T tw0 tb0 tw1 tb1 es n sl
      exact fin_win I ⟨(k + 1 + 1), tk2, T0, (tab_wr (((B + 1488) + 11) + 5)), T2, T3, es, n, (mkN 1 sl), jt, er, ew, x0, x1, x2, (((B + 1488) + 11) + 5, cd3 ((B + 1488) + 11) (tb1 + 1998)), x4, x5⟩ e rfl rfl (by dsimp only; omega) (by dsimp only; omega) rfl rfl ⟨ht.ca, .inr ⟨((B + 1488) + 11), (tb1 + 1998), rfl, rfl⟩, ht.en, ht.sb⟩ (.inl I.e0) (.inl I.e1) (.inl I.e2) (.inr ⟨nat_lit 14, (vX1 (congrArg (fun z => z.2.1) e)), rfl⟩) (.inl I.e4) (.inl I.e5)
    · have e := f_wr3f w t1 its c x0 x1 x2 x3 x4 x5 (boxO (t1 + 1998) sm k tk) (boxO (t1 + 1998) sm (k + 1) tk1) (boxO (t1 + 1998) sm (k + 1 + 1) tk2) T0 T2 T3 (jrO w.params (t1 + 1998) jt) (pipO (t1 + 1998) (er || ew)) (ownO w.params (t1 + 1998) er ew) (endO er ew) B T tw0 tb0 tw1 tb1 es n sl
      exact fin_win I ⟨(k + 1 + 1), tk2, T0, (tab_wr (((B + 1488) + 11) + 5)), T2, T3, es, n, (mkN 1 sl), jt, er, ew, x0, x1, x2, (((B + 1488) + 11) + 5, cd3 ((B + 1488) + 11) (tb1 + 1998)), x4, x5⟩ e rfl rfl (by dsimp only; omega) (by dsimp only; omega) rfl rfl ⟨ht.ca, .inr ⟨((B + 1488) + 11), (tb1 + 1998), rfl, rfl⟩, ht.en, ht.sb⟩ (.inl I.e0) (.inl I.e1) (.inl I.e2) (.inr ⟨nat_lit 14, (vX1 (congrArg (fun z => z.2.1) e)), rfl⟩) (.inl I.e4) (.inl I.e5)
    · have e := f_wr4f w t1 its c x0 x1 x2 x3 x4 x5 (boxO (t1 + 1998) sm k tk) (boxO (t1 + 1998) sm (k + 1) tk1) (boxO (t1 + 1998) sm (k + 1 + 1) tk2) T0 T2 T3 (jrO w.params (t1 + 1998) jt) (pipO (t1 + 1998) (er || ew)) (ownO w.params (t1 + 1998) er ew) (endO er ew) B T tw0 tb0 tw1 tb1 es n sl
      exact fin_win I ⟨(k + 1 + 1), tk2, T0, (tab_wr (((B + 1488) + 11) + 5)), T2, T3, es, n, (mkN 1 sl), jt, er, ew, x0, x1, x2, (((B + 1488) + 11) + 5, cd3 ((B + 1488) + 11) (tb1 + 1998)), x4, x5⟩ e rfl rfl (by dsimp only; omega) (by dsimp only; omega) rfl rfl ⟨ht.ca, .inr ⟨((B + 1488) + 11), (tb1 + 1998), rfl, rfl⟩, ht.en, ht.sb⟩ (.inl I.e0) (.inl I.e1) (.inl I.e2) (.inr ⟨nat_lit 14, (vX1 (congrArg (fun z => z.2.1) e)), rfl⟩) (.inl I.e4) (.inl I.e5)
  · refine tk_win (peel2_ok w) (n1_2 w t1 its c x0 x1 x2 (cb + 5, cd3 cb ct) x4 x5 (boxO (t1 + 1998) sm k tk) (boxO (t1 + 1998) sm (k + 1) tk1) T0 (tab_wr (cb + 5)) T2 T3 (frO es n sl) (jrO w.params (t1 + 1998) jt) (pipO (t1 + 1998) (er || ew)) (ownO w.params (t1 + 1998) er ew) (endO er ew) B T tw0 tb0) rfl I.st hc.isInt hc.size (by omega) (by omega) (by omega) (by decide) (fun y => pk [fo_wr0c, fo_wr1c, fo_wr2c, fo_wr3c, fo_wr4c] y.toNat) _ rfl fun way tw1 tk2 tb1 h0 h1 => ?_
    rcases (by omega : way = 0 ∨ way = 1 ∨ way = 2 ∨ way = 3 ∨ way = 4) with rfl | rfl | rfl | rfl | rfl
    · have e := f_wr0c w t1 its c x0 x1 x2 x4 x5 (boxO (t1 + 1998) sm k tk) (boxO (t1 + 1998) sm (k + 1) tk1) (boxO (t1 + 1998) sm (k + 1 + 1) tk2) T0 T2 T3 (jrO w.params (t1 + 1998) jt) (pipO (t1 + 1998) (er || ew)) (ownO w.params (t1 + 1998) er ew) (endO er ew) B T tw0 tb0 tw1 tb1 cb ct es n sl
      exact fin_win I ⟨(k + 1 + 1), tk2, T0, (tab_wr (cb + 5)), T2, T3, es, n, (mkN 1 sl), jt, er, ew, x0, x1, x2, (cb + 5, cd3 cb ct), x4, x5⟩ e rfl rfl (by dsimp only; omega) (by dsimp only; omega) rfl rfl ⟨ht.ca, .inr ⟨cb, ct, rfl, rfl⟩, ht.en, ht.sb⟩ (.inl I.e0) (.inl I.e1) (.inl I.e2) (.inl I.e3) (.inl I.e4) (.inl I.e5)
    · have e := f_wr1c w t1 its c x0 x1 x2 x4 x5 (boxO (t1 + 1998) sm k tk) (boxO (t1 + 1998) sm (k + 1) tk1) (boxO (t1 + 1998) sm (k + 1 + 1) tk2) T0 T2 T3 (jrO w.params (t1 + 1998) jt) (pipO (t1 + 1998) (er || ew)) (ownO w.params (t1 + 1998) er ew) (endO er ew) B T tw0 tb0 tw1 tb1 cb ct es n sl
      exact fin_win I ⟨(k + 1 + 1), tk2, T0, (tab_wr (cb + 5)), T2, T3, es, n, (mkN 1 sl), jt, er, ew, x0, x1, x2, (cb + 5, cd3 cb ct), x4, x5⟩ e rfl rfl (by dsimp only; omega) (by dsimp only; omega) rfl rfl ⟨ht.ca, .inr ⟨cb, ct, rfl, rfl⟩, ht.en, ht.sb⟩ (.inl I.e0) (.inl I.e1) (.inl I.e2) (.inl I.e3) (.inl I.e4) (.inl I.e5)
    · have e := f_wr2c w t1 its c x0 x1 x2 x4 x5 (boxO (t1 + 1998) sm k tk) (boxO (t1 + 1998) sm (k + 1) tk1) (boxO (t1 + 1998) sm (k + 1 + 1) tk2) T0 T2 T3 (jrO w.params (t1 + 1998) jt) (pipO (t1 + 1998) (er || ew)) (ownO w.params (t1 + 1998) er ew) (endO er ew) B T tw0 tb0 tw1 tb1 cb ct es n sl
      exact fin_win I ⟨(k + 1 + 1), tk2, T0, (tab_wr (cb + 5)), T2, T3, es, n, (mkN 1 sl), jt, er, ew, x0, x1, x2, (cb + 5, cd3 cb ct), x4, x5⟩ e rfl rfl (by dsimp only; omega) (by dsimp only; omega) rfl rfl ⟨ht.ca, .inr ⟨cb, ct, rfl, rfl⟩, ht.en, ht.sb⟩ (.inl I.e0) (.inl I.e1) (.inl I.e2) (.inl I.e3) (.inl I.e4) (.inl I.e5)
    · have e := f_wr3c w t1 its c x0 x1 x2 x4 x5 (boxO (t1 + 1998) sm k tk) (boxO (t1 + 1998) sm (k + 1) tk1) (boxO (t1 + 1998) sm (k + 1 + 1) tk2) T0 T2 T3 (jrO w.params (t1 + 1998) jt) (pipO (t1 + 1998) (er || ew)) (ownO w.params (t1 + 1998) er ew) (endO er ew) B T tw0 tb0 tw1 tb1 cb ct es n sl
      exact fin_win I ⟨(k + 1 + 1), tk2, T0, (tab_wr (cb + 5)), T2, T3, es, n, (mkN 1 sl), jt, er, ew, x0, x1, x2, (cb + 5, cd3 cb ct), x4, x5⟩ e rfl rfl (by dsimp only; omega) (by dsimp only; omega) rfl rfl ⟨ht.ca, .inr ⟨cb, ct, rfl, rfl⟩, ht.en, ht.sb⟩ (.inl I.e0) (.inl I.e1) (.inl I.e2) (.inl I.e3) (.inl I.e4) (.inl I.e5)
    · have e := f_wr4c w t1 its c x0 x1 x2 x4 x5 (boxO (t1 + 1998) sm k tk) (boxO (t1 + 1998) sm (k + 1) tk1) (boxO (t1 + 1998) sm (k + 1 + 1) tk2) T0 T2 T3 (jrO w.params (t1 + 1998) jt) (pipO (t1 + 1998) (er || ew)) (ownO w.params (t1 + 1998) er ew) (endO er ew) B T tw0 tb0 tw1 tb1 cb ct es n sl
      exact fin_win I ⟨(k + 1 + 1), tk2, T0, (tab_wr (cb + 5)), T2, T3, es, n, (mkN 1 sl), jt, er, ew, x0, x1, x2, (cb + 5, cd3 cb ct), x4, x5⟩ e rfl rfl (by dsimp only; omega) (by dsimp only; omega) rfl rfl ⟨ht.ca, .inr ⟨cb, ct, rfl, rfl⟩, ht.en, ht.sb⟩ (.inl I.e0) (.inl I.e1) (.inl I.e2) (.inl I.e3) (.inl I.e4) (.inl I.e5)
theorem wi_en : ∃ o3, ∀ (tw0 tk1 tb0 : Nat), Win (model M9.tw w) s.heap σ.E s.os s.drawn (RD w t1 its c sm σ s) (fun as => dOut w.params (t1 + 1998) its c σ.E (σ.D w.params t1 sm) (B + 1488) (T + 1998) (aTk 3 tw0 (boxO (t1 + 1998) sm (σ.k + 1) tk1) ((B + 1488) + 2) (tb0 + 1998) o3 :: as)) := by
  obtain ⟨k, tk, T0, T1, T2, T3, es, n, sl, jt, er, ew, x0, x1, x2, x3, x4, x5⟩ := σ
  have ht := I.tb
  have k0 : 0 ≤ k := I.k0
  dsimp only at ht hk2
  rcases ht.en with rfl | ⟨cb, ct, rfl, rfl⟩
  · refine ⟨fo_en0f, fun tw0 tk1 tb0 => ?_⟩
    have e := f_en0f w t1 its c x0 x1 x2 x3 x4 x5 (boxO (t1 + 1998) sm k tk) (boxO (t1 + 1998) sm (k + 1) tk1) T0 T1 T3 (jrO w.params (t1 + 1998) jt) (pipO (t1 + 1998) (er || ew)) (ownO w.params (t1 + 1998) er ew) (endO er ew) B T tw0 tb0 es n sl
    exact fin_win I ⟨(k + 1), tk1, T0, T1, (tab_en (((B + 1488) + 31) + 5)), T3, es, n, (mkN 1 sl), jt, er, ew, x0, x1, x2, x3, (((B + 1488) + 31) + 5, cd4 ((B + 1488) + 31) ((tb0 + 1998) + 22)), x5⟩ e rfl rfl (by dsimp only; omega) (by dsimp only; omega) rfl rfl ⟨ht.ca, ht.wr, .inr ⟨((B + 1488) + 31), ((tb0 + 1998) + 22), rfl, rfl⟩, ht.sb⟩ (.inl I.e0) (.inl I.e1) (.inl I.e2) (.inl I.e3) (.inr ⟨nat_lit 35, (vX1 (congrArg (fun z => z.2.1) e)), rfl⟩) (.inl I.e5)
  · refine ⟨fo_en0c, fun tw0 tk1 tb0 => ?_⟩
    have e := f_en0c w t1 its c x0 x1 x2 x3 x5 (boxO (t1 + 1998) sm k tk) (boxO (t1 + 1998) sm (k + 1) tk1) T0 T1 T3 (jrO w.params (t1 + 1998) jt) (pipO (t1 + 1998) (er || ew)) (ownO w.params (t1 + 1998) er ew) (endO er ew) B T tw0 tb0 cb ct es n sl
    exact fin_win I ⟨(k + 1), tk1, T0, T1, (tab_en (cb + 5)), T3, es, n, (mkN 1 sl), jt, er, ew, x0, x1, x2, x3, (cb + 5, cd4 cb ct), x5⟩ e rfl rfl (by dsimp only; omega) (by dsimp only; omega) rfl rfl ⟨ht.ca, ht.wr, .inr ⟨cb, ct, rfl, rfl⟩, ht.sb⟩ (.inl I.e0) (.inl I.e1) (.inl I.e2) (.inl I.e3) (.inl I.e4) (.inl I.e5)
theorem wi_sb0 (tw0 tk1 tb0 tw1 tk2 tb1 : Nat) : Win (model M9.tw w) s.heap σ.E s.os s.drawn (RD w t1 its c sm σ s) (fun as => dOut w.params (t1 + 1998) its c σ.E (σ.D w.params t1 sm) (B + 1488) (T + 1998) (aTk 4 tw0 (boxO (t1 + 1998) sm (σ.k + 1) tk1) ((B + 1488) + 2) (tb0 + 1998) (or1 4) :: aTk 0 tw1 (boxO (t1 + 1998) sm (σ.k + 1 + 1) tk2) ((B + 1488) + 11) (tb1 + 1998) (or2 0) :: as)) := by
  obtain ⟨k, tk, T0, T1, T2, T3, es, n, sl, jt, er, ew, x0, x1, x2, x3, x4, x5⟩ := σ
  have ht := I.tb
  have k0 : 0 ≤ k := I.k0
  dsimp only at ht hk2
  rcases ht.sb with rfl | ⟨cb, ct, rfl, rfl⟩
  · cases hb : (er || ew)
    · refine tk_win (peel2_ok w) (n2_0 w t1 its c x0 x1 x2 x3 x4 x5 (boxO (t1 + 1998) sm k tk) (boxO (t1 + 1998) sm (k + 1) tk1) (boxO (t1 + 1998) sm (k + 1 + 1) tk2) T0 T1 T2 (nO []) (frO es n sl) (jrO w.params (t1 + 1998) jt) (pipO (t1 + 1998) (er || ew)) (ownO w.params (t1 + 1998) er ew) (endO er ew) B T tw0 tb0 tw1 tb1) rfl I.st hc.isInt hc.size (by omega) (by omega) (by omega) (by decide) (fun y => pk [fo_sg00q, fo_sg01q, fo_sb02f, fo_sb03f, fo_sb04f] y.toNat) _ rfl fun way tw2 tk3 tb2 h0 h1 => ?_
      rcases (by omega : way = 0 ∨ way = 1 ∨ way = 2 ∨ way = 3 ∨ way = 4) with rfl | rfl | rfl | rfl | rfl
      · have e := f_sg00q w t1 its c x0 x1 x2 x3 x4 x5 (boxO (t1 + 1998) sm k tk) (boxO (t1 + 1998) sm (k + 1) tk1) (boxO (t1 + 1998) sm (k + 1 + 1) tk2) (boxO (t1 + 1998) sm (k + 1 + 1 + 1) tk3) T0 T1 T2 (nO []) (frO es n sl) (jrO w.params (t1 + 1998) jt) (ownO w.params (t1 + 1998) er ew) (endO er ew) B T tw0 tb0 tw1 tb1 tw2 tb2
        exact fin_win I ⟨(k + 1 + 1 + 1), tk3, T0, T1, T2, (nO []), es, n, sl, jt, er, ew, x0, x1, x2, x3, x4, x5⟩ e (by show dOut _ _ _ _ _ (WS.D _ _ _ _) _ _ _ = _; unfold WS.D; dsimp only; rw [hb]; rfl) (by unfold WS.D; dsimp only; rw [hb]) (by dsimp only; omega) (by dsimp only; omega) rfl rfl ⟨ht.ca, ht.wr, ht.en, ht.sb⟩ (.inl I.e0) (.inl I.e1) (.inl I.e2) (.inl I.e3) (.inl I.e4) (.inl I.e5)
      · have e := f_sg01q w t1 its c x0 x1 x2 x3 x4 x5 (boxO (t1 + 1998) sm k tk) (boxO (t1 + 1998) sm (k + 1) tk1) (boxO (t1 + 1998) sm (k + 1 + 1) tk2) (boxO (t1 + 1998) sm (k + 1 + 1 + 1) tk3) T0 T1 T2 (nO []) (frO es n sl) (jrO w.params (t1 + 1998) jt) (ownO w.params (t1 + 1998) er ew) (endO er ew) B T tw0 tb0 tw1 tb1 tw2 tb2
        exact fin_win I ⟨(k + 1 + 1 + 1), tk3, T0, T1, T2, (nO []), es, n, sl, jt, er, ew, x0, x1, x2, x3, x4, x5⟩ e (by show dOut _ _ _ _ _ (WS.D _ _ _ _) _ _ _ = _; unfold WS.D; dsimp only; rw [hb]; rfl) (by unfold WS.D; dsimp only; rw [hb]) (by dsimp only; omega) (by dsimp only; omega) rfl rfl ⟨ht.ca, ht.wr, ht.en, ht.sb⟩ (.inl I.e0) (.inl I.e1) (.inl I.e2) (.inl I.e3) (.inl I.e4) (.inl I.e5)
      · have e := f_sb02f w t1 its c x0 x1 x2 x3 x4 x5 (boxO (t1 + 1998) sm k tk) (boxO (t1 + 1998) sm (k + 1) tk1) (boxO (t1 + 1998) sm (k + 1 + 1) tk2) (boxO (t1 + 1998) sm (k + 1 + 1 + 1) tk3) T0 T1 T2 (jrO w.params (t1 + 1998) jt) (pipO (t1 + 1998) (er || ew)) (ownO w.params (t1 + 1998) er ew) (endO er ew) B T tw0 tb0 tw1 tb1 tw2 tb2 es n sl
        exact fin_win I ⟨(k + 1 + 1 + 1), tk3, T0, T1, T2, (tab_sb (((B + 1488) + 26) + 5)), es, n, (mkN 1 sl), jt, er, ew, x0, x1, x2, x3, x4, (((B + 1488) + 26) + 5, cd5 ((B + 1488) + 26) (tb2 + 1998))⟩ e rfl rfl (by dsimp only; omega) (by dsimp only; omega) rfl rfl ⟨ht.ca, ht.wr, ht.en, .inr ⟨((B + 1488) + 26), (tb2 + 1998), rfl, rfl⟩⟩ (.inl I.e0) (.inl I.e1) (.inl I.e2) (.inl I.e3) (.inl I.e4) (.inr ⟨nat_lit 28, (vX1 (congrArg (fun z => z.2.1) e)), rfl⟩)
      · have e := f_sb03f w t1 its c x0 x1 x2 x3 x4 x5 (boxO (t1 + 1998) sm k tk) (boxO (t1 + 1998) sm (k + 1) tk1) (boxO (t1 + 1998) sm (k + 1 + 1) tk2) (boxO (t1 + 1998) sm (k + 1 + 1 + 1) tk3) T0 T1 T2 (jrO w.params (t1 + 1998) jt) (pipO (t1 + 1998) (er || ew)) (ownO w.params (t1 + 1998) er ew) (endO er ew) B T tw0 tb0 tw1 tb1 tw2 tb2 es n sl
        exact fin_win I ⟨(k + 1 + 1 + 1), tk3, T0, T1, T2, (tab_sb (((B + 1488) + 26) + 5)), es, n, (mkN 1 sl), jt, er, ew, x0, x1, x2, x3, x4, (((B + 1488) + 26) + 5, cd5 ((B + 1488) + 26) (tb2 + 1998))⟩ e rfl rfl (by dsimp only; omega) (by dsimp only; omega) rfl rfl ⟨ht.ca, ht.wr, ht.en, .inr ⟨((B + 1488) + 26), (tb2 + 1998), rfl, rfl⟩⟩ (.inl I.e0) (.inl I.e1) (.inl I.e2) (.inl I.e3) (.inl I.e4) (.inr ⟨nat_lit 28, (vX1 (congrArg (fun z => z.2.1) e)), rfl⟩)
      · have e := f_sb04f w t1 its c x0 x1 x2 x3 x4 x5 (boxO (t1 + 1998) sm k tk) (boxO (t1 + 1998) sm (k + 1) tk1) (boxO (t1 + 1998) sm (k + 1 + 1) tk2) (boxO (t1 + 1998) sm (k + 1 + 1 + 1) tk3) T0 T1 T2 (jrO w.params (t1 + 1998) jt) (pipO (t1 + 1998) (er || ew)) (ownO w.params (t1 + 1998) er ew) (endO er ew) B T tw0 tb0 tw1 tb1 tw2 tb2 es n sl
        exact fin_win I ⟨(k + 1 + 1 + 1), tk3, T0, T1, T2, (tab_sb (((B + 1488) + 26) + 5)), es, n, (mkN 1 sl), jt, er, ew, x0, x1, x2, x3, x4, (((B + 1488) + 26) + 5, cd5 ((B + 1488) + 26) (tb2 + 1998))⟩ e rfl rfl (by dsimp only; omega) (by dsimp only; omega) rfl rfl ⟨ht.ca, ht.wr, ht.en, .inr ⟨((B + 1488) + 26), (tb2 + 1998), rfl, rfl⟩⟩ (.inl I.e0) (.inl I.e1) (.inl I.e2) (.inl I.e3) (.inl I.e4) (.inr ⟨nat_lit 28, (vX1 (congrArg (fun z => z.2.1) e)), rfl⟩)
    · refine tk_win (peel2_ok w) (n2_0 w t1 its c x0 x1 x2 x3 x4 x5 (boxO (t1 + 1998) sm k tk) (boxO (t1 + 1998) sm (k + 1) tk1) (boxO (t1 + 1998) sm (k + 1 + 1) tk2) T0 T1 T2 (nO []) (frO es n sl) (jrO w.params (t1 + 1998) jt) (pipO (t1 + 1998) (er || ew)) (ownO w.params (t1 + 1998) er ew) (endO er ew) B T tw0 tb0 tw1 tb1) rfl I.st hc.isInt hc.size (by omega) (by omega) (by omega) (by decide) (fun y => pk [fo_sg00p, fo_sg01p, fo_sb02f, fo_sb03f, fo_sb04f] y.toNat) _ rfl fun way tw2 tk3 tb2 h0 h1 => ?_
      rcases (by omega : way = 0 ∨ way = 1 ∨ way = 2 ∨ way = 3 ∨ way = 4) with rfl | rfl | rfl | rfl | rfl
      · have e := f_sg00p w t1 its c x0 x1 x2 x3 x4 x5 (boxO (t1 + 1998) sm k tk) (boxO (t1 + 1998) sm (k + 1) tk1) (boxO (t1 + 1998) sm (k + 1 + 1) tk2) (boxO (t1 + 1998) sm (k + 1 + 1 + 1) tk3) T0 T1 T2 (nO []) (frO es n sl) (jrO w.params (t1 + 1998) jt) (ownO w.params (t1 + 1998) er ew) (endO er ew) B T tw0 tb0 tw1 tb1 tw2 tb2
        exact fin_win I ⟨(k + 1 + 1 + 1), tk3, T0, T1, T2, (nO []), es, n, sl, jt, er, ew, x0, x1, x2, x3, x4, x5⟩ e (by show dOut _ _ _ _ _ (WS.D _ _ _ _) _ _ _ = _; unfold WS.D; dsimp only; rw [hb]; rfl) (by unfold WS.D; dsimp only; rw [hb]) (by dsimp only; omega) (by dsimp only; omega) rfl rfl ⟨ht.ca, ht.wr, ht.en, ht.sb⟩ (.inl I.e0) (.inl I.e1) (.inl I.e2) (.inl I.e3) (.inl I.e4) (.inl I.e5)
      · have e := f_sg01p w t1 its c x0 x1 x2 x3 x4 x5 (boxO (t1 + 1998) sm k tk) (boxO (t1 + 1998) sm (k + 1) tk1) (boxO (t1 + 1998) sm (k + 1 + 1) tk2) (boxO (t1 + 1998) sm (k + 1 + 1 + 1) tk3) T0 T1 T2 (nO []) (frO es n sl) (jrO w.params (t1 + 1998) jt) (ownO w.params (t1 + 1998) er ew) (endO er ew) B T tw0 tb0 tw1 tb1 tw2 tb2
        exact fin_win I ⟨(k + 1 + 1 + 1), tk3, T0, T1, T2, (nO []), es, n, sl, jt, er, ew, x0, x1, x2, x3, x4, x5⟩ e (by show dOut _ _ _ _ _ (WS.D _ _ _ _) _ _ _ = _; unfold WS.D; dsimp only; rw [hb]; rfl) (by unfold WS.D; dsimp only; rw [hb]) (by dsimp only; omega) (by dsimp only; omega) rfl rfl ⟨ht.ca, ht.wr, ht.en, ht.sb⟩ (.inl I.e0) (.inl I.e1) (.inl I.e2) (.inl I.e3) (.inl I.e4) (.inl I.e5)
      · have e := f_sb02f w t1 its c x0 x1 x2 x3 x4 x5 (boxO (t1 + 1998) sm k tk) (boxO (t1 + 1998) sm (k + 1) tk1) (boxO (t1 + 1998) sm (k + 1 + 1) tk2) (boxO (t1 + 1998) sm (k + 1 + 1 + 1) tk3) T0 T1 T2 (jrO w.params (t1 + 1998) jt) (pipO (t1 + 1998) (er || ew)) (ownO w.params (t1 + 1998) er ew) (endO er ew) B T tw0 tb0 tw1 tb1 tw2 tb2 es n sl
        exact fin_win I ⟨(k + 1 + 1 + 1), tk3, T0, T1, T2, (tab_sb (((B + 1488) + 26) + 5)), es, n, (mkN 1 sl), jt, er, ew, x0, x1, x2, x3, x4, (((B + 1488) + 26) + 5, cd5 ((B + 1488) + 26) (tb2 + 1998))⟩ e rfl rfl (by dsimp only; omega) (by dsimp only; omega) rfl rfl ⟨ht.ca, ht.wr, ht.en, .inr ⟨((B + 1488) + 26), (tb2 + 1998), rfl, rfl⟩⟩ (.inl I.e0) (.inl I.e1) (.inl I.e2) (.inl I.e3) (.inl I.e4) (.inr ⟨nat_lit 28, (vX1 (congrArg (fun z => z.2.1) e)), rfl⟩)
      · have e := f_sb03f w t1 its c x0 x1 x2 x3 x4 x5 (boxO (t1 + 1998) sm k tk) (boxO (t1 + 1998) sm (k + 1) tk1) (boxO (t1 + 1998) sm (k + 1 + 1) tk2) (boxO (t1 + 1998) sm (k + 1 + 1 + 1) tk3) T0 T1 T2 (jrO w.params (t1 + 1998) jt) (pipO (t1 + 1998) (er || ew)) (ownO w.params (t1 + 1998) er ew) (endO er ew) B T tw0 tb0 tw1 tb1 tw2 tb2 es n sl
        exact fin_win I ⟨(k + 1 + 1 + 1), tk3, T0, T1, T2, (tab_sb (((B + 1488) + 26) + 5)), es, n, (mkN 1 sl), jt, er, ew, x0, x1, x2, x3, x4, (((B + 1488) + 26) + 5, cd5 ((B + 1488) + 26) (tb2 + 1998))⟩ e rfl rfl (by dsimp only; omega) (by dsimp only; omega) rfl rfl ⟨ht.ca, ht.wr, ht.en, .inr ⟨((B + 1488) + 26), (tb2 + 1998), rfl, rfl⟩⟩ (.inl I.e0) (.inl I.e1) (.inl I.e2) (.inl I.e3) (.inl I.e4) (.inr ⟨nat_lit 28, (vX1 (congrArg (fun z => z.2.1) e)), rfl⟩)
      · have e := f_sb04f w t1 its c x0 x1 x2 x3 x4 x5 (boxO (t1 + 1998) sm k tk) (boxO (t1 + 1998) sm (k + 1) tk1) (boxO (t1 + 1998) sm (k + 1 + 1) tk2) (boxO (t1 + 1998) sm (k + 1 + 1 + 1) tk3) T0 T1 T2 (jrO w.params (t1 + 1998) jt) (pipO (t1 + 1998) (er || ew)) (ownO w.params (t1 + 1998) er ew) (endO er ew) B T tw0 tb0 tw1 tb1 tw2 tb2 es n sl
        exact fin_win I ⟨(k + 1 + 1 + 1), tk3, T0, T1, T2, (tab_sb (((B + 1488) + 26) + 5)), es, n, (mkN 1 sl), jt, er, ew, x0, x1, x2, x3, x4, (((B + 1488) + 26) + 5, cd5 ((B + 1488) + 26) (tb2 + 1998))⟩ e rfl rfl (by dsimp only; omega) (by dsimp only; omega) rfl rfl ⟨ht.ca, ht.wr, ht.en, .inr ⟨((B + 1488) + 26), (tb2 + 1998), rfl, rfl⟩⟩ (.inl I.e0) (.inl I.e1) (.inl I.e2) (.inl I.e3) (.inl I.e4) (.inr ⟨nat_lit 28, (vX1 (congrArg (fun z => z.2.1) e)), rfl⟩)
  · cases hb : (er || ew)
    · refine tk_win (peel2_ok w) (n2_0 w t1 its c x0 x1 x2 x3 x4 (cb + 5, cd5 cb ct) (boxO (t1 + 1998) sm k tk) (boxO (t1 + 1998) sm (k + 1) tk1) (boxO (t1 + 1998) sm (k + 1 + 1) tk2) T0 T1 T2 (tab_sb (cb + 5)) (frO es n sl) (jrO w.params (t1 + 1998) jt) (pipO (t1 + 1998) (er || ew)) (ownO w.params (t1 + 1998) er ew) (endO er ew) B T tw0 tb0 tw1 tb1) rfl I.st hc.isInt hc.size (by omega) (by omega) (by omega) (by decide) (fun y => pk [fo_sg00q, fo_sg01q, fo_sb02c, fo_sb03c, fo_sb04c] y.toNat) _ rfl fun way tw2 tk3 tb2 h0 h1 => ?_
      rcases (by omega : way = 0 ∨ way = 1 ∨ way = 2 ∨ way = 3 ∨ way = 4) with rfl | rfl | rfl | rfl | rfl
      · have e := f_sg00q w t1 its c x0 x1 x2 x3 x4 (cb + 5, cd5 cb ct) (boxO (t1 + 1998) sm k tk) (boxO (t1 + 1998) sm (k + 1) tk1) (boxO (t1 + 1998) sm (k + 1 + 1) tk2) (boxO (t1 + 1998) sm (k + 1 + 1 + 1) tk3) T0 T1 T2 (tab_sb (cb + 5)) (frO es n sl) (jrO w.params (t1 + 1998) jt) (ownO w.params (t1 + 1998) er ew) (endO er ew) B T tw0 tb0 tw1 tb1 tw2 tb2
        exact fin_win I ⟨(k + 1 + 1 + 1), tk3, T0, T1, T2, (tab_sb (cb + 5)), es, n, sl, jt, er, ew, x0, x1, x2, x3, x4, (cb + 5, cd5 cb ct)⟩ e (by show dOut _ _ _ _ _ (WS.D _ _ _ _) _ _ _ = _; unfold WS.D; dsimp only; rw [hb]; rfl) (by unfold WS.D; dsimp only; rw [hb]) (by dsimp only; omega) (by dsimp only; omega) rfl rfl ⟨ht.ca, ht.wr, ht.en, ht.sb⟩ (.inl I.e0) (.inl I.e1) (.inl I.e2) (.inl I.e3) (.inl I.e4) (.inl I.e5)
      · have e := f_sg01q w t1 its c x0 x1 x2 x3 x4 (cb + 5, cd5 cb ct) (boxO (t1 + 1998) sm k tk) (boxO (t1 + 1998) sm (k + 1) tk1) (boxO (t1 + 1998) sm (k + 1 + 1) tk2) (boxO (t1 + 1998) sm (k + 1 + 1 + 1) tk3) T0 T1 T2 (tab_sb (cb + 5)) (frO es n sl) (jrO w.params (t1 + 1998) jt) (ownO w.params (t1 + 1998) er ew) (endO er ew) B T tw0 tb0 tw1 tb1 tw2 tb2
        exact fin_win I ⟨(k + 1 + 1 + 1), tk3, T0, T1, T2, (tab_sb (cb + 5)), es, n, sl, jt, er, ew, x0, x1, x2, x3, x4, (cb + 5, cd5 cb ct)⟩ e (by show dOut _ _ _ _ _ (WS.D _ _ _ _) _ _ _ = _; unfold WS.D; dsimp only; rw [hb]; rfl) (by unfold WS.D; dsimp only; rw [hb]) (by dsimp only; omega) (by dsimp only; omega) rfl rfl ⟨ht.ca, ht.wr, ht.en, ht.sb⟩ (.inl I.e0) (.inl I.e1) (.inl I.e2) (.inl I.e3) (.inl I.e4) (.inl I.e5)
      · have e := f_sb02c w t1 its c x0 x1 x2 x3 x4 (boxO (t1 + 1998) sm k tk) (boxO (t1 + 1998) sm (k + 1) tk1) (boxO (t1 + 1998) sm (k + 1 + 1) tk2) (boxO (t1 + 1998) sm (k + 1 + 1 + 1) tk3) T0 T1 T2 (jrO w.params (t1 + 1998) jt) (pipO (t1 + 1998) (er || ew)) (ownO w.params (t1 + 1998) er ew) (endO er ew) B T tw0 tb0 tw1 tb1 tw2 tb2 cb ct es n sl
        exact fin_win I ⟨(k + 1 + 1 + 1), tk3, T0, T1, T2, (tab_sb (cb + 5)), es, n, (mkN 1 sl), jt, er, ew, x0, x1, x2, x3, x4, (cb + 5, cd5 cb ct)⟩ e rfl rfl (by dsimp only; omega) (by dsimp only; omega) rfl rfl ⟨ht.ca, ht.wr, ht.en, .inr ⟨cb, ct, rfl, rfl⟩⟩ (.inl I.e0) (.inl I.e1) (.inl I.e2) (.inl I.e3) (.inl I.e4) (.inl I.e5)
      · have e := f_sb03c w t1 its c x0 x1 x2 x3 x4 (boxO (t1 + 1998) sm k tk) (boxO (t1 + 1998) sm (k + 1) tk1) (boxO (t1 + 1998) sm (k + 1 + 1) tk2) (boxO (t1 + 1998) sm (k + 1 + 1 + 1) tk3) T0 T1 T2 (jrO w.params (t1 + 1998) jt) (pipO (t1 + 1998) (er || ew)) (ownO w.params (t1 + 1998) er ew) (endO er ew) B T tw0 tb0 tw1 tb1 tw2 tb2 cb ct es n sl
        exact fin_win I ⟨(k + 1 + 1 + 1), tk3, T0, T1, T2, (tab_sb (cb + 5)), es, n, (mkN 1 sl), jt, er, ew, x0, x1, x2, x3, x4, (cb + 5, cd5 cb ct)⟩ e rfl rfl (by dsimp only; omega) (by dsimp only; omega) rfl rfl ⟨ht.ca, ht.wr, ht.en, .inr ⟨cb, ct, rfl, rfl⟩⟩ (.inl I.e0) (.inl I.e1) (.inl I.e2) (.inl I.e3) (.inl I.e4) (.inl I.e5)
      · have e := f_sb04c w t1 its c x0 x1 x2 x3 x4 (boxO (t1 + 1998) sm k tk) (boxO (t1 + 1998) sm (k + 1) tk1) (boxO (t1 + 1998) sm (k + 1 + 1) tk2) (boxO (t1 + 1998) sm (k + 1 + 1 + 1) tk3) T0 T1 T2 (jrO w.params (t1 + 1998) jt) (pipO (t1 + 1998) (er || ew)) (ownO w.params (t1 + 1998) er ew) (endO er ew) B T tw0 tb0 tw1 tb1 tw2 tb2 cb ct es n sl
        exact fin_win I ⟨(k + 1 + 1 + 1), tk3, T0, T1, T2, (tab_sb (cb + 5)), es, n, (mkN 1 sl), jt, er, ew, x0, x1, x2, x3, x4, (cb + 5, cd5 cb ct)⟩ e rfl rfl (by dsimp only; omega) (by dsimp only; omega) rfl rfl ⟨ht.ca, ht.wr, ht.en, .inr ⟨cb, ct, rfl, rfl⟩⟩ (.inl I.e0) (.inl I.e1) (.inl I.e2) (.inl I.e3) (.inl I.e4) (.inl I.e5)
    · refine tk_win (peel2_ok w) (n2_0 w t1 its c x0 x1 x2 x3 x4 (cb + 5, cd5 cb ct) (boxO (t1 + 1998) sm k tk) (boxO (t1 + 1998) sm (k + 1) tk1) (boxO (t1 + 1998) sm (k + 1 + 1) tk2) T0 T1 T2 (tab_sb (cb + 5)) (frO es n sl) (jrO w.params (t1 + 1998) jt) (pipO (t1 + 1998) (er || ew)) (ownO w.params (t1 + 1998) er ew) (endO er ew) B T tw0 tb0 tw1 tb1) rfl I.st hc.isInt hc.size (by omega) (by omega) (by omega) (by decide) (fun y => pk [fo_sg00p, fo_sg01p, fo_sb02c, fo_sb03c, fo_sb04c] y.toNat) _ rfl fun way tw2 tk3 tb2 h0 h1 => ?_
      rcases (by omega : way = 0 ∨ way = 1 ∨ way = 2 ∨ way = 3 ∨ way = 4) with rfl | rfl | rfl | rfl | rfl
      · have e := f_sg00p w t1 its c x0 x1 x2 x3 x4 (cb + 5, cd5 cb ct) (boxO (t1 + 1998) sm k tk) (boxO (t1 + 1998) sm (k + 1) tk1) (boxO (t1 + 1998) sm (k + 1 + 1) tk2) (boxO (t1 + 1998) sm (k + 1 + 1 + 1) tk3) T0 T1 T2 (tab_sb (cb + 5)) (frO es n sl) (jrO w.params (t1 + 1998) jt) (ownO w.params (t1 + 1998) er ew) (endO er ew) B T tw0 tb0 tw1 tb1 tw2 tb2
        exact fin_win I ⟨(k + 1 + 1 + 1), tk3, T0, T1, T2, (tab_sb (cb + 5)), es, n, sl, jt, er, ew, x0, x1, x2, x3, x4, (cb + 5, cd5 cb ct)⟩ e (by show dOut _ _ _ _ _ (WS.D _ _ _ _) _ _ _ = _; unfold WS.D; dsimp only; rw [hb]; rfl) (by unfold WS.D; dsimp only; rw [hb]) (by dsimp only; omega) (by dsimp only; omega) rfl rfl ⟨ht.ca, ht.wr, ht.en, ht.sb⟩ (.inl I.e0) (.inl I.e1) (.inl I.e2) (.inl I.e3) (.inl I.e4) (.inl I.e5)
      · have e := f_sg01p w t1 its c x0 x1 x2 x3 x4 (cb + 5, cd5 cb ct) (boxO (t1 + 1998) sm k tk) (boxO (t1 + 1998) sm (k + 1) tk1) (boxO (t1 + 1998) sm (k + 1 + 1) tk2) (boxO (t1 + 1998) sm (k + 1 + 1 + 1) tk3) T0 T1 T2 (tab_sb (cb + 5)) (frO es n sl) (jrO w.params (t1 + 1998) jt) (ownO w.params (t1 + 1998) er ew) (endO er ew) B T tw0 tb0 tw1 tb1 tw2 tb2
        exact fin_win I ⟨(k + 1 + 1 + 1), tk3, T0, T1, T2, (tab_sb (cb + 5)), es, n, sl, jt, er, ew, x0, x1, x2, x3, x4, (cb + 5, cd5 cb ct)⟩ e (by show dOut _ _ _ _ _ (WS.D _ _ _ _) _ _ _ = _; unfold WS.D; dsimp only; rw [hb]; rfl) (by unfold WS.D; dsimp only; rw [hb]) (by dsimp only; omega) (by dsimp only; omega) rfl rfl ⟨ht.ca, ht.wr, ht.en, ht.sb⟩ (.inl I.e0) (.inl I.e1) (.inl I.e2) (.inl I.e3) (.inl I.e4) (.inl I.e5)
      · have e := f_sb02c w t1 its c x0 x1 x2 x3 x4 (boxO (t1 + 1998) sm k tk) (boxO (t1 + 1998) sm (k + 1) tk1) (boxO (t1 + 1998) sm (k + 1 + 1) tk2) (boxO (t1 + 1998) sm (k + 1 + 1 + 1) tk3) T0 T1 T2 (jrO w.params (t1 + 1998) jt) (pipO (t1 + 1998) (er || ew)) (ownO w.params (t1 + 1998) er ew) (endO er ew) B T tw0 tb0 tw1 tb1 tw2 tb2 cb ct es n sl
        exact fin_win I ⟨(k + 1 + 1 + 1), tk3, T0, T1, T2, (tab_sb (cb + 5)), es, n, (mkN 1 sl), jt, er, ew, x0, x1, x2, x3, x4, (cb + 5, cd5 cb ct)⟩ e rfl rfl (by dsimp only; omega) (by dsimp only; omega) rfl rfl ⟨ht.ca, ht.wr, ht.en, .inr ⟨cb, ct, rfl, rfl⟩⟩ (.inl I.e0) (.inl I.e1) (.inl I.e2) (.inl I.e3) (.inl I.e4) (.inl I.e5)
      · have e := f_sb03c w t1 its c x0 x1 x2 x3 x4 (boxO (t1 + 1998) sm k tk) (boxO (t1 + 1998) sm (k + 1) tk1) (boxO (t1 + 1998) sm (k + 1 + 1) tk2) (boxO (t1 + 1998) sm (k + 1 + 1 + 1) tk3) T0 T1 T2 (jrO w.params (t1 + 1998) jt) (pipO (t1 + 1998) (er || ew)) (ownO w.params (t1 + 1998) er ew) (endO er ew) B T tw0 tb0 tw1 tb1 tw2 tb2 cb ct es n sl
        exact fin_win I ⟨(k + 1 + 1 + 1), tk3, T0, T1, T2, (tab_sb (cb + 5)), es, n, (mkN 1 sl), jt, er, ew, x0, x1, x2, x3, x4, (cb + 5, cd5 cb ct)⟩ e rfl rfl (by dsimp only; omega) (by dsimp only; omega) rfl rfl ⟨ht.ca, ht.wr, ht.en, .inr ⟨cb, ct, rfl, rfl⟩⟩ (.inl I.e0) (.inl I.e1) (.inl I.e2) (.inl I.e3) (.inl I.e4) (.inl I.e5)
      · have e := f_sb04c w t1 its c x0 x1 x2 x3 x4 (boxO (t1 + 1998) sm k tk) (boxO (t1 + 1998) sm (k + 1) tk1) (boxO (t1 + 1998) sm (k + 1 + 1) tk2) (boxO (t1 + 1998) sm (k + 1 + 1 + 1) tk3) T0 T1 T2 (jrO w.params (t1 + 1998) jt) (pipO (t1 + 1998) (er || ew)) (ownO w.params (t1 + 1998) er ew) (endO er ew) B T tw0 tb0 tw1 tb1 tw2 tb2 cb ct es n sl
        exact fin_win I ⟨(k + 1 + 1 + 1), tk3, T0, T1, T2, (tab_sb (cb + 5)), es, n, (mkN 1 sl), jt, er, ew, x0, x1, x2, x3, x4, (cb + 5, cd5 cb ct)⟩ e rfl rfl (by dsimp only; omega) (by dsimp only; omega) rfl rfl ⟨ht.ca, ht.wr, ht.en, .inr ⟨cb, ct, rfl, rfl⟩⟩ (.inl I.e0) (.inl I.e1) (.inl I.e2) (.inl I.e3) (.inl I.e4) (.inl I.e5)
theorem wi_sb1 (tw0 tk1 tb0 tw1 tk2 tb1 : Nat) : Win (model M9.tw w) s.heap σ.E s.os s.drawn (RD w t1 its c sm σ s) (fun as => dOut w.params (t1 + 1998) its c σ.E (σ.D w.params t1 sm) (B + 1488) (T + 1998) (aTk 4 tw0 (boxO (t1 + 1998) sm (σ.k + 1) tk1) ((B + 1488) + 2) (tb0 + 1998) (or1 4) :: aTk 1 tw1 (boxO (t1 + 1998) sm (σ.k + 1 + 1) tk2) ((B + 1488) + 11) (tb1 + 1998) (or2 1) :: as)) := by
  obtain ⟨k, tk, T0, T1, T2, T3, es, n, sl, jt, er, ew, x0, x1, x2, x3, x4, x5⟩ := σ
  have ht := I.tb
  have k0 : 0 ≤ k := I.k0
  dsimp only at ht hk2
  rcases ht.sb with rfl | ⟨cb, ct, rfl, rfl⟩
  · cases hb : (er || ew)
    · refine tk_win (peel2_ok w) (n2_1 w t1 its c x0 x1 x2 x3 x4 x5 (boxO (t1 + 1998) sm k tk) (boxO (t1 + 1998) sm (k + 1) tk1) (boxO (t1 + 1998) sm (k + 1 + 1) tk2) T0 T1 T2 (nO []) (frO es n sl) (jrO w.params (t1 + 1998) jt) (pipO (t1 + 1998) (er || ew)) (ownO w.params (t1 + 1998) er ew) (endO er ew) B T tw0 tb0 tw1 tb1) rfl I.st hc.isInt hc.size (by omega) (by omega) (by omega) (by decide) (fun y => pk [fo_sg10q, fo_sg11q, fo_sb12f, fo_sb13f, fo_sb14f] y.toNat) _ rfl fun way tw2 tk3 tb2 h0 h1 => ?_
      rcases (by omega : way = 0 ∨ way = 1 ∨ way = 2 ∨ way = 3 ∨ way = 4) with rfl | rfl | rfl | rfl | rfl
      · have e := f_sg10q w t1 its c x0 x1 x2 x3 x4 x5 (boxO (t1 + 1998) sm k tk) (boxO (t1 + 1998) sm (k + 1) tk1) (boxO (t1 + 1998) sm (k + 1 + 1) tk2) (boxO (t1 + 1998) sm (k + 1 + 1 + 1) tk3) T0 T1 T2 (nO []) (frO es n sl) (jrO w.params (t1 + 1998) jt) (ownO w.params (t1 + 1998) er ew) (endO er ew) B T tw0 tb0 tw1 tb1 tw2 tb2
        exact fin_win I ⟨(k + 1 + 1 + 1), tk3, T0, T1, T2, (nO []), es, n, sl, jt, er, ew, x0, x1, x2, x3, x4, x5⟩ e (by show dOut _ _ _ _ _ (WS.D _ _ _ _) _ _ _ = _; unfold WS.D; dsimp only; rw [hb]; rfl) (by unfold WS.D; dsimp only; rw [hb]) (by dsimp only; omega) (by dsimp only; omega) rfl rfl ⟨ht.ca, ht.wr, ht.en, ht.sb⟩ (.inl I.e0) (.inl I.e1) (.inl I.e2) (.inl I.e3) (.inl I.e4) (.inl I.e5)
      · have e := f_sg11q w t1 its c x0 x1 x2 x3 x4 x5 (boxO (t1 + 1998) sm k tk) (boxO (t1 + 1998) sm (k + 1) tk1) (boxO (t1 + 1998) sm (k + 1 + 1) tk2) (boxO (t1 + 1998) sm (k + 1 + 1 + 1) tk3) T0 T1 T2 (nO []) (frO es n sl) (jrO w.params (t1 + 1998) jt) (ownO w.params (t1 + 1998) er ew) (endO er ew) B T tw0 tb0 tw1 tb1 tw2 tb2
        exact fin_win I ⟨(k + 1 + 1 + 1), tk3, T0, T1, T2, (nO []), es, n, sl, jt, er, ew, x0, x1, x2, x3, x4, x5⟩ e (by show dOut _ _ _ _ _ (WS.D _ _ _ _) _ _ _ = _; unfold WS.D; dsimp only; rw [hb]; rfl) (by unfold WS.D; dsimp only; rw [hb]) (by dsimp only; omega) (by dsimp only; omega) rfl rfl ⟨ht.ca, ht.wr, ht.en, ht.sb⟩ (.inl I.e0) (.inl I.e1) (.inl I.e2) (.inl I.e3) (.inl I.e4) (.inl I.e5)
      · have e := f_sb12f w t1 its c x0 x1 x2 x3 x4 x5 (boxO (t1 + 1998) sm k tk) (boxO (t1 + 1998) sm (k + 1) tk1) (boxO (t1 + 1998) sm (k + 1 + 1) tk2) (boxO (t1 + 1998) sm (k + 1 + 1 + 1) tk3) T0 T1 T2 (jrO w.params (t1 + 1998) jt) (pipO (t1 + 1998) (er || ew)) (ownO w.params (t1 + 1998) er ew) (endO er ew) B T tw0 tb0 tw1 tb1 tw2 tb2 es n sl
        exact fin_win I ⟨(k + 1 + 1 + 1), tk3, T0, T1, T2, (tab_sb (((B + 1488) + 31) + 5)), es, n, (mkN 1 sl), jt, er, ew, x0, x1, x2, x3, x4, (((B + 1488) + 31) + 5, cd5 ((B + 1488) + 31) (tb2 + 1998))⟩ e rfl rfl (by dsimp only; omega) (by dsimp only; omega) rfl rfl ⟨ht.ca, ht.wr, ht.en, .inr ⟨((B + 1488) + 31), (tb2 + 1998), rfl, rfl⟩⟩ (.inl I.e0) (.inl I.e1) (.inl I.e2) (.inl I.e3) (.inl I.e4) (.inr ⟨nat_lit 33, (vX1 (congrArg (fun z => z.2.1) e)), rfl⟩)
      · have e := f_sb13f w t1 its c x0 x1 x2 x3 x4 x5 (boxO (t1 + 1998) sm k tk) (boxO (t1 + 1998) sm (k + 1) tk1) (boxO (t1 + 1998) sm (k + 1 + 1) tk2) (boxO (t1 + 1998) sm (k + 1 + 1 + 1) tk3) T0 T1 T2 (jrO w.params (t1 + 1998) jt) (pipO (t1 + 1998) (er || ew)) (ownO w.params (t1 + 1998) er ew) (endO er ew) B T tw0 tb0 tw1 tb1 tw2 tb2 es n sl
        exact fin_win I ⟨(k + 1 + 1 + 1), tk3, T0, T1, T2, (tab_sb (((B + 1488) + 31) + 5)), es, n, (mkN 1 sl), jt, er, ew, x0, x1, x2, x3, x4, (((B + 1488) + 31) + 5, cd5 ((B + 1488) + 31) (tb2 + 1998))⟩ e rfl rfl (by dsimp only; omega) (by dsimp only; omega) rfl rfl ⟨ht.ca, ht.wr, ht.en, .inr ⟨((B + 1488) + 31), (tb2 + 1998), rfl, rfl⟩⟩ (.inl I.e0) (.inl I.e1) (.inl I.e2) (.inl I.e3) (.inl I.e4) (.inr ⟨nat_lit 33, (vX1 (congrArg (fun z => z.2.1) e)), rfl⟩)
      · have e := f_sb14f w t1 its c x0 x1 x2 x3 x4 x5 (boxO (t1 + 1998) sm k tk) (boxO (t1 + 1998) sm (k + 1) tk1) (boxO (t1 + 1998) sm (k + 1 + 1) tk2) (boxO (t1 + 1998) sm (k + 1 + 1 + 1) tk3) T0 T1 T2 (jrO w.params (t1 + 1998) jt) (pipO (t1 + 1998) (er || ew)) (ownO w.params (t1 + 1998) er ew) (endO er ew) B T tw0 tb0 tw1 tb1 tw2 tb2 es n sl
        exact fin_win I ⟨(k + 1 + 1 + 1), tk3, T0, T1, T2, (tab_sb (((B + 1488) + 31) + 5)), es, n, (mkN 1 sl), jt, er, ew, x0, x1, x2, x3, x4, (((B + 1488) + 31) + 5, cd5 ((B + 1488) + 31) (tb2 + 1998))⟩ e rfl rfl (by dsimp only; omega) (by dsimp only; omega) rfl rfl ⟨ht.ca, ht.wr, ht.en, .inr ⟨((B + 1488) + 31), (tb2 + 1998), rfl, rfl⟩⟩ (.inl I.e0) (.inl I.e1) (.inl I.e2) (.inl I.e3) (.inl I.e4) (.inr ⟨nat_lit 33, (vX1 (congrArg (fun z => z.2.1) e)), rfl⟩)
    · refine tk_win (peel2_ok w) (n2_1 w t1 its c x0 x1 x2 x3 x4 x5 (boxO (t1 + 1998) sm k tk) (boxO (t1 + 1998) sm (k + 1) tk1) (boxO (t1 + 1998) sm (k + 1 + 1) tk2) T0 T1 T2 (nO []) (frO es n sl) (jrO w.params (t1 + 1998) jt) (pipO (t1 + 1998) (er || ew)) (ownO w.params (t1 + 1998) er ew) (endO er ew) B T tw0 tb0 tw1 tb1) rfl I.st hc.isInt hc.size (by omega) (by omega) (by omega) (by decide) (fun y => pk [fo_sg10p, fo_sg11p, fo_sb12f, fo_sb13f, fo_sb14f] y.toNat) _ rfl fun way tw2 tk3 tb2 h0 h1 => ?_
      rcases (by omega : way = 0 ∨ way = 1 ∨ way = 2 ∨ way = 3 ∨ way = 4) with rfl | rfl | rfl | rfl | rfl
      · have e := f_sg10p w t1 its c x0 x1 x2 x3 x4 x5 (boxO (t1 + 1998) sm k tk) (boxO (t1 + 1998) sm (k + 1) tk1) (boxO (t1 + 1998) sm (k + 1 + 1) tk2) (boxO (t1 + 1998) sm (k + 1 + 1 + 1) tk3) T0 T1 T2 (nO []) (frO es n sl) (jrO w.params (t1 + 1998) jt) (ownO w.params (t1 + 1998) er ew) (endO er ew) B T tw0 tb0 tw1 tb1 tw2 tb2
        exact fin_win I ⟨(k + 1 + 1 + 1), tk3, T0, T1, T2, (nO []), es, n, sl, jt, er, ew, x0, x1, x2, x3, x4, x5⟩ e (by show dOut _ _ _ _ _ (WS.D _ _ _ _) _ _ _ = _; unfold WS.D; dsimp only; rw [hb]; rfl) (by unfold WS.D; dsimp only; rw [hb]) (by dsimp only; omega) (by dsimp only; omega) rfl rfl ⟨ht.ca, ht.wr, ht.en, ht.sb⟩ (.inl I.e0) (.inl I.e1) (.inl I.e2) (.inl I.e3) (.inl I.e4) (.inl I.e5)
      · have e := f_sg11p w t1 its c x0 x1 x2 x3 x4 x5 (boxO (t1 + 1998) sm k tk) (boxO (t1 + 1998) sm (k + 1) tk1) (boxO (t1 + 1998) sm (k + 1 + 1) tk2) (boxO (t1 + 1998) sm (k + 1 + 1 + 1) tk3) T0 T1 T2 (nO []) (frO es n sl) (jrO w.params (t1 + 1998) jt) (ownO w.params (t1 + 1998) er ew) (endO er ew) B T tw0 tb0 tw1 tb1 tw2 tb2
        exact fin_win I ⟨(k + 1 + 1 + 1), tk3, T0, T1, T2, (nO []), es, n, sl, jt, er, ew, x0, x1, x2, x3, x4, x5⟩ e (by show dOut _ _ _ _ _ (WS.D _ _ _ _) _ _ _ = _; unfold WS.D; dsimp only; rw [hb]; rfl) (by unfold WS.D; dsimp only; rw [hb]) (by dsimp only; omega) (by dsimp only; omega) rfl rfl ⟨ht.ca, ht.wr, ht.en, ht.sb⟩ (.inl I.e0) (.inl I.e1) (.inl I.e2) (.inl I.e3) (.inl I.e4) (.inl I.e5)
      · have e := f_sb12f w t1 its c x0 x1 x2 x3 x4 x5 (boxO (t1 + 1998) sm k tk) (boxO (t1 + 1998) sm (k + 1) tk1) (boxO (t1 + 1998) sm (k + 1 + 1) tk2) (boxO (t1 + 1998) sm (k + 1 + 1 + 1) tk3) T0 T1 T2 (jrO w.params (t1 + 1998) jt) (pipO (t1 + 1998) (er || ew)) (ownO w.params (t1 + 1998) er ew) (endO er ew) B T tw0 tb0 tw1 tb1 tw2 tb2 es n sl
        exact fin_win I ⟨(k + 1 + 1 + 1), tk3, T0, T1, T2, (tab_sb (((B + 1488) + 31) + 5)), es, n, (mkN 1 sl), jt, er, ew, x0, x1, x2, x3, x4, (((B + 1488) + 31) + 5, cd5 ((B + 1488) + 31) (tb2 + 1998))⟩ e rfl rfl (by dsimp only; omega) (by dsimp only; omega) rfl rfl ⟨ht.ca, ht.wr, ht.en, .inr ⟨((B + 1488) + 31), (tb2 + 1998), rfl, rfl⟩⟩ (.inl I.e0) (.inl I.e1) (.inl I.e2) (.inl I.e3) (.inl I.e4) (.inr ⟨nat_lit 33, (vX1 (congrArg (fun z => z.2.1) e)), rfl⟩)
      · have e := f_sb13f w t1 its c x0 x1 x2 x3 x4 x5 (boxO (t1 + 1998) sm k tk) (boxO (t1 + 1998) sm (k + 1) tk1) (boxO (t1 + 1998) sm (k + 1 + 1) tk2) (boxO (t1 + 1998) sm (k + 1 + 1 + 1) tk3) T0 T1 T2 (jrO w.params (t1 + 1998) jt) (pipO (t1 + 1998) (er || ew)) (ownO w.params (t1 + 1998) er ew) (endO er ew) B T tw0 tb0 tw1 tb1 tw2 tb2 es n sl
        exact fin_win I ⟨(k + 1 + 1 + 1), tk3, T0, T1, T2, (tab_sb (((B + 1488) + 31) + 5)), es, n, (mkN 1 sl), jt, er, ew, x0, x1, x2, x3, x4, (((B + 1488) + 31) + 5, cd5 ((B + 1488) + 31) (tb2 + 1998))⟩ e rfl rfl (by dsimp only; omega) (by dsimp only; omega) rfl rfl ⟨ht.ca, ht.wr, ht.en, .inr ⟨((B + 1488) + 31), (tb2 + 1998), rfl, rfl⟩⟩ (.inl I.e0) (.inl I.e1) (.inl I.e2) (.inl I.e3) (.inl I.e4) (.inr ⟨nat_lit 33, (vX1 (congrArg (fun z => z.2.1) e)), rfl⟩)
      · have e := f_sb14f w t1 its c x0 x1 x2 x3 x4 x5 (boxO (t1 + 1998) sm k tk) (boxO (t1 + 1998) sm (k + 1) tk1) (boxO (t1 + 1998) sm (k + 1 + 1) tk2) (boxO (t1 + 1998) sm (k + 1 + 1 + 1) tk3) T0 T1 T2 (jrO w.params (t1 + 1998) jt) (pipO (t1 + 1998) (er || ew)) (ownO w.params (t1 + 1998) er ew) (endO er ew) B T tw0 tb0 tw1 tb1 tw2 tb2 es n sl
        exact fin_win I ⟨(k + 1 + 1 + 1), tk3, T0, T1, T2, (tab_sb (((B + 1488) + 31) + 5)), es, n, (mkN 1 sl), jt, er, ew, x0, x1, x2, x3, x4, (((B + 1488) + 31) + 5, cd5 ((B + 1488) + 31) (tb2 + 1998))⟩ e rfl rfl (by dsimp only; omega) (by dsimp only; omega) rfl rfl ⟨ht.ca, ht.wr, ht.en, .inr ⟨((B + 1488) + 31), (tb2 + 1998), rfl, rfl⟩⟩ (.inl I.e0) (.inl I.e1) (.inl I.e2) (.inl I.e3) (.inl I.e4) (.inr ⟨nat_lit 33, (vX1 (congrArg (fun z => z.2.1) e)), rfl⟩)
  · cases hb : (er || ew)
    · refine tk_win (peel2_ok w) (n2_1 w t1 its c x0 x1 x2 x3 x4 (cb + 5, cd5 cb ct) (boxO (t1 + 1998) sm k tk) (boxO (t1 + 1998) sm (k + 1) tk1) (boxO (t1 + 1998) sm (k + 1 + 1) tk2) T0 T1 T2 (tab_sb (cb + 5)) (frO es n sl) (jrO w.params (t1 + 1998) jt) (pipO (t1 + 1998) (er || ew)) (ownO w.params (t1 + 1998) er ew) (endO er ew) B T tw0 tb0 tw1 tb1) rfl I.st hc.isInt hc.size (by omega) (by omega) (by omega) (by decide) (fun y => pk [fo_sg10q, fo_sg11q, fo_sb12c, fo_sb13c, fo_sb14c] y.toNat) _ rfl fun way tw2 tk3 tb2 h0 h1 => ?_
      rcases (by omega : way = 0 ∨ way = 1 ∨ way = 2 ∨ way = 3 ∨ way = 4) with rfl | rfl | rfl | rfl | rfl
      · have e := f_sg10q w t1 its c x0 x1 x2 x3 x4 (cb + 5, cd5 cb ct) (boxO (t1 + 1998) sm k tk) (boxO (t1 + 1998) sm (k + 1) tk1) (boxO (t1 + 1998) sm (k + 1 + 1) tk2) (boxO (t1 + 1998) sm (k + 1 + 1 + 1) tk3) T0 T1 T2 (tab_sb (cb + 5)) (frO es n sl) (jrO w.params (t1 + 1998) jt) (ownO w.params (t1 + 1998) er ew) (endO er ew) B T tw0 tb0 tw1 tb1 tw2 tb2
        exact fin_win I ⟨(k + 1 + 1 + 1), tk3, T0, T1, T2, (tab_sb (cb + 5)), es, n, sl, jt, er, ew, x0, x1, x2, x3, x4, (cb + 5, cd5 cb ct)⟩ e (by show dOut _ _ _ _ _ (WS.D _ _ _ _) _ _ _ = _; unfold WS.D; dsimp only; rw [hb]; rfl) (by unfold WS.D; dsimp only; rw [hb]) (by dsimp only; omega) (by dsimp only; omega) rfl rfl ⟨ht.ca, ht.wr, ht.en, ht.sb⟩ (.inl I.e0) (.inl I.e1) (.inl I.e2) (.inl I.e3) (.inl I.e4) (.inl I.e5)
      · have e := f_sg11q w t1 its c x0 x1 x2 x3 x4 (cb + 5, cd5 cb ct) (boxO (t1 + 1998) sm k tk) (boxO (t1 + 1998) sm (k + 1) tk1) (boxO (t1 + 1998) sm (k + 1 + 1) tk2) (boxO (t1 + 1998) sm (k + 1 + 1 + 1) tk3) T0 T1 T2 (tab_sb (cb + 5)) (frO es n sl) (jrO w.params (t1 + 1998) jt) (ownO w.params (t1 + 1998) er ew) (endO er ew) B T tw0 tb0 tw1 tb1 tw2 tb2
        exact fin_win I ⟨(k + 1 + 1 + 1), tk3, T0, T1, T2, (tab_sb (cb + 5)), es, n, sl, jt, er, ew, x0, x1, x2, x3, x4, (cb + 5, cd5 cb ct)⟩ e (by show dOut _ _ _ _ _ (WS.D _ _ _ _) _ _ _ = _; unfold WS.D; dsimp only; rw [hb]; rfl) (by unfold WS.D; dsimp only; rw [hb]) (by dsimp only; omega) (by dsimp only; omega) rfl rfl ⟨ht.ca, ht.wr, ht.en, ht.sb⟩ (.inl I.e0) (.inl I.e1) (.inl I.e2) (.inl I.e3) (.inl I.e4) (.inl I.e5)
      · have e := f_sb12c w t1 its c x0 x1 x2 x3 x4 (boxO (t1 + 1998) sm k tk) (boxO (t1 + 1998) sm (k + 1) tk1) (boxO (t1 + 1998) sm (k + 1 + 1) tk2) (boxO (t1 + 1998) sm (k + 1 + 1 + 1) tk3) T0 T1 T2 (jrO w.params (t1 + 1998) jt) (pipO (t1 + 1998) (er || ew)) (ownO w.params (t1 + 1998) er ew) (endO er ew) B T tw0 tb0 tw1 tb1 tw2 tb2 cb ct es n sl
        exact fin_win I ⟨(k + 1 + 1 + 1), tk3, T0, T1, T2, (tab_sb (cb + 5)), es, n, (mkN 1 sl), jt, er, ew, x0, x1, x2, x3, x4, (cb + 5, cd5 cb ct)⟩ e rfl rfl (by dsimp only; omega) (by dsimp only; omega) rfl rfl ⟨ht.ca, ht.wr, ht.en, .inr ⟨cb, ct, rfl, rfl⟩⟩ (.inl I.e0) (.inl I.e1) (.inl I.e2) (.inl I.e3) (.inl I.e4) (.inl I.e5)
      · have e := f_sb13c w t1 its c x0 x1 x2 x3 x4 (boxO (t1 + 1998) sm k tk) (boxO (t1 + 1998) sm (k + 1) tk1) (boxO (t1 + 1998) sm (k + 1 + 1) tk2) (boxO (t1 + 1998) sm (k + 1 + 1 + 1) tk3) T0 T1 T2 (jrO w.params (t1 + 1998) jt) (pipO (t1 + 1998) (er || ew)) (ownO w.params (t1 + 1998) er ew) (endO er ew) B T tw0 tb0 tw1 tb1 tw2 tb2 cb ct es n sl
        exact fin_win I ⟨(k + 1 + 1 + 1), tk3, T0, T1, T2, (tab_sb (cb + 5)), es, n, (mkN 1 sl), jt, er, ew, x0, x1, x2, x3, x4, (cb + 5, cd5 cb ct)⟩ e rfl rfl (by dsimp only; omega) (by dsimp only; omega) rfl rfl ⟨ht.ca, ht.wr, ht.en, .inr ⟨cb, ct, rfl, rfl⟩⟩ (.inl I.e0) (.inl I.e1) (.inl I.e2) (.inl I.e3) (.inl I.e4) (.inl I.e5)
      · have e := f_sb14c w t1 its c x0 x1 x2 x3 x4 (boxO (t1 + 1998) sm k tk) (boxO (t1 + 1998) sm (k + 1) tk1) (boxO (t1 + 1998) sm (k + 1 + 1) tk2) (boxO (t1 + 1998) sm (k + 1 + 1 + 1) tk3) T0 T1 T2 (jrO w.params (t1 + 1998) jt) (pipO (t1 + 1998) (er || ew)) (ownO w.params (t1 + 1998) er ew) (endO er ew) B T tw0 tb0 tw1 tb1 tw2 tb2 cb ct es n sl
        exact fin_win I ⟨(k + 1 + 1 + 1), tk3, T0, T1, T2, (tab_sb (cb + 5)), es, n, (mkN 1 sl), jt, er, ew, x0, x1, x2, x3, x4, (cb + 5, cd5 cb ct)⟩ e rfl rfl (by dsimp only; omega) (by dsimp only; omega) rfl rfl ⟨ht.ca, ht.wr, ht.en, .inr ⟨cb, ct, rfl, rfl⟩⟩ (.inl I.e0) (.inl I.e1) (.inl I.e2) (.inl I.e3) (.inl I.e4) (.inl I.e5)
    · refine tk_win (peel2_ok w) (n2_1 w t1 its c x0 x1 x2 x3 x4 (cb + 5, cd5 cb ct) (boxO (t1 + 1998) sm k tk) (boxO (t1 + 1998) sm (k + 1) tk1) (boxO (t1 + 1998) sm (k + 1 + 1) tk2) T0 T1 T2 (tab_sb (cb + 5)) (frO es n sl) (jrO w.params (t1 + 1998) jt) (pipO (t1 + 1998) (er || ew)) (ownO w.params (t1 + 1998) er ew) (endO er ew) B T tw0 tb0 tw1 tb1) rfl I.st hc.isInt hc.size (by omega) (by omega) (by omega) (by decide) (fun y => pk [fo_sg10p, fo_sg11p, fo_sb12c, fo_sb13c, fo_sb14c] y.toNat) _ rfl fun way tw2 tk3 tb2 h0 h1 => ?_
      rcases (by omega : way = 0 ∨ way = 1 ∨ way = 2 ∨ way = 3 ∨ way = 4) with rfl | rfl | rfl | rfl | rfl
      · have e := f_sg10p w t1 its c x0 x1 x2 x3 x4 (cb + 5, cd5 cb ct) (boxO (t1 + 1998) sm k tk) (boxO (t1 + 1998) sm (k + 1) tk1) (boxO (t1 + 1998) sm (k + 1 + 1) tk2) (boxO (t1 + 1998) sm (k + 1 + 1 + 1) tk3) T0 T1 T2 (tab_sb (cb + 5)) (frO es n sl) (jrO w.params (t1 + 1998) jt) (ownO w.params (t1 + 1998) er ew) (endO er ew) B T tw0 tb0 tw1 tb1 tw2 tb2
        exact fin_win I ⟨(k + 1 + 1 + 1), tk3, T0, T1, T2, (tab_sb (cb + 5)), es, n, sl, jt, er, ew, x0, x1, x2, x3, x4, (cb + 5, cd5 cb ct)⟩ e (by show dOut _ _ _ _ _ (WS.D _ _ _ _) _ _ _ = _; unfold WS.D; dsimp only; rw [hb]; rfl) (by unfold WS.D; dsimp only; rw [hb]) (by dsimp only; omega) (by dsimp only; omega) rfl rfl ⟨ht.ca, ht.wr, ht.en, ht.sb⟩ (.inl I.e0) (.inl I.e1) (.inl I.e2) (.inl I.e3) (.inl I.e4) (.inl I.e5)
      · have e := f_sg11p w t1 its c x0 x1 x2 x3 x4 (cb + 5, cd5 cb ct) (boxO (t1 + 1998) sm k tk) (boxO (t1 + 1998) sm (k + 1) tk1) (boxO (t1 + 1998) sm (k + 1 + 1) tk2) (boxO (t1 + 1998) sm (k + 1 + 1 + 1) tk3) T0 T1 T2 (tab_sb (cb + 5)) (frO es n sl) (jrO w.params (t1 + 1998) jt) (ownO w.params (t1 + 1998) er ew) (endO er ew) B T tw0 tb0 tw1 tb1 tw2 tb2
        exact fin_win I ⟨(k + 1 + 1 + 1), tk3, T0, T1, T2, (tab_sb (cb + 5)), es, n, sl, jt, er, ew, x0, x1, x2, x3, x4, (cb + 5, cd5 cb ct)⟩ e (by show dOut _ _ _ _ _ (WS.D _ _ _ _) _ _ _ = _; unfold WS.D; dsimp only; rw [hb]; rfl) (by unfold WS.D; dsimp only; rw [hb]) (by dsimp only; omega) (by dsimp only; omega) rfl rfl ⟨ht.ca, ht.wr, ht.en, ht.sb⟩ (.inl I.e0) (.inl I.e1) (.inl I.e2) (.inl I.e3) (.inl I.e4) (.inl I.e5)
      · have e := f_sb12c w t1 its c x0 x1 x2 x3 x4 (boxO (t1 + 1998) sm k tk) (boxO (t1 + 1998) sm (k + 1) tk1) (boxO (t1 + 1998) sm (k + 1 + 1) tk2) (boxO (t1 + 1998) sm (k + 1 + 1 + 1) tk3) T0 T1 T2 (jrO w.params (t1 + 1998) jt) (pipO (t1 + 1998) (er || ew)) (ownO w.params (t1 + 1998) er ew) (endO er ew) B T tw0 tb0 tw1 tb1 tw2 tb2 cb ct es n sl
        exact fin_win I ⟨(k + 1 + 1 + 1), tk3, T0, T1, T2, (tab_sb (cb + 5)), es, n, (mkN 1 sl), jt, er, ew, x0, x1, x2, x3, x4, (cb + 5, cd5 cb ct)⟩ e rfl rfl (by dsimp only; omega) (by dsimp only; omega) rfl rfl ⟨ht.ca, ht.wr, ht.en, .inr ⟨cb, ct, rfl, rfl⟩⟩ (.inl I.e0) (.inl I.e1) (.inl I.e2) (.inl I.e3) (.inl I.e4) (.inl I.e5)
      · have e := f_sb13c w t1 its c x0 x1 x2 x3 x4 (boxO (t1 + 1998) sm k tk) (boxO (t1 + 1998) sm (k + 1) tk1) (boxO (t1 + 1998) sm (k + 1 + 1) tk2) (boxO (t1 + 1998) sm (k + 1 + 1 + 1) tk3) T0 T1 T2 (jrO w.params (t1 + 1998) jt) (pipO (t1 + 1998) (er || ew)) (ownO w.params (t1 + 1998) er ew) (endO er ew) B T tw0 tb0 tw1 tb1 tw2 tb2 cb ct es n sl
        exact fin_win I ⟨(k + 1 + 1 + 1), tk3, T0, T1, T2, (tab_sb (cb + 5)), es, n, (mkN 1 sl), jt, er, ew, x0, x1, x2, x3, x4, (cb + 5, cd5 cb ct)⟩ e rfl rfl (by dsimp only; omega) (by dsimp only; omega) rfl rfl ⟨ht.ca, ht.wr, ht.en, .inr ⟨cb, ct, rfl, rfl⟩⟩ (.inl I.e0) (.inl I.e1) (.inl I.e2) (.inl I.e3) (.inl I.e4) (.inl I.e5)
      · have e := f_sb14c w t1 its c x0 x1 x2 x3 x4 (boxO (t1 + 1998) sm k tk) (boxO (t1 + 1998) sm (k + 1) tk1) (boxO (t1 + 1998) sm (k + 1 + 1) tk2) (boxO (t1 + 1998) sm (k + 1 + 1 + 1) tk3) T0 T1 T2 (jrO w.params (t1 + 1998) jt) (pipO (t1 + 1998) (er || ew)) (ownO w.params (t1 + 1998) er ew) (endO er ew) B T tw0 tb0 tw1 tb1 tw2 tb2 cb ct es n sl
        exact fin_win I ⟨(k + 1 + 1 + 1), tk3, T0, T1, T2, (tab_sb (cb + 5)), es, n, (mkN 1 sl), jt, er, ew, x0, x1, x2, x3, x4, (cb + 5, cd5 cb ct)⟩ e rfl rfl (by dsimp only; omega) (by dsimp only; omega) rfl rfl ⟨ht.ca, ht.wr, ht.en, .inr ⟨cb, ct, rfl, rfl⟩⟩ (.inl I.e0) (.inl I.e1) (.inl I.e2) (.inl I.e3) (.inl I.e4) (.inl I.e5)
theorem wi_sh (tw0 tk1 tb0 : Nat) : Win (model M9.tw w) s.heap σ.E s.os s.drawn (RD w t1 its c sm σ s) (fun as => dOut w.params (t1 + 1998) its c σ.E (σ.D w.params t1 sm) (B + 1488) (T + 1998) (aTk 4 tw0 (boxO (t1 + 1998) sm (σ.k + 1) tk1) ((B + 1488) + 2) (tb0 + 1998) (or1 4) :: as)) := by
  have z0 := wi_sb0 σ I hc hk2 B T tw0 tk1 tb0
  have z1 := wi_sb1 σ I hc hk2 B T tw0 tk1 tb0
  obtain ⟨k, tk, T0, T1, T2, T3, es, n, sl, jt, er, ew, x0, x1, x2, x3, x4, x5⟩ := σ
  have ht := I.tb
  have k0 : 0 ≤ k := I.k0
  dsimp only at ht hk2
  refine tk_win (peel2_ok w) (n1_4 w t1 its c x0 x1 x2 x3 x4 x5 (boxO (t1 + 1998) sm k tk) (boxO (t1 + 1998) sm (k + 1) tk1) T0 T1 T2 T3 (frO es n sl) (jrO w.params (t1 + 1998) jt) (pipO (t1 + 1998) (er || ew)) (ownO w.params (t1 + 1998) er ew) (endO er ew) B T tw0 tb0) rfl I.st hc.isInt hc.size (by omega) (by omega) (by omega) (by decide) (fun y => pk [or2 0, or2 1] y.toNat) _ rfl fun way tw1 tk2 tb1 h0 h1 => ?_
  rcases (by omega : way = 0 ∨ way = 1) with rfl | rfl
  · exact z0 tw1 tk2 tb1
  · exact z1 tw1 tk2 tb1
theorem wi_ow (tw0 tk1 tb0 : Nat) : Win (model M9.tw w) s.heap σ.E s.os s.drawn (RD w t1 its c sm σ s) (fun as => dOut w.params (t1 + 1998) its c σ.E (σ.D w.params t1 sm) (B + 1488) (T + 1998) (aTk 5 tw0 (boxO (t1 + 1998) sm (σ.k + 1) tk1) ((B + 1488) + 2) (tb0 + 1998) (or1 5) :: as)) := by
  obtain ⟨k, tk, T0, T1, T2, T3, es, n, sl, jt, er, ew, x0, x1, x2, x3, x4, x5⟩ := σ
  have ht := I.tb
  have k0 : 0 ≤ k := I.k0
  dsimp only at ht hk2
  cases er
  · cases ew
    · refine tk_win (peel1_ok w) (n1_5 w t1 its c x0 x1 x2 x3 x4 x5 (boxO (t1 + 1998) sm k tk) (boxO (t1 + 1998) sm (k + 1) tk1) T0 T1 T2 T3 (frO es n sl) (jrO w.params (t1 + 1998) jt) (pipO (t1 + 1998) (false || false)) (ownO w.params (t1 + 1998) false false) (endO false false) B T tw0 tb0) rfl I.st hc.isInt hc.size (by omega) (by omega) (by omega) (by decide) (fun y => pk [fo_ow0ff, fo_ow1ff] y.toNat) _ rfl fun way tw1 tk2 tb1 h0 h1 => ?_
      rcases (by omega : way = 0 ∨ way = 1) with rfl | rfl
      · have e := f_ow0ff w t1 its c x0 x1 x2 x3 x4 x5 (boxO (t1 + 1998) sm k tk) (boxO (t1 + 1998) sm (k + 1) tk1) (boxO (t1 + 1998) sm (k + 1 + 1) tk2) T0 T1 T2 T3 (frO es n sl) (jrO w.params (t1 + 1998) jt) B T tw0 tb0 tw1 tb1
        exact fin_win I ⟨(k + 1 + 1), tk2, T0, T1, T2, T3, es, n, sl, jt, false, false, x0, x1, x2, x3, x4, x5⟩ e rfl rfl (by dsimp only; omega) (by dsimp only; omega) rfl rfl ⟨ht.ca, ht.wr, ht.en, ht.sb⟩ (.inl I.e0) (.inl I.e1) (.inl I.e2) (.inl I.e3) (.inl I.e4) (.inl I.e5)
      · have e := f_ow1ff w t1 its c x0 x1 x2 x3 x4 x5 (boxO (t1 + 1998) sm k tk) (boxO (t1 + 1998) sm (k + 1) tk1) (boxO (t1 + 1998) sm (k + 1 + 1) tk2) T0 T1 T2 T3 (frO es n sl) (jrO w.params (t1 + 1998) jt) B T tw0 tb0 tw1 tb1
        exact fin_win I ⟨(k + 1 + 1), tk2, T0, T1, T2, T3, es, n, sl, jt, false, false, x0, x1, x2, x3, x4, x5⟩ e rfl rfl (by dsimp only; omega) (by dsimp only; omega) rfl rfl ⟨ht.ca, ht.wr, ht.en, ht.sb⟩ (.inl I.e0) (.inl I.e1) (.inl I.e2) (.inl I.e3) (.inl I.e4) (.inl I.e5)
    · refine tk_win (peel1_ok w) (n1_5 w t1 its c x0 x1 x2 x3 x4 x5 (boxO (t1 + 1998) sm k tk) (boxO (t1 + 1998) sm (k + 1) tk1) T0 T1 T2 T3 (frO es n sl) (jrO w.params (t1 + 1998) jt) (pipO (t1 + 1998) (false || true)) (ownO w.params (t1 + 1998) false true) (endO false true) B T tw0 tb0) rfl I.st hc.isInt hc.size (by omega) (by omega) (by omega) (by decide) (fun y => pk [fo_ow0ft, fo_ow1ft] y.toNat) _ rfl fun way tw1 tk2 tb1 h0 h1 => ?_
      rcases (by omega : way = 0 ∨ way = 1) with rfl | rfl
      · have e := f_ow0ft w t1 its c x0 x1 x2 x3 x4 x5 (boxO (t1 + 1998) sm k tk) (boxO (t1 + 1998) sm (k + 1) tk1) (boxO (t1 + 1998) sm (k + 1 + 1) tk2) T0 T1 T2 T3 (frO es n sl) (jrO w.params (t1 + 1998) jt) B T tw0 tb0 tw1 tb1
        exact fin_win I ⟨(k + 1 + 1), tk2, T0, T1, T2, T3, es, n, sl, jt, false, true, x0, x1, x2, x3, x4, x5⟩ e rfl rfl (by dsimp only; omega) (by dsimp only; omega) rfl rfl ⟨ht.ca, ht.wr, ht.en, ht.sb⟩ (.inl I.e0) (.inl I.e1) (.inl I.e2) (.inl I.e3) (.inl I.e4) (.inl I.e5)
      · have e := f_ow1ft w t1 its c x0 x1 x2 x3 x4 x5 (boxO (t1 + 1998) sm k tk) (boxO (t1 + 1998) sm (k + 1) tk1) (boxO (t1 + 1998) sm (k + 1 + 1) tk2) T0 T1 T2 T3 (frO es n sl) (jrO w.params (t1 + 1998) jt) B T tw0 tb0 tw1 tb1
        exact fin_win I ⟨(k + 1 + 1), tk2, T0, T1, T2, T3, es, n, sl, jt, false, false, x0, x1, x2, x3, x4, x5⟩ e rfl rfl (by dsimp only; omega) (by dsimp only; omega) rfl rfl ⟨ht.ca, ht.wr, ht.en, ht.sb⟩ (.inl I.e0) (.inl I.e1) (.inl I.e2) (.inl I.e3) (.inl I.e4) (.inl I.e5)
  · cases ew
    · refine tk_win (peel1_ok w) (n1_5 w t1 its c x0 x1 x2 x3 x4 x5 (boxO (t1 + 1998) sm k tk) (boxO (t1 + 1998) sm (k + 1) tk1) T0 T1 T2 T3 (frO es n sl) (jrO w.params (t1 + 1998) jt) (pipO (t1 + 1998) (true || false)) (ownO w.params (t1 + 1998) true false) (endO true false) B T tw0 tb0) rfl I.st hc.isInt hc.size (by omega) (by omega) (by omega) (by decide) (fun y => pk [fo_ow0tf, fo_ow1tf] y.toNat) _ rfl fun way tw1 tk2 tb1 h0 h1 => ?_
      rcases (by omega : way = 0 ∨ way = 1) with rfl | rfl
      · have e := f_ow0tf w t1 its c x0 x1 x2 x3 x4 x5 (boxO (t1 + 1998) sm k tk) (boxO (t1 + 1998) sm (k + 1) tk1) (boxO (t1 + 1998) sm (k + 1 + 1) tk2) T0 T1 T2 T3 (frO es n sl) (jrO w.params (t1 + 1998) jt) B T tw0 tb0 tw1 tb1
        exact fin_win I ⟨(k + 1 + 1), tk2, T0, T1, T2, T3, es, n, sl, jt, false, false, x0, x1, x2, x3, x4, x5⟩ e rfl rfl (by dsimp only; omega) (by dsimp only; omega) rfl rfl ⟨ht.ca, ht.wr, ht.en, ht.sb⟩ (.inl I.e0) (.inl I.e1) (.inl I.e2) (.inl I.e3) (.inl I.e4) (.inl I.e5)
      · have e := f_ow1tf w t1 its c x0 x1 x2 x3 x4 x5 (boxO (t1 + 1998) sm k tk) (boxO (t1 + 1998) sm (k + 1) tk1) (boxO (t1 + 1998) sm (k + 1 + 1) tk2) T0 T1 T2 T3 (frO es n sl) (jrO w.params (t1 + 1998) jt) B T tw0 tb0 tw1 tb1
        exact fin_win I ⟨(k + 1 + 1), tk2, T0, T1, T2, T3, es, n, sl, jt, true, false, x0, x1, x2, x3, x4, x5⟩ e rfl rfl (by dsimp only; omega) (by dsimp only; omega) rfl rfl ⟨ht.ca, ht.wr, ht.en, ht.sb⟩ (.inl I.e0) (.inl I.e1) (.inl I.e2) (.inl I.e3) (.inl I.e4) (.inl I.e5)
    · refine tk_win (peel1_ok w) (n1_5 w t1 its c x0 x1 x2 x3 x4 x5 (boxO (t1 + 1998) sm k tk) (boxO (t1 + 1998) sm (k + 1) tk1) T0 T1 T2 T3 (frO es n sl) (jrO w.params (t1 + 1998) jt) (pipO (t1 + 1998) (true || true)) (ownO w.params (t1 + 1998) true true) (endO true true) B T tw0 tb0) rfl I.st hc.isInt hc.size (by omega) (by omega) (by omega) (by decide) (fun y => pk [fo_ow0tt, fo_ow1tt] y.toNat) _ rfl fun way tw1 tk2 tb1 h0 h1 => ?_
      rcases (by omega : way = 0 ∨ way = 1) with rfl | rfl
      · have e := f_ow0tt w t1 its c x0 x1 x2 x3 x4 x5 (boxO (t1 + 1998) sm k tk) (boxO (t1 + 1998) sm (k + 1) tk1) (boxO (t1 + 1998) sm (k + 1 + 1) tk2) T0 T1 T2 T3 (frO es n sl) (jrO w.params (t1 + 1998) jt) B T tw0 tb0 tw1 tb1
        exact fin_win I ⟨(k + 1 + 1), tk2, T0, T1, T2, T3, es, n, sl, jt, false, true, x0, x1, x2, x3, x4, x5⟩ e rfl rfl (by dsimp only; omega) (by dsimp only; omega) rfl rfl ⟨ht.ca, ht.wr, ht.en, ht.sb⟩ (.inl I.e0) (.inl I.e1) (.inl I.e2) (.inl I.e3) (.inl I.e4) (.inl I.e5)
      · have e := f_ow1tt w t1 its c x0 x1 x2 x3 x4 x5 (boxO (t1 + 1998) sm k tk) (boxO (t1 + 1998) sm (k + 1) tk1) (boxO (t1 + 1998) sm (k + 1 + 1) tk2) T0 T1 T2 T3 (frO es n sl) (jrO w.params (t1 + 1998) jt) B T tw0 tb0 tw1 tb1
        exact fin_win I ⟨(k + 1 + 1), tk2, T0, T1, T2, T3, es, n, sl, jt, true, false, x0, x1, x2, x3, x4, x5⟩ e rfl rfl (by dsimp only; omega) (by dsimp only; omega) rfl rfl ⟨ht.ca, ht.wr, ht.en, ht.sb⟩ (.inl I.e0) (.inl I.e1) (.inl I.e2) (.inl I.e3) (.inl I.e4) (.inl I.e5)
theorem wi_all : Win (model M9.tw w) s.heap σ.E s.os s.drawn (RD w t1 its c sm σ s) (fun as => dOut w.params (t1 + 1998) its c σ.E (σ.D w.params t1 sm) (B + 1488) (T + 1998) (as)) := by
  obtain ⟨o3, z3⟩ := wi_en σ I hc hk2 B T
  have z0 := wi_ca0 σ I hc hk2 B T
  have z1 := wi_ca1 σ I hc hk2 B T
  have z2 := wi_wr σ I hc hk2 B T
  have z4 := wi_sh σ I hc hk2 B T
  have z5 := wi_ow σ I hc hk2 B T
  obtain ⟨k, tk, T0, T1, T2, T3, es, n, sl, jt, er, ew, x0, x1, x2, x3, x4, x5⟩ := σ
  have ht := I.tb
  have k0 : 0 ≤ k := I.k0
  dsimp only at ht hk2
  refine tk_win (peel1_ok w) (n0 w t1 its c x0 x1 x2 x3 x4 x5 (boxO (t1 + 1998) sm k tk) T0 T1 T2 T3 (frO es n sl) (jrO w.params (t1 + 1998) jt) (pipO (t1 + 1998) (er || ew)) (ownO w.params (t1 + 1998) er ew) (endO er ew) B T) rfl I.st hc.isInt hc.size (by omega) (by omega) (by omega) (by decide) (fun y => pk [or1 0, or1 1, or1 2, o3, or1 4, or1 5] y.toNat) _ rfl fun way tw0 tk1 tb0 h0 h1 => ?_
  rcases (by omega : way = 0 ∨ way = 1 ∨ way = 2 ∨ way = 3 ∨ way = 4 ∨ way = 5) with rfl | rfl | rfl | rfl | rfl | rfl
  · exact z0 tw0 tk1 tb0
  · exact z1 tw0 tk1 tb0
  · exact z2 tw0 tk1 tb0
  · exact z3 tw0 tk1 tb0
  · exact z4 tw0 tk1 tb0
  · exact z5 tw0 tk1 tb0
end
theorem deed_wp {w : World} {t1 : Nat} {its c : Array Value} {sm : Int} {σ : WS} {s : Shared} (I : Inv w t1 its c sm σ s) (hc : Cells c) (hk2 : σ.k < 2 ^ 60) (hd : s.heap.get? 1473 = some (w1473 w.params (t1 + 1998))) :
    wpCode (model M9.tw w) ΓD (RD w t1 its c sm σ s) pD s := by
  obtain ⟨B, hB⟩ : ∃ B, s.heap.objs.size = B + 1488 := ⟨s.heap.objs.size - 1488, by have := I.sz; omega⟩
  obtain ⟨T, hT⟩ : ∃ T, s.toks = T + 1998 := ⟨s.toks - 1998, by have := I.tk; omega⟩
  have W := wi_all σ I hc hk2 B T
  rw [← hB, ← hT] at W
  refine code_of_run (C := cfE w.params (lookW w.params (t1 + 1998) its c) σ.E dkW) (cf_ok w _ σ.E _) isItF_ok I.st (fun d x v h => dk_ok hd d x v h) (orc := orcD) (n := nat_lit 2100) (h₀ := s.heap) (os := s.os) (dr := s.drawn)
    (h := ⟨σ.D w.params t1 sm, .nil, nat_lit 0, [(nat_lit 0, s.heap.objs.size)], s.toks, nat_lit 0⟩) W (Rep.start _ I.D I.gens fun x hx => ?_)
  have key : ∀ x, At s.heap x → s.heap.get? x.1 = some x.2 ∧ lookD (σ.D w.params t1 sm) x.1 = none := fun x h => ⟨h.1, lookD_dl.mpr h.2.1⟩
  have hx : x ∈ [σ.x0, σ.x1, σ.x2, σ.x3, σ.x4, σ.x5] := hx
  simp only [List.mem_cons, List.not_mem_nil, or_false] at hx
  rcases hx with rfl | rfl | rfl | rfl | rfl | rfl
  · exact key _ I.e0
  · exact key _ I.e1
  · exact key _ I.e2
  · exact key _ I.e3
  · exact key _ I.e4
  · exact key _ I.e5
end M9
end
section
open PySem PySem.W PySem.Calls PyProof.Rows PySem.Spec
namespace M9
noncomputable def gOut (P : Params) (t1 : Nat) (its c : Array Value) (n : Nat) (g : PySem.Ctx) (p : Pos) (orc : Nat) (D : DL) (B T : Nat) (as : List Ans) : Out :=
  om (cfE P (lookW P t1 its c) [] dkW) n ⟨g, p, [], [], (cfE P (lookW P t1 its c) [] dkW).den g.code, ⟨D, .nil, nat_lit 0, [(nat_lit 0, B)], T, nat_lit 0⟩, ⟨orc, [], [], [], []⟩⟩ as
noncomputable abbrev pS : Pos := ⟨965, 44, 965, 62⟩
noncomputable def ΓS : PySem.Ctx := ⟨.call (.ref 1330) ⟨[.ref 1473], []⟩, none, none, (loopC, pS) :: bL, none⟩
noncomputable def ΓF : PySem.Ctx := ⟨loopC, none, none, bL, none⟩
noncomputable def vG : Out → Option (Nat × PySem.Ctx × Pos × DL × Nat × List (Nat × Nat) × Nat × Nat)
  | .need tag _ g p h _ => some (tag, g, p, h.D, h.m, h.bs, h.tb, h.i)
  | _ => none
noncomputable abbrev NdE (w : World) (o : Params → Out) (x : Params → Option (Nat × PySem.Ctx × Pos × DL × Nat × List (Nat × Nat) × Nat × Nat)) : Prop := (fun P => (vG (o P), vA (o P))) w.params = (fun P => (x P, vB (o P))) w.params
noncomputable abbrev StE (w : World) (o : Params → Out) (l : List Nat) (x : Params → Option (PySem.Ctx × Pos × List K1 × List LF × Sem Fin × DL × Nat × List (Nat × Nat) × Nat × Nat)) (v : List (Option Obj)) : Prop := (fun P => (vStop (o P), vX l (o P), vA (o P))) w.params = (fun P => (x P, v, vB (o P))) w.params
noncomputable def aDl (r : Result) (D : DL) (Bn tb orc : Nat) : Ans := ⟨r, fun h => ⟨D, h.X, h.m, (h.m, Bn) :: h.bs, tb, nat_lit 0⟩, orc⟩
noncomputable def itO (x : Int) (l : Int) : Obj := ⟨.type "range_iterator", none, .fields #[rawInt x, rawInt l, rawInt 1], #[]⟩
noncomputable def os_tt : Nat := nat_lit 712997470695628883788841799927562811102135703444813543382885557365377277123601966060226053746291358665273961191929801715482252280496935328671738207513716491859201526598459321205562651854192118223147152569060682565797781489528242723358638112151902832153534177757548241175175212221507449543259136699240072689707232514690425758417617372177578827508440326304584710723357666784568747022281214004550197694425519289548473547780245734724558351442384501966783440228410504978243231264592805928628150547405035563827893503687807566415128748575709881851681885261727891296070805341939904971639447941207378857502034932099163336895799628281172467196501058991412886106559536985991969138740316597807507101435077648271414667611561658745223035796643786759216718992017152381972584886873421736459746364985385728666383166863658288466121902876429203913310208
theorem st_tt (w : World) (t1 : Nat) (its c : Array Value) (ob T0 T1 T2 T3 fr ow : Obj) (jt B T : Nat) : FinE w (fun P => gOut P (t1 + 1998) its c (nat_lit 600) ΓS pS os_tt (dl ob T0 T1 T2 T3 fr (jrO P (t1 + 1998) jt) (pipO (t1 + 1998) true) ow (endO true true)) (B + 1488) (T + 1998) []) [] (fun P => some (.ok (.ret (.bool true)), (dl ob T0 T1 T2 T3 fr (jrO P (t1 + 1998) jt) (pipO (t1 + 1998) true) ow (endO true true)), nat_lit 4, [(nat_lit 0, (B + 1488))], (T + 1998), nat_lit 38)) [] := by kernel_rfl
noncomputable def os_ft : Nat := nat_lit 765575204692111106506515658370099743604094125831957369459381347664087991132319931236467347382133148647036037020736185239584788454137515598647179060820805166205641268756911945469595568710889584084621785292093113728257356081597025377491878144152529906250996187674258633148400727364731791596290272965678810500911847386485332674732168201743660688926496418070030554541932496340257137564616513906050595841232850010786187303501344449237962229595085073639860474983251092356551521838555866195881165736193222032149782664984110973812916775060294452344335001363473098367605073092816915252015432142906803638065927280622840943391778371691754440115763098942155502850545054401786134951818126227939742327555246753989003976716975182351342834360468534978380868840129262745690163574207417855893720397105010250021599590351266120291957672931010029609379352318836736
theorem st_ft (w : World) (t1 : Nat) (its c : Array Value) (ob T0 T1 T2 T3 fr ow : Obj) (jt B T : Nat) : FinE w (fun P => gOut P (t1 + 1998) its c (nat_lit 600) ΓS pS os_ft (dl ob T0 T1 T2 T3 fr (jrO P (t1 + 1998) jt) (pipO (t1 + 1998) true) ow (endO false true)) (B + 1488) (T + 1998) []) [] (fun P => some (.ok (.ret (.bool true)), (dl ob T0 T1 T2 T3 fr (jrO P (t1 + 1998) jt) (pipO (t1 + 1998) true) ow (endO false true)), nat_lit 4, [(nat_lit 0, (B + 1488))], (T + 1998), nat_lit 38)) [] := by kernel_rfl
noncomputable def os_tf : Nat := nat_lit 712997470695628883788841799927562811102135703444813543382885557365377277123601966060226053746291358665273961191929801715482252280496935328671738207513716491859201526598459321205562651854192118223147152569060682565797781489528242723358638112151902832153534177757548241175175212221507449543259136699240072689707232514690425758417617372177578827508440326304584710723357666784568747022281214004550197694425519289548473547780245734724558351442384501966783440228410504978243231264592805928628150547405035563827893503687807566415128748575709881851681885261727891296070805341939904971639447941207378857502034932099163336895799628281172467196501058991412886106559536985991969138740316597807507101435077648271414667611561658745223035796643786759216718992017152381972584886873421736459746364985385728666383166863658288466121902876429203913310208
theorem st_tf (w : World) (t1 : Nat) (its c : Array Value) (ob T0 T1 T2 T3 fr ow : Obj) (jt B T : Nat) : FinE w (fun P => gOut P (t1 + 1998) its c (nat_lit 600) ΓS pS os_tf (dl ob T0 T1 T2 T3 fr (jrO P (t1 + 1998) jt) (pipO (t1 + 1998) true) ow (endO true false)) (B + 1488) (T + 1998) []) [] (fun P => some (.ok (.ret (.bool true)), (dl ob T0 T1 T2 T3 fr (jrO P (t1 + 1998) jt) (pipO (t1 + 1998) true) ow (endO true false)), nat_lit 4, [(nat_lit 0, (B + 1488))], (T + 1998), nat_lit 38)) [] := by kernel_rfl
noncomputable def os_ff : Nat := nat_lit 822030116695280737910964390902872399027827743475210908693158214199954657810244187462869107643507402619399838542723365832761913623044302196568450609649485656944805130222581915339409800818480758640315523106944555384602104323844129031679950919886119047207122842554099334207039214584510018653811880021749096006970876113147411575583245121967290579372653212641783494078176670792583099320260329585521845954722697048559778725946400355269077217315128236128144213102737233816318709529358363679923544325624374590913434958963972120296911243702773566607061662141143688030950368670022838412565887774653603040508492491899985299538338008583410359172604571339654405565165676292936632194927002531685648310751611361965625868255763208516046707217320858859657416980377619154677928482812807762698608832799723057985120827921209525991875354585363914085191082859400098173943808
theorem st_ff (w : World) (t1 : Nat) (its c : Array Value) (ob T0 T1 T2 T3 fr ow : Obj) (jt B T : Nat) : FinE w (fun P => gOut P (t1 + 1998) its c (nat_lit 600) ΓS pS os_ff (dl ob T0 T1 T2 T3 fr (jrO P (t1 + 1998) jt) (pipO (t1 + 1998) false) ow (endO false false)) (B + 1488) (T + 1998) []) [] (fun P => some (.ok (.ret (.bool true)), (dl ob T0 T1 T2 T3 fr (jrO P (t1 + 1998) jt) (pipO (t1 + 1998) false) ow (endO false false)), nat_lit 4, [(nat_lit 0, (B + 1488))], (T + 1998), nat_lit 38)) [] := by kernel_rfl
noncomputable def oT : Nat := nat_lit 1496577676626844588240573268701473812127674924007424
theorem tu0_0 (w : World) (t1 : Nat) (its c : Array Value) (t0 : Nat) (x : Int) (n : Nat) (sl : Array (Option Value)) (ob T0 T1 T2 T3 jr pi ow en : Obj) (B T : Nat) (p : Pos) : NdE w (fun P => gOut P (t1 + 1998) its c (nat_lit 100) ΓF p oT ((nat_lit 1487, itO x (Int.ofNat (Nat.succ n))) :: dl ob T0 T1 T2 T3 (frO (frE P (t0 + 1998) (t1 + 1998)) 4 sl) jr pi ow en) (B + 1488) (T + 1998) []) (fun P => some (nat_lit 0, ΓD, pD, (nat_lit 1487, itO (x + 1) (Int.ofNat (Nat.succ n) - 1)) :: dl ob T0 T1 T2 T3 (frO (frE2 P (t0 + 1998) (t1 + 1998) ((T + 1998) + 1) (.int x (T + 1998))) 5 sl) jr pi ow en, nat_lit 0, [(nat_lit 0, B + 1488)], T + 1998, nat_lit 2)) := by kernel_rfl
theorem tu0_1 (w : World) (t1 : Nat) (its c : Array Value) (t0 : Nat) (x : Int) (n : Nat) (sl : Array (Option Value)) (ob T0 T1 T2 T3 jr pi ow en : Obj) (B T : Nat) (p : Pos) (i2 ob2 U0 U1 U2 U3 jr2 pi2 ow2 en2 : Obj) (kt2 : Nat) (v2 : Value) (sl2 : Array (Option Value)) (B2 tb2 : Nat) : NdE w (fun P => gOut P (t1 + 1998) its c (nat_lit 100) ΓF p oT ((nat_lit 1487, itO x (Int.ofNat (Nat.succ n))) :: dl ob T0 T1 T2 T3 (frO (frE P (t0 + 1998) (t1 + 1998)) 4 sl) jr pi ow en) (B + 1488) (T + 1998) [aDl (.ok (.ret (.bool true))) ((nat_lit 1487, i2) :: dl ob2 U0 U1 U2 U3 (frO (frE2 P (t0 + 1998) (t1 + 1998) kt2 v2) 5 sl2) jr2 pi2 ow2 en2) B2 tb2 (nat_lit 2147483648)]) (fun P => some (nat_lit 1, ΓS, pS, ((nat_lit 1487, i2) :: dl ob2 U0 U1 U2 U3 (frO (frE2 P (t0 + 1998) (t1 + 1998) kt2 v2) 5 sl2) jr2 pi2 ow2 en2), nat_lit 0, [(nat_lit 0, B2), (nat_lit 0, B + 1488)], tb2, nat_lit 0)) := by kernel_rfl
theorem tu0_2 (w : World) (t1 : Nat) (its c : Array Value) (t0 : Nat) (x : Int) (n : Nat) (sl : Array (Option Value)) (ob T0 T1 T2 T3 jr pi ow en : Obj) (B T : Nat) (p : Pos) (i2 ob2 U0 U1 U2 U3 jr2 pi2 ow2 en2 : Obj) (kt2 : Nat) (v2 : Value) (sl2 : Array (Option Value)) (D3 : DL) (B2 tb2 B3 tb3 : Nat) : StE w (fun P => gOut P (t1 + 1998) its c (nat_lit 100) ΓF p oT ((nat_lit 1487, itO x (Int.ofNat (Nat.succ n))) :: dl ob T0 T1 T2 T3 (frO (frE P (t0 + 1998) (t1 + 1998)) 4 sl) jr pi ow en) (B + 1488) (T + 1998) [aDl (.ok (.ret (.bool true))) ((nat_lit 1487, i2) :: dl ob2 U0 U1 U2 U3 (frO (frE2 P (t0 + 1998) (t1 + 1998) kt2 v2) 5 sl2) jr2 pi2 ow2 en2) B2 tb2 (nat_lit 2147483648), aDl (.ok (.ret (.bool true))) D3 B3 tb3 (nat_lit 1)]) [] (fun P => some (ΓF, pS, [], [], .pure (.again loopC), D3, nat_lit 0, [(nat_lit 0, B3), (nat_lit 0, B2), (nat_lit 0, B + 1488)], tb3, nat_lit 0)) [] := by kernel_rfl
theorem tu1_0 (w : World) (t1 : Nat) (its c : Array Value) (t0 : Nat) (kt : Nat) (v : Value) (x : Int) (n : Nat) (sl : Array (Option Value)) (ob T0 T1 T2 T3 jr pi ow en : Obj) (B T : Nat) (p : Pos) : NdE w (fun P => gOut P (t1 + 1998) its c (nat_lit 100) ΓF p oT ((nat_lit 1487, itO x (Int.ofNat (Nat.succ n))) :: dl ob T0 T1 T2 T3 (frO (frE2 P (t0 + 1998) (t1 + 1998) kt v) 5 sl) jr pi ow en) (B + 1488) (T + 1998) []) (fun P => some (nat_lit 0, ΓD, pD, (nat_lit 1487, itO (x + 1) (Int.ofNat (Nat.succ n) - 1)) :: dl ob T0 T1 T2 T3 (frO (frE2 P (t0 + 1998) (t1 + 1998) kt (.int x (T + 1998))) 5 sl) jr pi ow en, nat_lit 0, [(nat_lit 0, B + 1488)], T + 1998, nat_lit 2)) := by kernel_rfl
theorem tu1_1 (w : World) (t1 : Nat) (its c : Array Value) (t0 : Nat) (kt : Nat) (v : Value) (x : Int) (n : Nat) (sl : Array (Option Value)) (ob T0 T1 T2 T3 jr pi ow en : Obj) (B T : Nat) (p : Pos) (i2 ob2 U0 U1 U2 U3 jr2 pi2 ow2 en2 : Obj) (kt2 : Nat) (v2 : Value) (sl2 : Array (Option Value)) (B2 tb2 : Nat) : NdE w (fun P => gOut P (t1 + 1998) its c (nat_lit 100) ΓF p oT ((nat_lit 1487, itO x (Int.ofNat (Nat.succ n))) :: dl ob T0 T1 T2 T3 (frO (frE2 P (t0 + 1998) (t1 + 1998) kt v) 5 sl) jr pi ow en) (B + 1488) (T + 1998) [aDl (.ok (.ret (.bool true))) ((nat_lit 1487, i2) :: dl ob2 U0 U1 U2 U3 (frO (frE2 P (t0 + 1998) (t1 + 1998) kt2 v2) 5 sl2) jr2 pi2 ow2 en2) B2 tb2 (nat_lit 2147483648)]) (fun P => some (nat_lit 1, ΓS, pS, ((nat_lit 1487, i2) :: dl ob2 U0 U1 U2 U3 (frO (frE2 P (t0 + 1998) (t1 + 1998) kt2 v2) 5 sl2) jr2 pi2 ow2 en2), nat_lit 0, [(nat_lit 0, B2), (nat_lit 0, B + 1488)], tb2, nat_lit 0)) := by kernel_rfl
theorem tu1_2 (w : World) (t1 : Nat) (its c : Array Value) (t0 : Nat) (kt : Nat) (v : Value) (x : Int) (n : Nat) (sl : Array (Option Value)) (ob T0 T1 T2 T3 jr pi ow en : Obj) (B T : Nat) (p : Pos) (i2 ob2 U0 U1 U2 U3 jr2 pi2 ow2 en2 : Obj) (kt2 : Nat) (v2 : Value) (sl2 : Array (Option Value)) (D3 : DL) (B2 tb2 B3 tb3 : Nat) : StE w (fun P => gOut P (t1 + 1998) its c (nat_lit 100) ΓF p oT ((nat_lit 1487, itO x (Int.ofNat (Nat.succ n))) :: dl ob T0 T1 T2 T3 (frO (frE2 P (t0 + 1998) (t1 + 1998) kt v) 5 sl) jr pi ow en) (B + 1488) (T + 1998) [aDl (.ok (.ret (.bool true))) ((nat_lit 1487, i2) :: dl ob2 U0 U1 U2 U3 (frO (frE2 P (t0 + 1998) (t1 + 1998) kt2 v2) 5 sl2) jr2 pi2 ow2 en2) B2 tb2 (nat_lit 2147483648), aDl (.ok (.ret (.bool true))) D3 B3 tb3 (nat_lit 1)]) [] (fun P => some (ΓF, pS, [], [], .pure (.again loopC), D3, nat_lit 0, [(nat_lit 0, B3), (nat_lit 0, B2), (nat_lit 0, B + 1488)], tb3, nat_lit 0)) [] := by kernel_rfl
theorem tend (w : World) (t1 : Nat) (its c : Array Value) (x : Int) (ob T0 T1 T2 T3 fr jr pi ow en : Obj) (B T : Nat) (p : Pos) : FinE w (fun P => gOut P (t1 + 1998) its c (nat_lit 40) ΓF p (nat_lit 1182897463726624997376) ((nat_lit 1487, itO x 0) :: dl ob T0 T1 T2 T3 fr jr pi ow en) (B + 1488) (T + 1998) []) [] (fun P => some (.ok .next, (nat_lit 1487, itO x 0) :: dl ob T0 T1 T2 T3 fr jr pi ow en, nat_lit 2, [(nat_lit 0, (B + 1488))], (T + 1998), nat_lit 0)) [] := by kernel_rfl
end M9
end
section
open PySem PySem.W PySem.Calls PyProof.Rows PySem.Spec
namespace M9
inductive WinR (M : Model) (E₁ : DL) (os : OsState) (dr : Drawn) (L : Heap → Prop) (R : Result → Shared → Prop) : Heap → (List Ans → Out) → Prop
  | fin {h₀ : Heap} {F : List Ans → Out} {r : Result} {h : Hs} {b : Bk} (e : F [] = .fin r h b) (ok : okb b) (x : ∀ s, Rep h₀ E₁ os dr h s → R r s) : WinR M E₁ os dr L R h₀ F
  | stop {h₀ : Heap} {F : List Ans → Out} {S : St} (e : F [] = .stop S) (ok : okb S.b) (x : ∀ s, Rep h₀ E₁ os dr S.h s → Full M R S s) : WinR M E₁ os dr L R h₀ F
  | need {h₀ : Heap} {F : List Ans → Out} {tg : Nat} {c : Code} {g : PySem.Ctx} {p : Pos} {h : Hs} {b : Bk} (e : F [] = .need tg c g p h b) (ok : okb b) (V : Ans → Heap → Prop)
      (x : ∀ s, Rep h₀ E₁ os dr h s → wpCode M g (fun r s' => ∃ a h₁, a.res = r ∧ V a h₁ ∧ Rep h₁ E₁ os dr (a.up h) s') p s)
      (l : ∀ a h₁, V a h₁ → L h₁)
      (y : ∀ a h₁, V a h₁ → WinR M E₁ os dr L R h₁ fun as => F (a :: as)) : WinR M E₁ os dr L R h₀ F
theorem om_soundR {C : Cf} {prog : Program} {w : World} {R : Result → Shared → Prop} {os : OsState} {dr : Drawn} {L : Heap → Prop} (hC : CfOk C (model prog w)) (hI : ∀ o, C.isIt o = true → itCls o) (hl : ∀ h₀, L h₀ → ∀ a o, C.look a = some o → h₀.get? a = some o) (hk : ∀ h₀, L h₀ → ∀ d x v, C.dk d x = some v → ∃ f, h₀.MapOf (strKind prog w) d f ∧ f x = some v) :
    ∀ (n : Nat) (S : St) (h₀ : Heap), L h₀ → WinR (model prog w) C.ext os dr L R h₀ (om C n S) → okb S.b ∧ ∀ s, Rep h₀ C.ext os dr S.h s → Full (model prog w) R S s
  | 0, S, h₀, _, W => by
    cases W with
    | fin e => cases e
    | stop e => cases e
    | need e => cases e
  | n + 1, S, h₀, hL, W => by
    cases hs : step1 C S with
    | go S' =>
      have e : om C (n + 1) S = om C n S' := funext fun as => by rw [om_succ, hs]
      rw [e] at W
      obtain ⟨ok, F⟩ := om_soundR hC hI hl hk n S' h₀ hL W
      have es : (step1 C S).st? = some S' := by rw [hs]; rfl
      exact ⟨step_okb es ok, fun s D => (step_st hC hI (hl h₀ hL) (hk h₀ hL) es D ok F).1⟩
    | fin r h b =>
      have e : ∀ as, om C (n + 1) S as = .fin r h b := fun as => by rw [om_succ, hs]
      have key : okb b ∧ ∀ s, Rep h₀ C.ext os dr h s → R r s := by
        cases W with
        | fin e1 ok x => rw [e] at e1; cases e1; exact ⟨ok, x⟩
        | stop e1 => rw [e] at e1; cases e1
        | need e1 => rw [e] at e1; cases e1
      have z := fun s => step_fin (prog := prog) (w := w) (R := R) (s := s) hs
      obtain ⟨rfl, rfl, _⟩ := z ({ os := os } : Shared)
      exact ⟨key.1, fun s D => (z s).2.2 (key.2 s D)⟩
    | stop S' =>
      have e : ∀ as, om C (n + 1) S as = .stop S' := fun as => by rw [om_succ, hs]
      have key : okb S'.b ∧ ∀ s, Rep h₀ C.ext os dr S'.h s → Full (model prog w) R S' s := by
        cases W with
        | fin e1 => rw [e] at e1; cases e1
        | stop e1 ok x => rw [e] at e1; cases e1; exact ⟨ok, x⟩
        | need e1 => rw [e] at e1; cases e1
      have es : (step1 C S).st? = some S' := by rw [hs]; rfl
      exact ⟨step_okb es key.1, fun s D => (step_st hC hI (hl h₀ hL) (hk h₀ hL) es D key.1 key.2).1⟩
    | need tag c g p f h b =>
      have e0 : om C (n + 1) S [] = .need tag c g p h b := by rw [om_succ, hs]
      have e1 : ∀ a, (fun as => om C (n + 1) S (a :: as)) = om C n (f a) := fun a => funext fun as => by rw [om_succ, hs]
      cases W with
      | fin e => rw [e0] at e; cases e
      | stop e => rw [e0] at e; cases e
      | need e ok V x l y =>
        rw [e0] at e
        cases e
        have z := fun s => step_need (prog := prog) (w := w) (R := R) (s := s) hs
        obtain ⟨rfl, z2, z3, z4, _⟩ := z ({ os := os } : Shared)
        refine ⟨z2 ok, fun s D => (z s).2.2.2.2 ?_⟩
        obtain ⟨r, s', hr, a, h₁, ha, hv, D'⟩ := x s D
        refine ⟨r, s', hr, a, ha, ?_⟩
        have q := y a h₁ hv
        rw [e1] at q
        exact (om_soundR hC hI hl hk n (f a) h₁ (l a h₁ hv) q).2 s' (by rw [z3 a]; exact D')
    | bad k =>
      exfalso
      have e : ∀ as, om C (n + 1) S as = .bad k := fun as => by rw [om_succ, hs]
      cases W with
      | fin e1 => rw [e] at e1; cases e1
      | stop e1 => rw [e] at e1; cases e1
      | need e1 => rw [e] at e1; cases e1
theorem code_of_runR {P : Program} {w : World} {C : Cf} {R : Result → Shared → Prop} {h₀ : Heap} {os : OsState} {dr : Drawn} {L : Heap → Prop} (hC : CfOk C (model P w)) (hI : ∀ o, C.isIt o = true → itCls o) (hl : ∀ h₀, L h₀ → ∀ a o, C.look a = some o → h₀.get? a = some o) (hk : ∀ h₀, L h₀ → ∀ d x v, C.dk d x = some v → ∃ f, h₀.MapOf (strKind P w) d f ∧ f x = some v)
    {n : Nat} {g : PySem.Ctx} {p : Pos} {h : Hs} {orc : Nat} {s : Shared} (hL : L h₀) (W : WinR (model P w) C.ext os dr L R h₀ (om C n ⟨g, p, [], [], C.den g.code, h, ⟨orc, [], [], [], []⟩⟩)) (D : Rep h₀ C.ext os dr h s) : wpCode (model P w) g R p s := by
  have z := (om_soundR hC hI hl hk n _ h₀ hL W).2 s D
  have z : Sem.wp (model P w) g (C.den g.code) (Sem.finPost (model P w) g R) (fun e _ s => R (.error e) s) p s := z
  rw [hC.den] at z
  exact (Sem.wp_iff_runs (model P w) g _ _ p s).mp z
structure Lw (w : World) (t1 : Nat) (its c : Array Value) (h : Heap) : Prop where
  st : ∀ a o, lookW w.params (t1 + 1998) its c a = some o → h.get? a = some o
theorem Lw.dk {w : World} {t1 : Nat} {its c : Array Value} {h : Heap} (L : Lw w t1 its c h) (d : Nat) (x : Str) (v : Value) (e : dkW d x = some v) : ∃ f, h.MapOf (strKind M9.tw w) d f ∧ f x = some v :=
  dk_ok (t1 := t1 + 1998) (L.st 1473 _ rfl) d x v e
section
variable {w : World} {t1 : Nat} {its c : Array Value} {sm : Int} {σ : WS} {s : Shared}
theorem same_wp (I : Inv w t1 its c sm σ s) {g : PySem.Ctx} {p : Pos} {n orc m i : Nat} {r : Result}
    (e : ∀ B T, FinE w (fun P => gOut P (t1 + 1998) its c n g p orc (σ.D w.params t1 sm) (B + 1488) (T + 1998) []) [] (fun _ => some (r, σ.D w.params t1 sm, m, [(nat_lit 0, (B + 1488))], (T + 1998), i)) []) :
    wpCode (model M9.tw w) g (fun r' s' => r' = r ∧ Inv w t1 its c sm σ s' ∧ Nxt s s') p s := by
  obtain ⟨B, hB⟩ : ∃ B, s.heap.objs.size = B + 1488 := ⟨s.heap.objs.size - 1488, by have := I.sz; omega⟩
  obtain ⟨T, hT⟩ : ∃ T, s.toks = T + 1998 := ⟨s.toks - 1998, by have := I.tk; omega⟩
  have e := e B T
  rw [← hB, ← hT] at e
  refine code_of_run (C := cfE w.params (lookW w.params (t1 + 1998) its c) [] dkW) (cf_ok w _ [] _) isItF_ok I.st (fun d x v h => dk_ok (t1 := t1 + 1998) (I.st 1473 _ rfl) d x v h) (orc := orc) (n := n) (h₀ := s.heap) (os := s.os) (dr := s.drawn)
    (h := ⟨σ.D w.params t1 sm, .nil, nat_lit 0, [(nat_lit 0, s.heap.objs.size)], s.toks, nat_lit 0⟩) ?_ (Rep.start _ I.D I.gens fun x hx => absurd hx List.not_mem_nil)
  refine Win.fin' (F := fun as => gOut w.params (t1 + 1998) its c n g p orc (σ.D w.params t1 sm) s.heap.objs.size s.toks as) (congrArg Prod.fst e) (congrArg (fun z => z.2.2) e) fun s' R => ?_
  have kp : ∀ a o, a ∉ keysD → s.heap.get? a = some o → s'.heap.get? a = some o := fun a o h1 h2 => R.keep a o h2 (lookD_dl.mpr h1)
  have hsz : s.heap.objs.size ≤ s'.heap.objs.size := by
    have a1 := R.low m (Nat.le_refl m)
    have a2 := R.size
    exact Nat.le_trans a1 (Nat.le_of_eq a2.symm)
  have cell : ∀ y, At s.heap y → At s'.heap y := fun y h => ⟨kp _ _ h.2.1 h.1, h.2⟩
  refine ⟨rfl, ⟨fun a o h => kp a o (lookW_keys h) (I.st a o h), Nat.le_trans I.sz hsz, ?_, R.gens, fun a o h => (R.D a o h).1, cell _ I.e0, cell _ I.e1, cell _ I.e2, cell _ I.e3, cell _ I.e4, cell _ I.e5, I.tb, I.k0⟩, kp, hsz, R.os, R.dr⟩
  have h1 : s'.toks = s.toks + i := R.toks
  have h2 := I.tk
  omega
theorem stands_wp (I : Inv w t1 its c sm σ s) : wpCode (model M9.tw w) ΓS (fun r s' => r = .ok (.ret (.bool true)) ∧ Inv w t1 its c sm σ s' ∧ Nxt s s') pS s := by
  obtain ⟨k, tk, T0, T1, T2, T3, es, n, sl, jt, er, ew, x0, x1, x2, x3, x4, x5⟩ := σ
  cases er
  · cases ew
    · exact same_wp I fun B T => st_ff w t1 its c (boxO (t1 + 1998) sm k tk) T0 T1 T2 T3 (frO es n sl) (ownO w.params (t1 + 1998) false false) jt B T
    · exact same_wp I fun B T => st_ft w t1 its c (boxO (t1 + 1998) sm k tk) T0 T1 T2 T3 (frO es n sl) (ownO w.params (t1 + 1998) false true) jt B T
  · cases ew
    · exact same_wp I fun B T => st_tf w t1 its c (boxO (t1 + 1998) sm k tk) T0 T1 T2 T3 (frO es n sl) (ownO w.params (t1 + 1998) true false) jt B T
    · exact same_wp I fun B T => st_tt w t1 its c (boxO (t1 + 1998) sm k tk) T0 T1 T2 T3 (frO es n sl) (ownO w.params (t1 + 1998) true true) jt B T
end
end M9
end
section
open PySem PySem.W PySem.Calls PyProof.Rows PySem.Spec
namespace M9
section
variable {M : Model} {E₁ : DL} {os : OsState} {dr : Drawn} {L : Heap → Prop} {R : Result → Shared → Prop} {h₀ : Heap} {F : List Ans → Out}
theorem WinR.needV {tg : Nat} {g : PySem.Ctx} {p : Pos} {D : DL} {m : Nat} {bs : List (Nat × Nat)} {tb i : Nat}
    (e1 : vG (F []) = some (tg, g, p, D, m, bs, tb, i)) (e2 : vA (F []) = vB (F [])) (V : Ans → Heap → Prop)
    (q : ∀ s X, Rep h₀ E₁ os dr ⟨D, X, m, bs, tb, i⟩ s → wpCode M g (fun r s' => ∃ a h₁, a.res = r ∧ V a h₁ ∧ Rep h₁ E₁ os dr (a.up ⟨D, X, m, bs, tb, i⟩) s') p s)
    (l : ∀ a h₁, V a h₁ → L h₁) (y : ∀ a h₁, V a h₁ → WinR M E₁ os dr L R h₁ fun as => F (a :: as)) : WinR M E₁ os dr L R h₀ F := by
  generalize hO : F [] = out at e1 e2
  cases out with
  | need tg' c g' p' h b =>
    obtain ⟨D', X', m', bs', tb', i'⟩ := h
    cases e1
    exact .need hO ⟨congrArg Prod.fst e2, congrArg Prod.snd e2⟩ V (fun s D => q s X' D) l y
  | _ => cases e1
theorem WinR.stopV {Γ : PySem.Ctx} {p : Pos} {κ : List K1} {lf : List LF} {t : Sem Fin} {D : DL} {m : Nat} {bs : List (Nat × Nat)} {tb i : Nat}
    (e1 : vStop (F []) = some (Γ, p, κ, lf, t, D, m, bs, tb, i)) (e2 : vA (F []) = vB (F []))
    (q : ∀ s X, Rep h₀ E₁ os dr ⟨D, X, m, bs, tb, i⟩ s → Conf M (KR M R κ) Γ lf t p s) : WinR M E₁ os dr L R h₀ F := by
  generalize hO : F [] = out at e1 e2
  cases out with
  | stop S =>
    obtain ⟨Γ', p', κ', l', t', ⟨D', X', m', bs', tb', i'⟩, b'⟩ := S
    cases e1
    exact .stop hO ⟨congrArg Prod.fst e2, congrArg Prod.snd e2⟩ fun s D => q s X' D
  | _ => cases e1
end
theorem Rep.rebase {h₀ : Heap} {E₁ : DL} {os : OsState} {dr : Drawn} {D : DL} {X : BT} {bs : List (Nat × Nat)} {tb i : Nat} {s s' : Shared} (R : Rep h₀ E₁ os dr ⟨D, X, nat_lit 0, bs, tb, i⟩ s) {D' : DL} {bs' : List (Nat × Nat)}
    (hD : ∀ a o, lookD D' a = some o → s'.heap.get? a = some o) (hg : s'.gens = #[]) (ho : s'.os = os) (hd : s'.drawn = dr) :
    Rep s'.heap [] os dr ⟨D', X, nat_lit 0, (nat_lit 0, s'.heap.objs.size) :: bs', s'.toks, nat_lit 0⟩ s' where
  size := rfl
  seg := ⟨0, _, _, rfl, Nat.le_refl _⟩
  inj := fun i j h1 h2 => by have h2 : j ≤ 0 := h2; omega
  bnd := fun j h => by have h : j < 0 := h; omega
  low := fun j h => by
    have h : j ≤ 0 := h
    have : j = 0 := by omega
    subst this
    exact Nat.le_refl _
  own := fun j o h => by
    have z := (R.own j o h).1
    have z : j < 0 := z
    omega
  D := fun a o h => ⟨hD a o h, Heap.lt_size (hD a o h)⟩
  keep := fun a o h _ => h
  toks := rfl
  gens := hg
  os := ho
  dr := hd
  ext := fun x hx => absurd hx List.not_mem_nil
structure NxL (s s' : Shared) : Prop where
  keep : ∀ a o, a ∉ keysD → a ≠ 1487 → s.heap.get? a = some o → s'.heap.get? a = some o
  size : s.heap.objs.size ≤ s'.heap.objs.size
  os : s'.os = s.os
  dr : s'.drawn = s.drawn
theorem NxL.trans {a b c : Shared} (h : NxL a b) (k : NxL b c) : NxL a c := ⟨fun x o h1 h2 h3 => k.keep x o h1 h2 (h.keep x o h1 h2 h3), Nat.le_trans h.size k.size, k.os.trans h.os, k.dr.trans h.dr⟩
theorem Nxt.nxl {a b : Shared} (h : Nxt a b) : NxL a b := ⟨fun x o h1 _ h3 => h.keep x o h1 h3, h.size, h.os, h.dr⟩
noncomputable def FrOk (w : World) (t0 t1 : Nat) (σ : WS) : Prop := (σ.es = frE w.params (t0 + 1998) (t1 + 1998) ∧ σ.n = 4) ∨ ∃ kt v, σ.es = frE2 w.params (t0 + 1998) (t1 + 1998) kt v ∧ σ.n = 5
theorem lookD_it {it : Obj} {D : DL} {a : Nat} (h : a ≠ 1487) : lookD ((nat_lit 1487, it) :: D) a = lookD D a := by
  rw [lookD_cons, if_neg (Ne.symm h)]
theorem lookW_1487 {P : Params} {t1 : Nat} {its c : Array Value} {a : Nat} {o : Obj} (h : lookW P t1 its c a = some o) : a ≠ 1487 := by
  rintro rfl
  exact absurd (show (none : Option Obj) = some o from h) (by simp)
theorem key_1487 : 1487 ∉ keysD := by decide
theorem wsD_1487 (σ : WS) (P : Params) (t1 : Nat) (sm : Int) : lookD (σ.D P t1 sm) 1487 = none := lookD_dl.mpr key_1487
section
variable {w : World} {t0 t1 : Nat} {its c : Array Value} {sm : Int}
theorem Inv.of_rep {σ σ' : WS} {s s' : Shared} (I : Inv w t1 its c sm σ s) {it : Obj} {X : BT} {m tb i : Nat} {bs : List (Nat × Nat)} {E₁ : DL} {os : OsState} {dr : Drawn}
    (R : Rep s.heap E₁ os dr ⟨(nat_lit 1487, it) :: σ'.D w.params t1 sm, X, m, bs, tb, i⟩ s') (htb : 1998 ≤ tb) (ho : os = s.os) (hd : dr = s.drawn)
    (hk : 0 ≤ σ'.k) (hE : σ'.E = σ.E) (ht : Tb σ'.T0 σ'.T1 σ'.T2 σ'.T3 σ'.x0 σ'.x1 σ'.x2 σ'.x3 σ'.x4 σ'.x5) : Inv w t1 its c sm σ' s' ∧ s'.heap.get? 1487 = some it ∧ NxL s s' := by
  have kp : ∀ a o, a ∉ keysD → a ≠ 1487 → s.heap.get? a = some o → s'.heap.get? a = some o := fun a o h1 h2 h3 => R.keep a o h3 ((lookD_it h2).trans (lookD_dl.mpr h1))
  have hsz : s.heap.objs.size ≤ s'.heap.objs.size := by
    have a1 := R.low m (Nat.le_refl m)
    have a2 := R.size
    exact Nat.le_trans a1 (Nat.le_of_eq a2.symm)
  have h87 : 1487 < s.heap.objs.size := (R.D 1487 it rfl).2
  have cell : ∀ y, At s.heap y → At s'.heap y := fun y h => ⟨kp _ _ h.2.1 h.2.2 h.1, h.2⟩
  obtain ⟨g0, g1, g2, g3, g4, g5⟩ : σ'.x0 = σ.x0 ∧ σ'.x1 = σ.x1 ∧ σ'.x2 = σ.x2 ∧ σ'.x3 = σ.x3 ∧ σ'.x4 = σ.x4 ∧ σ'.x5 = σ.x5 := by
    unfold WS.E at hE
    simp only [List.cons.injEq, and_true] at hE
    exact hE
  refine ⟨⟨fun a o h => kp a o (lookW_keys h) (lookW_1487 h) (I.st a o h), Nat.le_trans I.sz hsz, ?_, R.gens, fun a o h => ?_, g0 ▸ cell _ I.e0, g1 ▸ cell _ I.e1, g2 ▸ cell _ I.e2, g3 ▸ cell _ I.e3, g4 ▸ cell _ I.e4, g5 ▸ cell _ I.e5, ht, hk⟩, (R.D 1487 it rfl).1, kp, hsz, R.os.trans ho, R.dr.trans hd⟩
  · have h1 : s'.toks = tb + i := R.toks
    omega
  · have q : a ≠ 1487 := by
      rintro rfl
      rw [wsD_1487] at h
      cases h
    exact (R.D a o ((lookD_it q).trans h)).1
theorem conf_again {M : Model} {R : Result → Shared → Prop} {p : Pos} {s : Shared} (h : wpCode M ΓF R p s) : Conf M (KR M R []) ΓF [] (.pure (.again loopC)) p s := by
  have hq : loopC.quiet = true := rfl
  exact ⟨hq, h⟩
noncomputable def aT1 (D : DL) (B2 tb2 : Nat) : Ans := aDl (.ok (.ret (.bool true))) D B2 tb2 (nat_lit 2147483648)
noncomputable def aT2 (D : DL) (B2 tb2 : Nat) : Ans := aDl (.ok (.ret (.bool true))) D B2 tb2 (nat_lit 1)
noncomputable def WS.frame (σ : WS) (P : Params) (t0 t1 kt : Nat) (v : Value) : WS := ⟨σ.k, σ.tk, σ.T0, σ.T1, σ.T2, σ.T3, frE2 P (t0 + 1998) (t1 + 1998) kt v, 5, σ.sl, σ.jt, σ.er, σ.ew, σ.x0, σ.x1, σ.x2, σ.x3, σ.x4, σ.x5⟩
theorem turn_core (hc : Cells c) {n : Nat} {x : Int} {σ : WS} {s : Shared} (I : Inv w t1 its c sm σ s) (hk : σ.k + 3 * (n + 1 : Nat) < 2 ^ 60) {kt1 : Nat} {v1 : Value} {F : List Ans → Out}
    (ih : ∀ (x : Int) (σ : WS) (s : Shared) (p : Pos), Inv w t1 its c sm σ s → FrOk w t0 t1 σ → s.heap.get? 1487 = some (itO x (Int.ofNat n)) → σ.k + 3 * n < 2 ^ 60 →
      wpCode (model M9.tw w) ΓF (fun r s' => r = .ok .next ∧ ∃ σ', Inv w t1 its c sm σ' s' ∧ FrOk w t0 t1 σ' ∧ NxL s s') p s)
    (e0 : vG (F []) = some (nat_lit 0, ΓD, pD, (nat_lit 1487, itO (x + 1) (Int.ofNat (Nat.succ n) - 1)) :: (σ.frame w.params t0 t1 kt1 v1).D w.params t1 sm, nat_lit 0, [(nat_lit 0, s.heap.objs.size)], s.toks, nat_lit 2)) (a0 : vA (F []) = vB (F []))
    (e1 : ∀ (σ2 : WS) kt2 v2 B2 tb2, vG (F [aT1 ((nat_lit 1487, itO (x + 1) (Int.ofNat (Nat.succ n) - 1)) :: (σ2.frame w.params t0 t1 kt2 v2).D w.params t1 sm) B2 tb2]) = some (nat_lit 1, ΓS, pS, (nat_lit 1487, itO (x + 1) (Int.ofNat (Nat.succ n) - 1)) :: (σ2.frame w.params t0 t1 kt2 v2).D w.params t1 sm, nat_lit 0, [(nat_lit 0, B2), (nat_lit 0, s.heap.objs.size)], tb2, nat_lit 0) ∧
      vA (F [aT1 ((nat_lit 1487, itO (x + 1) (Int.ofNat (Nat.succ n) - 1)) :: (σ2.frame w.params t0 t1 kt2 v2).D w.params t1 sm) B2 tb2]) = vB (F [aT1 ((nat_lit 1487, itO (x + 1) (Int.ofNat (Nat.succ n) - 1)) :: (σ2.frame w.params t0 t1 kt2 v2).D w.params t1 sm) B2 tb2]))
    (e2 : ∀ (σ2 : WS) kt2 v2 B2 tb2 D3 B3 tb3, vStop (F [aT1 ((nat_lit 1487, itO (x + 1) (Int.ofNat (Nat.succ n) - 1)) :: (σ2.frame w.params t0 t1 kt2 v2).D w.params t1 sm) B2 tb2, aT2 D3 B3 tb3]) = some (ΓF, pS, [], [], .pure (.again loopC), D3, nat_lit 0, [(nat_lit 0, B3), (nat_lit 0, B2), (nat_lit 0, s.heap.objs.size)], tb3, nat_lit 0) ∧
      vA (F [aT1 ((nat_lit 1487, itO (x + 1) (Int.ofNat (Nat.succ n) - 1)) :: (σ2.frame w.params t0 t1 kt2 v2).D w.params t1 sm) B2 tb2, aT2 D3 B3 tb3]) = vB (F [aT1 ((nat_lit 1487, itO (x + 1) (Int.ofNat (Nat.succ n) - 1)) :: (σ2.frame w.params t0 t1 kt2 v2).D w.params t1 sm) B2 tb2, aT2 D3 B3 tb3])) :
    WinR (model M9.tw w) [] s.os s.drawn (Lw w t1 its c) (fun r s' => r = .ok .next ∧ ∃ σ', Inv w t1 its c sm σ' s' ∧ FrOk w t0 t1 σ' ∧ NxL s s') s.heap F := by
  have hn1 : Int.ofNat (Nat.succ n) - 1 = Int.ofNat n := by simp only [Int.ofNat_eq_natCast, Nat.succ_eq_add_one]; omega
  refine WinR.needV e0 a0 (fun a h₁ => ∃ (σ2 : WS) (s2 : Shared) (kt2 : Nat) (v2 : Value), a = aT1 ((nat_lit 1487, itO (x + 1) (Int.ofNat (Nat.succ n) - 1)) :: (σ2.frame w.params t0 t1 kt2 v2).D w.params t1 sm) s2.heap.objs.size s2.toks ∧ h₁ = s2.heap ∧ Inv w t1 its c sm (σ2.frame w.params t0 t1 kt2 v2) s2 ∧ σ2.k ≤ σ.k + 3 ∧ s2.heap.get? 1487 = some (itO (x + 1) (Int.ofNat (Nat.succ n) - 1)) ∧ NxL s s2)
    (fun s1 X R => ?_) ?_ ?_
  · obtain ⟨J, hit, N⟩ := I.of_rep (σ' := σ.frame w.params t0 t1 kt1 v1) R I.tk rfl rfl I.k0 rfl I.tb
    refine wpCode_mono (deed_wp J hc (by show σ.k < 2 ^ 60; omega) (J.st 1473 _ rfl)) fun r s2 h => ?_
    obtain ⟨rfl, σ2, J2, hk2, hes, hn, N2⟩ := h
    obtain ⟨k, tk, T0, T1, T2, T3, es, nn, sl, jt, er, ew, x0, x1, x2, x3, x4, x5⟩ := σ2
    dsimp only [WS.frame] at hes hn hk2
    subst hes hn
    refine ⟨_, s2.heap, rfl, ⟨⟨k, tk, T0, T1, T2, T3, [], 0, sl, jt, er, ew, x0, x1, x2, x3, x4, x5⟩, s2, kt1, v1, rfl, rfl, J2, hk2, N2.keep _ _ key_1487 hit, N.trans N2.nxl⟩, ?_⟩
    refine R.rebase (fun a o h => ?_) J2.gens (N2.os.trans N.os) (N2.dr.trans N.dr)
    by_cases q : a = 1487
    · subst q; cases h; exact N2.keep _ _ key_1487 hit
    · exact J2.D a o ((lookD_it q).symm.trans h)
  · rintro _ _ ⟨σ2, s2, kt2, v2, rfl, rfl, J, -⟩
    exact ⟨J.st⟩
  rintro _ _ ⟨σ2, s2, kt2, v2, rfl, rfl, J, hk2, hit2, N⟩
  refine WinR.needV (e1 σ2 kt2 v2 _ _).1 (e1 σ2 kt2 v2 _ _).2 (fun a h₁ => ∃ (s3 : Shared), a = aT2 ((nat_lit 1487, itO (x + 1) (Int.ofNat (Nat.succ n) - 1)) :: (σ2.frame w.params t0 t1 kt2 v2).D w.params t1 sm) s3.heap.objs.size s3.toks ∧ h₁ = s3.heap ∧ Inv w t1 its c sm (σ2.frame w.params t0 t1 kt2 v2) s3 ∧ NxL s s3) (fun s' X R => ?_) ?_ ?_
  · obtain ⟨J', hit', N'⟩ := J.of_rep (σ' := σ2.frame w.params t0 t1 kt2 v2) R J.tk N.os.symm N.dr.symm J.k0 rfl J.tb
    refine wpCode_mono (stands_wp J') fun r s3 h => ?_
    obtain ⟨rfl, J3, N3⟩ := h
    refine ⟨_, s3.heap, rfl, ⟨s3, rfl, rfl, J3, (N.trans N').trans N3.nxl⟩, ?_⟩
    refine R.rebase (fun a o h => ?_) J3.gens (((N.trans N').trans N3.nxl).os) (((N.trans N').trans N3.nxl).dr)
    by_cases q : a = 1487
    · subst q; cases h; exact N3.keep _ _ key_1487 hit'
    · exact J3.D a o ((lookD_it q).symm.trans h)
  · rintro _ _ ⟨s3, rfl, rfl, J3, -⟩
    exact ⟨J3.st⟩
  rintro _ _ ⟨s3, rfl, rfl, J3, N3⟩
  refine WinR.stopV (e2 σ2 kt2 v2 _ _ _ _ _).1 (e2 σ2 kt2 v2 _ _ _ _ _).2 fun s4 X R => conf_again ?_
  obtain ⟨J4, hit4, N4⟩ := J3.of_rep (σ' := σ2.frame w.params t0 t1 kt2 v2) R J3.tk N3.os.symm N3.dr.symm J3.k0 rfl J3.tb
  rw [hn1] at hit4
  refine wpCode_mono (ih (x + 1) _ s4 pS J4 (.inr ⟨kt2, v2, rfl, rfl⟩) hit4 (by show σ2.k + _ < _; omega)) fun r s5 h => ?_
  obtain ⟨rfl, σ5, J5, f5, N5⟩ := h
  exact ⟨rfl, σ5, J5, f5, (N3.trans N4).trans N5⟩
theorem loop_wp (hc : Cells c) : ∀ (n : Nat) (x : Int) (σ : WS) (s : Shared) (p : Pos), Inv w t1 its c sm σ s → FrOk w t0 t1 σ → s.heap.get? 1487 = some (itO x (Int.ofNat n)) → σ.k + 3 * n < 2 ^ 60 →
    wpCode (model M9.tw w) ΓF (fun r s' => r = .ok .next ∧ ∃ σ', Inv w t1 its c sm σ' s' ∧ FrOk w t0 t1 σ' ∧ NxL s s') p s := by
  intro n
  induction n with
  | zero =>
    intro x σ s p I hf hit hk
    obtain ⟨B, hB⟩ : ∃ B, s.heap.objs.size = B + 1488 := ⟨s.heap.objs.size - 1488, by have := I.sz; omega⟩
    obtain ⟨T, hT⟩ : ∃ T, s.toks = T + 1998 := ⟨s.toks - 1998, by have := I.tk; omega⟩
    have e := tend w t1 its c x (boxO (t1 + 1998) sm σ.k σ.tk) σ.T0 σ.T1 σ.T2 σ.T3 (frO σ.es σ.n σ.sl) (jrO w.params (t1 + 1998) σ.jt) (pipO (t1 + 1998) (σ.er || σ.ew)) (ownO w.params (t1 + 1998) σ.er σ.ew) (endO σ.er σ.ew) B T p
    rw [← hB, ← hT] at e
    have hD : ∀ a o, lookD ((nat_lit 1487, itO x 0) :: σ.D w.params t1 sm) a = some o → s.heap.get? a = some o := by
      intro a o h
      by_cases q : a = 1487
      · subst q; cases h; exact hit
      · exact I.D a o ((lookD_it q).symm.trans h)
    refine code_of_run (C := cfE w.params (lookW w.params (t1 + 1998) its c) [] dkW) (cf_ok w _ [] _) isItF_ok I.st (fun d x v h => dk_ok (t1 := t1 + 1998) (I.st 1473 _ rfl) d x v h) (n := nat_lit 40) (orc := nat_lit 1182897463726624997376) (h₀ := s.heap) (os := s.os) (dr := s.drawn)
      (h := ⟨(nat_lit 1487, itO x 0) :: σ.D w.params t1 sm, .nil, nat_lit 0, [(nat_lit 0, s.heap.objs.size)], s.toks, nat_lit 0⟩) ?_ (Rep.start _ hD I.gens fun x hx => absurd hx List.not_mem_nil)
    refine Win.fin' (F := fun as => gOut w.params (t1 + 1998) its c (nat_lit 40) ΓF p _ ((nat_lit 1487, itO x 0) :: σ.D w.params t1 sm) s.heap.objs.size s.toks as) (congrArg Prod.fst e) (congrArg (fun z => z.2.2) e) fun s' R => ?_
    obtain ⟨J, _, N⟩ := I.of_rep (σ' := σ) R I.tk rfl rfl I.k0 rfl I.tb
    exact ⟨rfl, σ, J, hf, N⟩
  | succ n ih =>
    intro x σ s p I hf hit hk
    obtain ⟨B, hB⟩ : ∃ B, s.heap.objs.size = B + 1488 := ⟨s.heap.objs.size - 1488, by have := I.sz; omega⟩
    obtain ⟨T, hT⟩ : ∃ T, s.toks = T + 1998 := ⟨s.toks - 1998, by have := I.tk; omega⟩
    have hD : ∀ a o, lookD ((nat_lit 1487, itO x (Int.ofNat (Nat.succ n))) :: σ.D w.params t1 sm) a = some o → s.heap.get? a = some o := by
      intro a o h
      by_cases q : a = 1487
      · subst q; cases h; exact hit
      · exact I.D a o ((lookD_it q).symm.trans h)
    refine code_of_runR (L := Lw w t1 its c) (C := cfE w.params (lookW w.params (t1 + 1998) its c) [] dkW) (cf_ok w _ [] _) isItF_ok (fun h L => L.st) (fun h L => L.dk) (n := nat_lit 100) (orc := oT) (h₀ := s.heap) (os := s.os) (dr := s.drawn)
      (h := ⟨(nat_lit 1487, itO x (Int.ofNat (Nat.succ n))) :: σ.D w.params t1 sm, .nil, nat_lit 0, [(nat_lit 0, s.heap.objs.size)], s.toks, nat_lit 0⟩) ⟨I.st⟩ ?_ (Rep.start _ hD I.gens fun x hx => absurd hx List.not_mem_nil)
    show WinR _ _ _ _ _ _ _ (fun as => gOut w.params (t1 + 1998) its c (nat_lit 100) ΓF p oT ((nat_lit 1487, itO x (Int.ofNat (Nat.succ n))) :: σ.D w.params t1 sm) s.heap.objs.size s.toks as)
    obtain ⟨k, tk, T0, T1, T2, T3, es, nn, sl, jt, er, ew, x0, x1, x2, x3, x4, x5⟩ := σ
    rcases hf with ⟨hes, hn⟩ | ⟨kt, v, hes, hn⟩
    · dsimp only at hes hn
      subst hes hn
      have z0 := tu0_0 w t1 its c t0 x n sl (boxO (t1 + 1998) sm k tk) T0 T1 T2 T3 (jrO w.params (t1 + 1998) jt) (pipO (t1 + 1998) (er || ew)) (ownO w.params (t1 + 1998) er ew) (endO er ew) B T p
      have z1 := tu0_1 w t1 its c t0 x n sl (boxO (t1 + 1998) sm k tk) T0 T1 T2 T3 (jrO w.params (t1 + 1998) jt) (pipO (t1 + 1998) (er || ew)) (ownO w.params (t1 + 1998) er ew) (endO er ew) B T p
      have z2 := tu0_2 w t1 its c t0 x n sl (boxO (t1 + 1998) sm k tk) T0 T1 T2 T3 (jrO w.params (t1 + 1998) jt) (pipO (t1 + 1998) (er || ew)) (ownO w.params (t1 + 1998) er ew) (endO er ew) B T p
      rw [← hB, ← hT] at z0 z1 z2
      refine turn_core hc I hk ih (congrArg Prod.fst z0) (congrArg Prod.snd z0) (fun σ2 kt2 v2 B2 tb2 => ?_) (fun σ2 kt2 v2 B2 tb2 D3 B3 tb3 => ?_)
      · have e := z1 (itO (x + 1) (Int.ofNat (Nat.succ n) - 1)) (boxO (t1 + 1998) sm σ2.k σ2.tk) σ2.T0 σ2.T1 σ2.T2 σ2.T3 (jrO w.params (t1 + 1998) σ2.jt) (pipO (t1 + 1998) (σ2.er || σ2.ew)) (ownO w.params (t1 + 1998) σ2.er σ2.ew) (endO σ2.er σ2.ew) kt2 v2 σ2.sl B2 tb2
        exact ⟨congrArg Prod.fst e, congrArg Prod.snd e⟩
      · have e := z2 (itO (x + 1) (Int.ofNat (Nat.succ n) - 1)) (boxO (t1 + 1998) sm σ2.k σ2.tk) σ2.T0 σ2.T1 σ2.T2 σ2.T3 (jrO w.params (t1 + 1998) σ2.jt) (pipO (t1 + 1998) (σ2.er || σ2.ew)) (ownO w.params (t1 + 1998) σ2.er σ2.ew) (endO σ2.er σ2.ew) kt2 v2 σ2.sl D3 B2 tb2 B3 tb3
        exact ⟨congrArg Prod.fst e, congrArg (fun z => z.2.2) e⟩
    · dsimp only at hes hn
      subst hes hn
      have z0 := tu1_0 w t1 its c t0 kt v x n sl (boxO (t1 + 1998) sm k tk) T0 T1 T2 T3 (jrO w.params (t1 + 1998) jt) (pipO (t1 + 1998) (er || ew)) (ownO w.params (t1 + 1998) er ew) (endO er ew) B T p
      have z1 := tu1_1 w t1 its c t0 kt v x n sl (boxO (t1 + 1998) sm k tk) T0 T1 T2 T3 (jrO w.params (t1 + 1998) jt) (pipO (t1 + 1998) (er || ew)) (ownO w.params (t1 + 1998) er ew) (endO er ew) B T p
      have z2 := tu1_2 w t1 its c t0 kt v x n sl (boxO (t1 + 1998) sm k tk) T0 T1 T2 T3 (jrO w.params (t1 + 1998) jt) (pipO (t1 + 1998) (er || ew)) (ownO w.params (t1 + 1998) er ew) (endO er ew) B T p
      rw [← hB, ← hT] at z0 z1 z2
      refine turn_core hc I hk ih (congrArg Prod.fst z0) (congrArg Prod.snd z0) (fun σ2 kt2 v2 B2 tb2 => ?_) (fun σ2 kt2 v2 B2 tb2 D3 B3 tb3 => ?_)
      · have e := z1 (itO (x + 1) (Int.ofNat (Nat.succ n) - 1)) (boxO (t1 + 1998) sm σ2.k σ2.tk) σ2.T0 σ2.T1 σ2.T2 σ2.T3 (jrO w.params (t1 + 1998) σ2.jt) (pipO (t1 + 1998) (σ2.er || σ2.ew)) (ownO w.params (t1 + 1998) σ2.er σ2.ew) (endO σ2.er σ2.ew) kt2 v2 σ2.sl B2 tb2
        exact ⟨congrArg Prod.fst e, congrArg Prod.snd e⟩
      · have e := z2 (itO (x + 1) (Int.ofNat (Nat.succ n) - 1)) (boxO (t1 + 1998) sm σ2.k σ2.tk) σ2.T0 σ2.T1 σ2.T2 σ2.T3 (jrO w.params (t1 + 1998) σ2.jt) (pipO (t1 + 1998) (σ2.er || σ2.ew)) (ownO w.params (t1 + 1998) σ2.er σ2.ew) (endO σ2.er σ2.ew) kt2 v2 σ2.sl D3 B2 tb2 B3 tb3
        exact ⟨congrArg Prod.fst e, congrArg (fun z => z.2.2) e⟩
end
end M9
end
section
open PySem PySem.W PySem.Calls PyProof.Rows PySem.Spec
namespace M9
noncomputable def bS (P : Params) (t1 : Nat) (its c : Array Value) (n : Nat) (p : Pos) (l : List Stmt) (orc : Nat) (D : DL) (B T : Nat) (as : List Ans) : Out :=
  om (cfE P (lookW P t1 its c) [] dkW) n ⟨ΓL, p, [], [.seq l envL, .fn envL], .pure (.done .next), ⟨D, .nil, nat_lit 0, [(nat_lit 0, B)], T, nat_lit 0⟩, ⟨orc, [], [], [], []⟩⟩ as
noncomputable abbrev pB : Pos := ⟨963, 48, 963, 60⟩
noncomputable abbrev pF : Pos := ⟨964, 16, 964, 70⟩
noncomputable def oB0 : Nat := nat_lit 1208925819614629174706176
noncomputable def oB3 : Nat := nat_lit 5989235138424891898363693877623381137262181271732224
noncomputable def bOut (P : Params) (t1 : Nat) (its c : Array Value) (D : DL) (T : Nat) (as : List Ans) : Out := bS P t1 its c (nat_lit 120) pB (dr 2 lawB) oB0 D (nat_lit 1485) T as
noncomputable def bl0 (p : Pos) : List (Code × Pos) := [(.func lawB envL, p), (.builtin "claim.caller" {}, p0)]
noncomputable def aLenB (L : Int) (tL : Nat) : Ans := ⟨.ok (.ret (.int L tL)), fun h => tick (tick h), nat_lit 2049⟩
noncomputable def aGtB (b : Bool) : Ans := ⟨.ok (.ret (.bool b)), fun h => h, nat_lit 3072⟩
noncomputable def aLp (D : DL) (Bn tb : Nat) : Ans := ⟨.ok .next, fun _ => ⟨D, .nil, nat_lit 0, [(nat_lit 0, Bn)], tb, nat_lit 0⟩, nat_lit 1⟩
noncomputable abbrev NdX (w : World) (o : Params → Out) (l : List Nat) (x : Params → Option (Nat × PySem.Ctx × Pos × DL × Nat × List (Nat × Nat) × Nat × Nat)) (v : List (Option Obj)) : Prop := (fun P => (vG (o P), vX l (o P), vA (o P))) w.params = (fun P => (x P, v, vB (o P))) w.params
section
variable (w : World) (t1 : Nat) (its c : Array Value) (t0 : Nat) (sl : Array (Option Value)) (ob T0 T1 T2 T3 jr pi ow en : Obj) (T : Nat)
include w t1 its c t0 sl ob T0 T1 T2 T3 jr pi ow en T
theorem rb0 : NdE w (fun P => bOut P (t1 + 1998) its c (dl ob T0 T1 T2 T3 (frO (frE P (t0 + 1998) (t1 + 1998)) 4 sl) jr pi ow en) (T + 1998) []) (fun P => some (nat_lit 0, ⟨.call (.builtin "len") ⟨[.ref 1341], []⟩, none, none, bl0 ⟨964, 47, 964, 57⟩, none⟩, ⟨964, 47, 964, 57⟩, (dl ob T0 T1 T2 T3 (frO (frE P (t0 + 1998) (t1 + 1998)) 4 sl) jr pi ow en), nat_lit 0, [(nat_lit 0, nat_lit 1485)], T + 1998, nat_lit 1)) := by kernel_rfl
theorem rb1 (L : Int) (tL : Nat) : NdE w (fun P => bOut P (t1 + 1998) its c (dl ob T0 T1 T2 T3 (frO (frE P (t0 + 1998) (t1 + 1998)) 4 sl) jr pi ow en) (T + 1998) [aLenB L tL]) (fun P => some (nat_lit 1, ⟨.call (.builtin "int.__gt__") ⟨[.int L tL, .int 1 ((T + 1998) + 3)], []⟩, none, none, bl0 ⟨964, 47, 964, 61⟩, none⟩, ⟨964, 47, 964, 61⟩, (dl ob T0 T1 T2 T3 (frO (frE P (t0 + 1998) (t1 + 1998)) 4 sl) jr pi ow en), nat_lit 0, [(nat_lit 0, nat_lit 1485)], T + 1998, nat_lit 4)) := by kernel_rfl
theorem rb2t (L : Int) (tL : Nat) : NdE w (fun P => bOut P (t1 + 1998) its c (dl ob T0 T1 T2 T3 (frO (frE P (t0 + 1998) (t1 + 1998)) 4 sl) jr pi ow en) (T + 1998) [aLenB L tL, aGtB true]) (fun P => some (nat_lit 2, ΓT 11 ((T + 1998) + 4) (bl0 ⟨964, 26, 964, 69⟩), ⟨964, 26, 964, 69⟩, (dl ob T0 T1 T2 T3 (frO (frE P (t0 + 1998) (t1 + 1998)) 4 sl) jr pi ow en), nat_lit 0, [(nat_lit 0, nat_lit 1485)], T + 1998, nat_lit 5)) := by kernel_rfl
theorem rb3t0 (L : Int) (tL tw0 tb0 : Nat) (ob1 : Obj) : NdX w (fun P => bOut P (t1 + 1998) its c (dl ob T0 T1 T2 T3 (frO (frE P (t0 + 1998) (t1 + 1998)) 4 sl) jr pi ow en) (T + 1998) [aLenB L tL, aGtB true, aTk 0 tw0 ob1 (nat_lit 1486) (tb0 + 1998) oB3]) [nat_lit 1] (fun P => some (nat_lit 3, ΓF, pF, (dl ob1 T0 T1 T2 T3 (frO (frE P (t0 + 1998) (t1 + 1998)) 4 sl) jr pi ow en), nat_lit 2, [(nat_lit 0, nat_lit 1486), (nat_lit 0, nat_lit 1485)], tb0 + 1998, nat_lit 3)) [some (itO 0 (Int.ofNat (nat_lit 2)))] := by kernel_rfl
theorem rb4t0 (L : Int) (tL tw0 tb0 : Nat) (ob1 : Obj) (D2 : DL) (B2 tb2 : Nat) : StE w (fun P => bOut P (t1 + 1998) its c (dl ob T0 T1 T2 T3 (frO (frE P (t0 + 1998) (t1 + 1998)) 4 sl) jr pi ow en) (T + 1998) [aLenB L tL, aGtB true, aTk 0 tw0 ob1 (nat_lit 1486) (tb0 + 1998) oB3, aLp D2 B2 tb2]) [] (fun P => some (ΓL, pF, [], [.seq (dr 3 lawB) envL, .fn envL], .pure (.done .next), D2, nat_lit 0, [(nat_lit 0, B2)], tb2, nat_lit 0)) [] := by kernel_rfl
theorem rb3t1 (L : Int) (tL tw0 tb0 : Nat) (ob1 : Obj) : NdX w (fun P => bOut P (t1 + 1998) its c (dl ob T0 T1 T2 T3 (frO (frE P (t0 + 1998) (t1 + 1998)) 4 sl) jr pi ow en) (T + 1998) [aLenB L tL, aGtB true, aTk 1 tw0 ob1 (nat_lit 1486) (tb0 + 1998) oB3]) [nat_lit 1] (fun P => some (nat_lit 3, ΓF, pF, (dl ob1 T0 T1 T2 T3 (frO (frE P (t0 + 1998) (t1 + 1998)) 4 sl) jr pi ow en), nat_lit 2, [(nat_lit 0, nat_lit 1486), (nat_lit 0, nat_lit 1485)], tb0 + 1998, nat_lit 3)) [some (itO 0 (Int.ofNat (nat_lit 3)))] := by kernel_rfl
theorem rb4t1 (L : Int) (tL tw0 tb0 : Nat) (ob1 : Obj) (D2 : DL) (B2 tb2 : Nat) : StE w (fun P => bOut P (t1 + 1998) its c (dl ob T0 T1 T2 T3 (frO (frE P (t0 + 1998) (t1 + 1998)) 4 sl) jr pi ow en) (T + 1998) [aLenB L tL, aGtB true, aTk 1 tw0 ob1 (nat_lit 1486) (tb0 + 1998) oB3, aLp D2 B2 tb2]) [] (fun P => some (ΓL, pF, [], [.seq (dr 3 lawB) envL, .fn envL], .pure (.done .next), D2, nat_lit 0, [(nat_lit 0, B2)], tb2, nat_lit 0)) [] := by kernel_rfl
theorem rb3t2 (L : Int) (tL tw0 tb0 : Nat) (ob1 : Obj) : NdX w (fun P => bOut P (t1 + 1998) its c (dl ob T0 T1 T2 T3 (frO (frE P (t0 + 1998) (t1 + 1998)) 4 sl) jr pi ow en) (T + 1998) [aLenB L tL, aGtB true, aTk 2 tw0 ob1 (nat_lit 1486) (tb0 + 1998) oB3]) [nat_lit 1] (fun P => some (nat_lit 3, ΓF, pF, (dl ob1 T0 T1 T2 T3 (frO (frE P (t0 + 1998) (t1 + 1998)) 4 sl) jr pi ow en), nat_lit 2, [(nat_lit 0, nat_lit 1486), (nat_lit 0, nat_lit 1485)], tb0 + 1998, nat_lit 3)) [some (itO 0 (Int.ofNat (nat_lit 4)))] := by kernel_rfl
theorem rb4t2 (L : Int) (tL tw0 tb0 : Nat) (ob1 : Obj) (D2 : DL) (B2 tb2 : Nat) : StE w (fun P => bOut P (t1 + 1998) its c (dl ob T0 T1 T2 T3 (frO (frE P (t0 + 1998) (t1 + 1998)) 4 sl) jr pi ow en) (T + 1998) [aLenB L tL, aGtB true, aTk 2 tw0 ob1 (nat_lit 1486) (tb0 + 1998) oB3, aLp D2 B2 tb2]) [] (fun P => some (ΓL, pF, [], [.seq (dr 3 lawB) envL, .fn envL], .pure (.done .next), D2, nat_lit 0, [(nat_lit 0, B2)], tb2, nat_lit 0)) [] := by kernel_rfl
theorem rb3t3 (L : Int) (tL tw0 tb0 : Nat) (ob1 : Obj) : NdX w (fun P => bOut P (t1 + 1998) its c (dl ob T0 T1 T2 T3 (frO (frE P (t0 + 1998) (t1 + 1998)) 4 sl) jr pi ow en) (T + 1998) [aLenB L tL, aGtB true, aTk 3 tw0 ob1 (nat_lit 1486) (tb0 + 1998) oB3]) [nat_lit 1] (fun P => some (nat_lit 3, ΓF, pF, (dl ob1 T0 T1 T2 T3 (frO (frE P (t0 + 1998) (t1 + 1998)) 4 sl) jr pi ow en), nat_lit 2, [(nat_lit 0, nat_lit 1486), (nat_lit 0, nat_lit 1485)], tb0 + 1998, nat_lit 3)) [some (itO 0 (Int.ofNat (nat_lit 5)))] := by kernel_rfl
theorem rb4t3 (L : Int) (tL tw0 tb0 : Nat) (ob1 : Obj) (D2 : DL) (B2 tb2 : Nat) : StE w (fun P => bOut P (t1 + 1998) its c (dl ob T0 T1 T2 T3 (frO (frE P (t0 + 1998) (t1 + 1998)) 4 sl) jr pi ow en) (T + 1998) [aLenB L tL, aGtB true, aTk 3 tw0 ob1 (nat_lit 1486) (tb0 + 1998) oB3, aLp D2 B2 tb2]) [] (fun P => some (ΓL, pF, [], [.seq (dr 3 lawB) envL, .fn envL], .pure (.done .next), D2, nat_lit 0, [(nat_lit 0, B2)], tb2, nat_lit 0)) [] := by kernel_rfl
theorem rb3t4 (L : Int) (tL tw0 tb0 : Nat) (ob1 : Obj) : NdX w (fun P => bOut P (t1 + 1998) its c (dl ob T0 T1 T2 T3 (frO (frE P (t0 + 1998) (t1 + 1998)) 4 sl) jr pi ow en) (T + 1998) [aLenB L tL, aGtB true, aTk 4 tw0 ob1 (nat_lit 1486) (tb0 + 1998) oB3]) [nat_lit 1] (fun P => some (nat_lit 3, ΓF, pF, (dl ob1 T0 T1 T2 T3 (frO (frE P (t0 + 1998) (t1 + 1998)) 4 sl) jr pi ow en), nat_lit 2, [(nat_lit 0, nat_lit 1486), (nat_lit 0, nat_lit 1485)], tb0 + 1998, nat_lit 3)) [some (itO 0 (Int.ofNat (nat_lit 6)))] := by kernel_rfl
theorem rb4t4 (L : Int) (tL tw0 tb0 : Nat) (ob1 : Obj) (D2 : DL) (B2 tb2 : Nat) : StE w (fun P => bOut P (t1 + 1998) its c (dl ob T0 T1 T2 T3 (frO (frE P (t0 + 1998) (t1 + 1998)) 4 sl) jr pi ow en) (T + 1998) [aLenB L tL, aGtB true, aTk 4 tw0 ob1 (nat_lit 1486) (tb0 + 1998) oB3, aLp D2 B2 tb2]) [] (fun P => some (ΓL, pF, [], [.seq (dr 3 lawB) envL, .fn envL], .pure (.done .next), D2, nat_lit 0, [(nat_lit 0, B2)], tb2, nat_lit 0)) [] := by kernel_rfl
theorem rb3t5 (L : Int) (tL tw0 tb0 : Nat) (ob1 : Obj) : NdX w (fun P => bOut P (t1 + 1998) its c (dl ob T0 T1 T2 T3 (frO (frE P (t0 + 1998) (t1 + 1998)) 4 sl) jr pi ow en) (T + 1998) [aLenB L tL, aGtB true, aTk 5 tw0 ob1 (nat_lit 1486) (tb0 + 1998) oB3]) [nat_lit 1] (fun P => some (nat_lit 3, ΓF, pF, (dl ob1 T0 T1 T2 T3 (frO (frE P (t0 + 1998) (t1 + 1998)) 4 sl) jr pi ow en), nat_lit 2, [(nat_lit 0, nat_lit 1486), (nat_lit 0, nat_lit 1485)], tb0 + 1998, nat_lit 3)) [some (itO 0 (Int.ofNat (nat_lit 7)))] := by kernel_rfl
theorem rb4t5 (L : Int) (tL tw0 tb0 : Nat) (ob1 : Obj) (D2 : DL) (B2 tb2 : Nat) : StE w (fun P => bOut P (t1 + 1998) its c (dl ob T0 T1 T2 T3 (frO (frE P (t0 + 1998) (t1 + 1998)) 4 sl) jr pi ow en) (T + 1998) [aLenB L tL, aGtB true, aTk 5 tw0 ob1 (nat_lit 1486) (tb0 + 1998) oB3, aLp D2 B2 tb2]) [] (fun P => some (ΓL, pF, [], [.seq (dr 3 lawB) envL, .fn envL], .pure (.done .next), D2, nat_lit 0, [(nat_lit 0, B2)], tb2, nat_lit 0)) [] := by kernel_rfl
theorem rb3t6 (L : Int) (tL tw0 tb0 : Nat) (ob1 : Obj) : NdX w (fun P => bOut P (t1 + 1998) its c (dl ob T0 T1 T2 T3 (frO (frE P (t0 + 1998) (t1 + 1998)) 4 sl) jr pi ow en) (T + 1998) [aLenB L tL, aGtB true, aTk 6 tw0 ob1 (nat_lit 1486) (tb0 + 1998) oB3]) [nat_lit 1] (fun P => some (nat_lit 3, ΓF, pF, (dl ob1 T0 T1 T2 T3 (frO (frE P (t0 + 1998) (t1 + 1998)) 4 sl) jr pi ow en), nat_lit 2, [(nat_lit 0, nat_lit 1486), (nat_lit 0, nat_lit 1485)], tb0 + 1998, nat_lit 3)) [some (itO 0 (Int.ofNat (nat_lit 8)))] := by kernel_rfl
theorem rb4t6 (L : Int) (tL tw0 tb0 : Nat) (ob1 : Obj) (D2 : DL) (B2 tb2 : Nat) : StE w (fun P => bOut P (t1 + 1998) its c (dl ob T0 T1 T2 T3 (frO (frE P (t0 + 1998) (t1 + 1998)) 4 sl) jr pi ow en) (T + 1998) [aLenB L tL, aGtB true, aTk 6 tw0 ob1 (nat_lit 1486) (tb0 + 1998) oB3, aLp D2 B2 tb2]) [] (fun P => some (ΓL, pF, [], [.seq (dr 3 lawB) envL, .fn envL], .pure (.done .next), D2, nat_lit 0, [(nat_lit 0, B2)], tb2, nat_lit 0)) [] := by kernel_rfl
theorem rb3t7 (L : Int) (tL tw0 tb0 : Nat) (ob1 : Obj) : NdX w (fun P => bOut P (t1 + 1998) its c (dl ob T0 T1 T2 T3 (frO (frE P (t0 + 1998) (t1 + 1998)) 4 sl) jr pi ow en) (T + 1998) [aLenB L tL, aGtB true, aTk 7 tw0 ob1 (nat_lit 1486) (tb0 + 1998) oB3]) [nat_lit 1] (fun P => some (nat_lit 3, ΓF, pF, (dl ob1 T0 T1 T2 T3 (frO (frE P (t0 + 1998) (t1 + 1998)) 4 sl) jr pi ow en), nat_lit 2, [(nat_lit 0, nat_lit 1486), (nat_lit 0, nat_lit 1485)], tb0 + 1998, nat_lit 3)) [some (itO 0 (Int.ofNat (nat_lit 9)))] := by kernel_rfl
theorem rb4t7 (L : Int) (tL tw0 tb0 : Nat) (ob1 : Obj) (D2 : DL) (B2 tb2 : Nat) : StE w (fun P => bOut P (t1 + 1998) its c (dl ob T0 T1 T2 T3 (frO (frE P (t0 + 1998) (t1 + 1998)) 4 sl) jr pi ow en) (T + 1998) [aLenB L tL, aGtB true, aTk 7 tw0 ob1 (nat_lit 1486) (tb0 + 1998) oB3, aLp D2 B2 tb2]) [] (fun P => some (ΓL, pF, [], [.seq (dr 3 lawB) envL, .fn envL], .pure (.done .next), D2, nat_lit 0, [(nat_lit 0, B2)], tb2, nat_lit 0)) [] := by kernel_rfl
theorem rb3t8 (L : Int) (tL tw0 tb0 : Nat) (ob1 : Obj) : NdX w (fun P => bOut P (t1 + 1998) its c (dl ob T0 T1 T2 T3 (frO (frE P (t0 + 1998) (t1 + 1998)) 4 sl) jr pi ow en) (T + 1998) [aLenB L tL, aGtB true, aTk 8 tw0 ob1 (nat_lit 1486) (tb0 + 1998) oB3]) [nat_lit 1] (fun P => some (nat_lit 3, ΓF, pF, (dl ob1 T0 T1 T2 T3 (frO (frE P (t0 + 1998) (t1 + 1998)) 4 sl) jr pi ow en), nat_lit 2, [(nat_lit 0, nat_lit 1486), (nat_lit 0, nat_lit 1485)], tb0 + 1998, nat_lit 3)) [some (itO 0 (Int.ofNat (nat_lit 10)))] := by kernel_rfl
theorem rb4t8 (L : Int) (tL tw0 tb0 : Nat) (ob1 : Obj) (D2 : DL) (B2 tb2 : Nat) : StE w (fun P => bOut P (t1 + 1998) its c (dl ob T0 T1 T2 T3 (frO (frE P (t0 + 1998) (t1 + 1998)) 4 sl) jr pi ow en) (T + 1998) [aLenB L tL, aGtB true, aTk 8 tw0 ob1 (nat_lit 1486) (tb0 + 1998) oB3, aLp D2 B2 tb2]) [] (fun P => some (ΓL, pF, [], [.seq (dr 3 lawB) envL, .fn envL], .pure (.done .next), D2, nat_lit 0, [(nat_lit 0, B2)], tb2, nat_lit 0)) [] := by kernel_rfl
theorem rb3t9 (L : Int) (tL tw0 tb0 : Nat) (ob1 : Obj) : NdX w (fun P => bOut P (t1 + 1998) its c (dl ob T0 T1 T2 T3 (frO (frE P (t0 + 1998) (t1 + 1998)) 4 sl) jr pi ow en) (T + 1998) [aLenB L tL, aGtB true, aTk 9 tw0 ob1 (nat_lit 1486) (tb0 + 1998) oB3]) [nat_lit 1] (fun P => some (nat_lit 3, ΓF, pF, (dl ob1 T0 T1 T2 T3 (frO (frE P (t0 + 1998) (t1 + 1998)) 4 sl) jr pi ow en), nat_lit 2, [(nat_lit 0, nat_lit 1486), (nat_lit 0, nat_lit 1485)], tb0 + 1998, nat_lit 3)) [some (itO 0 (Int.ofNat (nat_lit 11)))] := by kernel_rfl
theorem rb4t9 (L : Int) (tL tw0 tb0 : Nat) (ob1 : Obj) (D2 : DL) (B2 tb2 : Nat) : StE w (fun P => bOut P (t1 + 1998) its c (dl ob T0 T1 T2 T3 (frO (frE P (t0 + 1998) (t1 + 1998)) 4 sl) jr pi ow en) (T + 1998) [aLenB L tL, aGtB true, aTk 9 tw0 ob1 (nat_lit 1486) (tb0 + 1998) oB3, aLp D2 B2 tb2]) [] (fun P => some (ΓL, pF, [], [.seq (dr 3 lawB) envL, .fn envL], .pure (.done .next), D2, nat_lit 0, [(nat_lit 0, B2)], tb2, nat_lit 0)) [] := by kernel_rfl
theorem rb3t10 (L : Int) (tL tw0 tb0 : Nat) (ob1 : Obj) : NdX w (fun P => bOut P (t1 + 1998) its c (dl ob T0 T1 T2 T3 (frO (frE P (t0 + 1998) (t1 + 1998)) 4 sl) jr pi ow en) (T + 1998) [aLenB L tL, aGtB true, aTk 10 tw0 ob1 (nat_lit 1486) (tb0 + 1998) oB3]) [nat_lit 1] (fun P => some (nat_lit 3, ΓF, pF, (dl ob1 T0 T1 T2 T3 (frO (frE P (t0 + 1998) (t1 + 1998)) 4 sl) jr pi ow en), nat_lit 2, [(nat_lit 0, nat_lit 1486), (nat_lit 0, nat_lit 1485)], tb0 + 1998, nat_lit 3)) [some (itO 0 (Int.ofNat (nat_lit 12)))] := by kernel_rfl
theorem rb4t10 (L : Int) (tL tw0 tb0 : Nat) (ob1 : Obj) (D2 : DL) (B2 tb2 : Nat) : StE w (fun P => bOut P (t1 + 1998) its c (dl ob T0 T1 T2 T3 (frO (frE P (t0 + 1998) (t1 + 1998)) 4 sl) jr pi ow en) (T + 1998) [aLenB L tL, aGtB true, aTk 10 tw0 ob1 (nat_lit 1486) (tb0 + 1998) oB3, aLp D2 B2 tb2]) [] (fun P => some (ΓL, pF, [], [.seq (dr 3 lawB) envL, .fn envL], .pure (.done .next), D2, nat_lit 0, [(nat_lit 0, B2)], tb2, nat_lit 0)) [] := by kernel_rfl
theorem rb2f (L : Int) (tL : Nat) : NdE w (fun P => bOut P (t1 + 1998) its c (dl ob T0 T1 T2 T3 (frO (frE P (t0 + 1998) (t1 + 1998)) 4 sl) jr pi ow en) (T + 1998) [aLenB L tL, aGtB false]) (fun P => some (nat_lit 2, ΓT 3 ((T + 1998) + 4) (bl0 ⟨964, 26, 964, 69⟩), ⟨964, 26, 964, 69⟩, (dl ob T0 T1 T2 T3 (frO (frE P (t0 + 1998) (t1 + 1998)) 4 sl) jr pi ow en), nat_lit 0, [(nat_lit 0, nat_lit 1485)], T + 1998, nat_lit 5)) := by kernel_rfl
theorem rb3f0 (L : Int) (tL tw0 tb0 : Nat) (ob1 : Obj) : NdX w (fun P => bOut P (t1 + 1998) its c (dl ob T0 T1 T2 T3 (frO (frE P (t0 + 1998) (t1 + 1998)) 4 sl) jr pi ow en) (T + 1998) [aLenB L tL, aGtB false, aTk 0 tw0 ob1 (nat_lit 1486) (tb0 + 1998) oB3]) [nat_lit 1] (fun P => some (nat_lit 3, ΓF, pF, (dl ob1 T0 T1 T2 T3 (frO (frE P (t0 + 1998) (t1 + 1998)) 4 sl) jr pi ow en), nat_lit 2, [(nat_lit 0, nat_lit 1486), (nat_lit 0, nat_lit 1485)], tb0 + 1998, nat_lit 3)) [some (itO 0 (Int.ofNat (nat_lit 2)))] := by kernel_rfl
theorem rb4f0 (L : Int) (tL tw0 tb0 : Nat) (ob1 : Obj) (D2 : DL) (B2 tb2 : Nat) : StE w (fun P => bOut P (t1 + 1998) its c (dl ob T0 T1 T2 T3 (frO (frE P (t0 + 1998) (t1 + 1998)) 4 sl) jr pi ow en) (T + 1998) [aLenB L tL, aGtB false, aTk 0 tw0 ob1 (nat_lit 1486) (tb0 + 1998) oB3, aLp D2 B2 tb2]) [] (fun P => some (ΓL, pF, [], [.seq (dr 3 lawB) envL, .fn envL], .pure (.done .next), D2, nat_lit 0, [(nat_lit 0, B2)], tb2, nat_lit 0)) [] := by kernel_rfl
theorem rb3f1 (L : Int) (tL tw0 tb0 : Nat) (ob1 : Obj) : NdX w (fun P => bOut P (t1 + 1998) its c (dl ob T0 T1 T2 T3 (frO (frE P (t0 + 1998) (t1 + 1998)) 4 sl) jr pi ow en) (T + 1998) [aLenB L tL, aGtB false, aTk 1 tw0 ob1 (nat_lit 1486) (tb0 + 1998) oB3]) [nat_lit 1] (fun P => some (nat_lit 3, ΓF, pF, (dl ob1 T0 T1 T2 T3 (frO (frE P (t0 + 1998) (t1 + 1998)) 4 sl) jr pi ow en), nat_lit 2, [(nat_lit 0, nat_lit 1486), (nat_lit 0, nat_lit 1485)], tb0 + 1998, nat_lit 3)) [some (itO 0 (Int.ofNat (nat_lit 3)))] := by kernel_rfl
theorem rb4f1 (L : Int) (tL tw0 tb0 : Nat) (ob1 : Obj) (D2 : DL) (B2 tb2 : Nat) : StE w (fun P => bOut P (t1 + 1998) its c (dl ob T0 T1 T2 T3 (frO (frE P (t0 + 1998) (t1 + 1998)) 4 sl) jr pi ow en) (T + 1998) [aLenB L tL, aGtB false, aTk 1 tw0 ob1 (nat_lit 1486) (tb0 + 1998) oB3, aLp D2 B2 tb2]) [] (fun P => some (ΓL, pF, [], [.seq (dr 3 lawB) envL, .fn envL], .pure (.done .next), D2, nat_lit 0, [(nat_lit 0, B2)], tb2, nat_lit 0)) [] := by kernel_rfl
theorem rb3f2 (L : Int) (tL tw0 tb0 : Nat) (ob1 : Obj) : NdX w (fun P => bOut P (t1 + 1998) its c (dl ob T0 T1 T2 T3 (frO (frE P (t0 + 1998) (t1 + 1998)) 4 sl) jr pi ow en) (T + 1998) [aLenB L tL, aGtB false, aTk 2 tw0 ob1 (nat_lit 1486) (tb0 + 1998) oB3]) [nat_lit 1] (fun P => some (nat_lit 3, ΓF, pF, (dl ob1 T0 T1 T2 T3 (frO (frE P (t0 + 1998) (t1 + 1998)) 4 sl) jr pi ow en), nat_lit 2, [(nat_lit 0, nat_lit 1486), (nat_lit 0, nat_lit 1485)], tb0 + 1998, nat_lit 3)) [some (itO 0 (Int.ofNat (nat_lit 4)))] := by kernel_rfl
theorem rb4f2 (L : Int) (tL tw0 tb0 : Nat) (ob1 : Obj) (D2 : DL) (B2 tb2 : Nat) : StE w (fun P => bOut P (t1 + 1998) its c (dl ob T0 T1 T2 T3 (frO (frE P (t0 + 1998) (t1 + 1998)) 4 sl) jr pi ow en) (T + 1998) [aLenB L tL, aGtB false, aTk 2 tw0 ob1 (nat_lit 1486) (tb0 + 1998) oB3, aLp D2 B2 tb2]) [] (fun P => some (ΓL, pF, [], [.seq (dr 3 lawB) envL, .fn envL], .pure (.done .next), D2, nat_lit 0, [(nat_lit 0, B2)], tb2, nat_lit 0)) [] := by kernel_rfl
end
noncomputable def tab_la (a : Nat) : Obj := nO [(.int 967 0), (.int 73 0), (.ref a)]
noncomputable def oR : Nat := nat_lit 300096779686335851774684748993764076927925792688659492825689095626173175883984137436162444391680796188071203276106474006268160273286009979143406887296031126838734215196460002514315306826608703117541743984585032595244106432513286410675807014324488190557720289857024060117224018589059357122290623783565535118108060586722379341064400357148976564009296972178972931561755743713962018546468936726260352951200574031223099845542845080221956712817692582998724979113235575265152825391128371365429976887970956419795381650182214428032711633901478494167652915460301405861253610211816037302545134464051495022082097627217169841554748892478126205509966574450458483547376165376599257507148524815093613162680753219847127669871394815548974255124363886068173152598868578358157549124204565276305557144500106111003254725607419567760930579912072505697407929535669326468071868152256532946621975848290656668595748412026097933508455943060275671214490204254281168383390890104455189124486176705713457808079160827468561797098092840279604562075226482151908367113213230394782649990629945193427038833938948478427889634755206985986478237164230531986962577546225865278058429782783587166403310081578195367599624765977433396770978201656089039259626433523885992513551386185587565230816800774473476819232218785954213485509425955159535356467628512621454077787164647208780642152367535317068568653516742681885328934995414104863954722064070418659699040073257285379671002095341347436509494180826402954517934215261301279908545592795425891476290062816306037453224847570960263956457076961431976268828003605053696614308699248570917147017440395264
theorem rr0 (w : World) (t1 : Nat) (its c : Array Value) (t0 : Nat) (sl : Array (Option Value)) (ob T0 T1 T2 T3 pi ow en : Obj) (jt B T : Nat) (p : Pos) : FinE w (fun P => bS P (t1 + 1998) its c (nat_lit 1000) p (dr 3 lawB) oR ((nat_lit 1332, nO []) :: dl ob T0 T1 T2 T3 (frO (frE P (t0 + 1998) (t1 + 1998)) 4 sl) (jrO P (t1 + 1998) jt) pi ow en) (B + 1488) (T + 1998) []) [] (fun P => some (.ok (.ret (.bool true)), (nat_lit 1332, tab_la ((B + 1488) + 11)) :: dl ob T0 T1 T2 T3 (frO (frE P (t0 + 1998) (t1 + 1998)) 4 sl) (jrO P (t1 + 1998) ((T + 1998) + 48)) pi ow en, nat_lit 19, [(nat_lit 0, B + 1488)], T + 1998, nat_lit 55)) [] := by kernel_rfl
theorem rr1 (w : World) (t1 : Nat) (its c : Array Value) (t0 : Nat) (kt : Nat) (v : Value) (sl : Array (Option Value)) (ob T0 T1 T2 T3 pi ow en : Obj) (jt B T : Nat) (p : Pos) : FinE w (fun P => bS P (t1 + 1998) its c (nat_lit 1000) p (dr 3 lawB) oR ((nat_lit 1332, nO []) :: dl ob T0 T1 T2 T3 (frO (frE2 P (t0 + 1998) (t1 + 1998) kt v) 5 sl) (jrO P (t1 + 1998) jt) pi ow en) (B + 1488) (T + 1998) []) [] (fun P => some (.ok (.ret (.bool true)), (nat_lit 1332, tab_la ((B + 1488) + 11)) :: dl ob T0 T1 T2 T3 (frO (frE2 P (t0 + 1998) (t1 + 1998) kt v) 5 sl) (jrO P (t1 + 1998) ((T + 1998) + 48)) pi ow en, nat_lit 19, [(nat_lit 0, B + 1488)], T + 1998, nat_lit 55)) [] := by kernel_rfl
end M9
end
section
open PySem PySem.W PySem.Calls PyProof.Rows PySem.Spec
namespace M9
section
variable {M : Model} {E₁ : DL} {os : OsState} {dr : Drawn} {L : Heap → Prop} {R : Result → Shared → Prop} {h₀ : Heap} {F : List Ans → Out}
theorem WinR.needX {l : List Nat} {v : List (Option Obj)} {tg : Nat} {g : PySem.Ctx} {p : Pos} {D : DL} {m : Nat} {bs : List (Nat × Nat)} {tb i : Nat}
    (e1 : vG (F []) = some (tg, g, p, D, m, bs, tb, i)) (eX : vX l (F []) = v) (e2 : vA (F []) = vB (F [])) (V : Ans → Heap → Prop)
    (q : ∀ s X, (l.map fun a => X.get a) = v → Rep h₀ E₁ os dr ⟨D, X, m, bs, tb, i⟩ s → wpCode M g (fun r s' => ∃ a h₁, a.res = r ∧ V a h₁ ∧ Rep h₁ E₁ os dr (a.up ⟨D, X, m, bs, tb, i⟩) s') p s)
    (l' : ∀ a h₁, V a h₁ → L h₁) (y : ∀ a h₁, V a h₁ → WinR M E₁ os dr L R h₁ fun as => F (a :: as)) : WinR M E₁ os dr L R h₀ F := by
  generalize hO : F [] = out at e1 e2 eX
  cases out with
  | need tg' c g' p' h b =>
    obtain ⟨D', X', m', bs', tb', i'⟩ := h
    cases e1
    exact .need hO ⟨congrArg Prod.fst e2, congrArg Prod.snd e2⟩ V (fun s D => q s X' eX D) l' y
  | _ => cases e1
end
noncomputable def tabs5 : List Nat := [1292, 1299, 1306, 1313, 1332]
structure EndR (s s' : Shared) : Prop where
  keep : ∀ a o, a ∉ keysD → a ≠ 1332 → a ≠ 1487 → s.heap.get? a = some o → s'.heap.get? a = some o
  os : s'.os = s.os
  dr : s'.drawn = s.drawn
  gens : s'.gens = #[]
  tabs : ∀ a, a ∈ tabs5 → ∃ l, s'.heap.get? a = some (nO l)
theorem key_1332 : 1332 ∉ keysD := by decide
theorem wsD_1332 (σ : WS) (P : Params) (t1 : Nat) (sm : Int) : lookD (σ.D P t1 sm) 1332 = none := lookD_dl.mpr key_1332
theorem lookW_1332 {P : Params} {t1 : Nat} {its c : Array Value} {a : Nat} {o : Obj} (h : lookW P t1 its c a = some o) : a ≠ 1332 := by
  rintro rfl
  exact absurd (show (none : Option Obj) = some o from h) (by simp)
theorem lookD_tab {it : Obj} {D : DL} {a : Nat} (h : a ≠ 1332) : lookD ((nat_lit 1332, it) :: D) a = lookD D a := by
  rw [lookD_cons, if_neg (Ne.symm h)]
theorem Tb.tabs {T0 T1 T2 T3 : Obj} {x0 x1 x2 x3 x4 x5 : Nat × Obj} (h : Tb T0 T1 T2 T3 x0 x1 x2 x3 x4 x5) : (∃ l, T0 = nO l) ∧ (∃ l, T1 = nO l) ∧ (∃ l, T2 = nO l) ∧ ∃ l, T3 = nO l := by
  refine ⟨?_, ?_, ?_, ?_⟩
  · rcases h.ca with h | ⟨cb, ct, h, _⟩ <;> exact ⟨_, h⟩
  · rcases h.wr with h | ⟨cb, ct, h, _⟩ <;> exact ⟨_, h⟩
  · rcases h.en with h | ⟨cb, ct, h, _⟩ <;> exact ⟨_, h⟩
  · rcases h.sb with h | ⟨cb, ct, h, _⟩ <;> exact ⟨_, h⟩
section
variable {w : World} {t0 t1 : Nat} {its c : Array Value} {sm : Int}
theorem ret_core {σ : WS} {s : Shared} {p : Pos} {R : Result → Shared → Prop} (I : Inv w t1 its c sm σ s) (h32 : s.heap.get? 1332 = some (nO [])) {o : Params → Out} {ft : Nat} {jt' m i : Nat} {x : Params → Option (Result × DL × Nat × List (Nat × Nat) × Nat × Nat)}
    (e : FinE w o [] x []) (ho : (bS w.params (t1 + 1998) its c (nat_lit 1000) p (dr 3 lawB) oR ((nat_lit 1332, nO []) :: σ.D w.params t1 sm) s.heap.objs.size s.toks []) = o w.params)
    (hx : x w.params = some (.ok (.ret (.bool true)), (nat_lit 1332, tab_la ft) :: (⟨σ.k, σ.tk, σ.T0, σ.T1, σ.T2, σ.T3, σ.es, σ.n, σ.sl, jt', σ.er, σ.ew, σ.x0, σ.x1, σ.x2, σ.x3, σ.x4, σ.x5⟩ : WS).D w.params t1 sm, m, [(nat_lit 0, s.heap.objs.size)], s.toks, i))
    (hR : ∀ s', EndR s s' → R (.ok (.ret (.bool true))) s') : Conf (model M9.tw w) R ΓL [.seq (dr 3 lawB) envL, .fn envL] (.pure (.done .next)) p s := by
  have q1 : vFin (o w.params) = x w.params := congrArg Prod.fst e
  have q2 : vA (o w.params) = vB (o w.params) := congrArg (fun z => z.2.2) e
  rw [hx, ← ho] at q1
  rw [← ho] at q2
  have hD : ∀ a o, lookD ((nat_lit 1332, nO []) :: σ.D w.params t1 sm) a = some o → s.heap.get? a = some o := by
    intro a o h
    by_cases q : a = 1332
    · subst q; cases h; exact h32
    · exact I.D a o ((lookD_tab q).symm.trans h)
  have W : Win (model M9.tw w) s.heap [] s.os s.drawn R (om (cfE w.params (lookW w.params (t1 + 1998) its c) [] dkW) (nat_lit 1000) ⟨ΓL, p, [], [.seq (dr 3 lawB) envL, .fn envL], .pure (.done .next), ⟨(nat_lit 1332, nO []) :: σ.D w.params t1 sm, .nil, nat_lit 0, [(nat_lit 0, s.heap.objs.size)], s.toks, nat_lit 0⟩, ⟨oR, [], [], [], []⟩⟩) := by
    refine Win.fin' q1 q2 fun s' Z => hR s' ?_
    have kp : ∀ a o, a ∉ keysD → a ≠ 1332 → s.heap.get? a = some o → s'.heap.get? a = some o := fun a o h1 h2 h3 => Z.keep a o h3 ((lookD_tab h2).trans (lookD_dl.mpr h1))
    obtain ⟨⟨l0, g0⟩, ⟨l1, g1⟩, ⟨l2, g2⟩, ⟨l3, g3⟩⟩ := I.tb.tabs
    refine ⟨fun a o h1 h2 _ h4 => kp a o h1 h2 h4, Z.os, Z.dr, Z.gens, fun a ha => ?_⟩
    have z := fun a o h => (Z.D a o h).1
    simp only [tabs5, List.mem_cons, List.not_mem_nil, or_false] at ha
    rcases ha with rfl | rfl | rfl | rfl | rfl
    · exact ⟨l0, g0 ▸ z 1292 σ.T0 rfl⟩
    · exact ⟨l1, g1 ▸ z 1299 σ.T1 rfl⟩
    · exact ⟨l2, g2 ▸ z 1306 σ.T2 rfl⟩
    · exact ⟨l3, g3 ▸ z 1313 σ.T3 rfl⟩
    · exact ⟨_, z 1332 _ rfl⟩
  exact (om_sound (cf_ok w _ [] _) isItF_ok I.st (fun d x v h => dk_ok (t1 := t1 + 1998) (I.st 1473 _ rfl) d x v h) _ _ W).2 s (Rep.start _ hD I.gens fun x hx => absurd hx List.not_mem_nil)
theorem ret_conf {σ : WS} {s : Shared} {p : Pos} {R : Result → Shared → Prop} (I : Inv w t1 its c sm σ s) (hf : FrOk w t0 t1 σ) (h32 : s.heap.get? 1332 = some (nO []))
    (hR : ∀ s', EndR s s' → R (.ok (.ret (.bool true))) s') : Conf (model M9.tw w) R ΓL [.seq (dr 3 lawB) envL, .fn envL] (.pure (.done .next)) p s := by
  obtain ⟨B, hB⟩ : ∃ B, s.heap.objs.size = B + 1488 := ⟨s.heap.objs.size - 1488, by have := I.sz; omega⟩
  obtain ⟨T, hT⟩ : ∃ T, s.toks = T + 1998 := ⟨s.toks - 1998, by have := I.tk; omega⟩
  obtain ⟨k, tk, T0, T1, T2, T3, es, nn, sl, jt, er, ew, x0, x1, x2, x3, x4, x5⟩ := σ
  rcases hf with ⟨hes, hn⟩ | ⟨kt, v, hes, hn⟩
  · dsimp only at hes hn
    subst hes hn
    have e := rr0 w t1 its c t0 sl (boxO (t1 + 1998) sm k tk) T0 T1 T2 T3 (pipO (t1 + 1998) (er || ew)) (ownO w.params (t1 + 1998) er ew) (endO er ew) jt B T p
    rw [← hB, ← hT] at e
    exact ret_core I h32 e rfl rfl hR
  · dsimp only at hes hn
    subst hes hn
    have e := rr1 w t1 its c t0 kt v sl (boxO (t1 + 1998) sm k tk) T0 T1 T2 T3 (pipO (t1 + 1998) (er || ew)) (ownO w.params (t1 + 1998) er ew) (endO er ew) jt B T p
    rw [← hB, ← hT] at e
    exact ret_core I h32 e rfl rfl hR
end
end M9
end
section
open PySem PySem.W PySem.Calls PyProof.Rows PySem.Spec
namespace M9
noncomputable def WS.first (P : Params) (t0 t1 : Nat) (its : Array Value) (k : Int) (tk : Nat) : WS := ⟨k, tk, nO [], nO [], nO [], nO [], frE P (t0 + 1998) (t1 + 1998), 4, ⟨[]⟩, (t1 + 1998) + 99, true, true, (1338, lst its), (1338, lst its), (1338, lst its), (1338, lst its), (1338, lst its), (1338, lst its)⟩
structure Pre (w : World) (t0 t1 : Nat) (its c : Array Value) (sm : Int) (tk : Nat) (s : Shared) : Prop where
  st : ∀ a o, lookW w.params (t1 + 1998) its c a = some o → s.heap.get? a = some o
  D : ∀ a o, lookD ((WS.first w.params t0 t1 its 0 tk).D w.params t1 sm) a = some o → s.heap.get? a = some o
  size : s.heap.objs.size = 1485
  tk : 1998 ≤ s.toks
  gens : s.gens = #[]
  t32 : s.heap.get? 1332 = some (nO [])
section
variable {w : World} {t0 t1 : Nat} {its c : Array Value} {sm : Int} {tk : Nat} {s : Shared} {R : Result → Shared → Prop}
theorem tail_win (hc : Cells c) (P : Pre w t0 t1 its c sm tk s) (hR : ∀ s', EndR s s' → R (.ok (.ret (.bool true))) s') {way tk' tb' : Nat} (hw : way ≤ 10) {F : List Ans → Out}
    (e3 : vG (F []) = some (nat_lit 3, ΓF, pF, (WS.first w.params t0 t1 its (0 + 1) tk').D w.params t1 sm, nat_lit 2, [(nat_lit 0, nat_lit 1486), (nat_lit 0, nat_lit 1485)], tb' + 1998, nat_lit 3))
    (eX : vX [nat_lit 1] (F []) = [some (itO 0 (Int.ofNat (way + 2)))]) (a3 : vA (F []) = vB (F []))
    (e4 : ∀ D2 B2 tb2, vStop (F [aLp D2 B2 tb2]) = some (ΓL, pF, [], [.seq (dr 3 lawB) envL, .fn envL], .pure (.done .next), D2, nat_lit 0, [(nat_lit 0, B2)], tb2, nat_lit 0) ∧ vA (F [aLp D2 B2 tb2]) = vB (F [aLp D2 B2 tb2])) :
    WinR (model M9.tw w) [] s.os s.drawn (Lw w t1 its c) R s.heap F := by
  refine WinR.needX e3 eX a3 (fun a h₁ => ∃ (σ : WS) (s3 : Shared), a = aLp (σ.D w.params t1 sm) s3.heap.objs.size s3.toks ∧ h₁ = s3.heap ∧ Inv w t1 its c sm σ s3 ∧ FrOk w t0 t1 σ ∧ NxL s s3) (fun s2 X hX Z => ?_) ?_ ?_
  · have kp : ∀ a o, a ∉ keysD → s.heap.get? a = some o → s2.heap.get? a = some o := fun a o h1 h2 => Z.keep a o h2 (lookD_dl.mpr h1)
    have k8 : 1338 ∉ keysD := by decide
    have d : At s2.heap (1338, lst its) := ⟨kp _ _ k8 (P.st 1338 (lst its) rfl), k8, (by decide : (1338 : Nat) ≠ 1487)⟩
    have hsz : s2.heap.objs.size = 1488 := Z.size
    have htk : s2.toks = (tb' + 1998) + 3 := Z.toks
    have I : Inv w t1 its c sm (WS.first w.params t0 t1 its (0 + 1) tk') s2 := ⟨fun a o h => kp a o (lookW_keys h) (P.st a o h), by omega, by omega, Z.gens, fun a o h => (Z.D a o h).1, d, d, d, d, d, d, ⟨.inl rfl, .inl rfl, .inl rfl, .inl rfl⟩, by show (0 : Int) ≤ 0 + 1; decide⟩
    have hit : s2.heap.get? 1487 = some (itO 0 (Int.ofNat (way + 2))) := (Z.own 1 _ (List.cons.inj hX).1).2
    have N2 : NxL s s2 := ⟨fun a o h1 _ h3 => kp a o h1 h3, by rw [hsz, P.size]; decide, Z.os, Z.dr⟩
    refine wpCode_mono (loop_wp (t0 := t0) hc (way + 2) 0 _ s2 pF I (.inl ⟨rfl, rfl⟩) hit (by show (0 : Int) + 1 + 3 * _ < _; omega)) fun r s3 h => ?_
    obtain ⟨rfl, σ, J, f, N⟩ := h
    exact ⟨_, s3.heap, rfl, ⟨σ, s3, rfl, rfl, J, f, N2.trans N⟩, by
      have q := Rep.start _ J.D J.gens (E := []) fun x hx => absurd hx List.not_mem_nil
      rw [(N2.trans N).os, (N2.trans N).dr] at q
      exact q⟩
  · rintro _ _ ⟨σ, s3, rfl, rfl, J, -⟩
    exact ⟨J.st⟩
  rintro _ _ ⟨σ, s3, rfl, rfl, J, f, N⟩
  refine WinR.stopV (e4 _ _ _).1 (e4 _ _ _).2 fun s4 X Z => ?_
  have kp : ∀ a o, a ∉ keysD → s3.heap.get? a = some o → s4.heap.get? a = some o := fun a o h1 h2 => Z.keep a o h2 (lookD_dl.mpr h1)
  have cell : ∀ y, At s3.heap y → At s4.heap y := fun y h => ⟨kp _ _ h.2.1 h.1, h.2⟩
  have hsz : s3.heap.objs.size ≤ s4.heap.objs.size := by
    have a1 := Z.low 0 (Nat.le_refl 0)
    have a2 := Z.size
    exact Nat.le_trans a1 (Nat.le_of_eq a2.symm)
  have J4 : Inv w t1 its c sm σ s4 := ⟨fun a o h => kp a o (lookW_keys h) (J.st a o h), Nat.le_trans J.sz hsz, by have h1 : s4.toks = s3.toks + 0 := Z.toks; have := J.tk; omega, Z.gens, fun a o h => (Z.D a o h).1, cell _ J.e0, cell _ J.e1, cell _ J.e2, cell _ J.e3, cell _ J.e4, cell _ J.e5, J.tb, J.k0⟩
  have t32 : s4.heap.get? 1332 = some (nO []) := kp _ _ key_1332 (N.keep _ _ key_1332 (by decide) P.t32)
  refine ret_conf J4 f t32 fun s' Q => hR s' ?_
  exact ⟨fun a o h1 h2 h3 h4 => Q.keep a o h1 h2 h3 (kp a o h1 (N.keep a o h1 h3 h4)), Q.os.trans Z.os, Q.dr.trans Z.dr, Q.gens, Q.tabs⟩
theorem lawB_conf (hc : Cells c) (P : Pre w t0 t1 its c sm tk s) (hR : ∀ s', EndR s s' → R (.ok (.ret (.bool true))) s') : Conf (model M9.tw w) R ΓL [.seq (dr 2 lawB) envL, .fn envL] (.pure (.done .next)) pB s := by
  obtain ⟨T, hT⟩ : ∃ T, s.toks = T + 1998 := ⟨s.toks - 1998, by have := P.tk; omega⟩
  have D0 : Rep s.heap [] s.os s.drawn ⟨(WS.first w.params t0 t1 its 0 tk).D w.params t1 sm, .nil, nat_lit 0, [(nat_lit 0, nat_lit 1485)], T + 1998, nat_lit 0⟩ s := by
    have q := Rep.start _ P.D P.gens (E := []) fun x hx => absurd hx List.not_mem_nil
    rw [P.size, hT] at q
    exact q
  refine (om_soundR (L := Lw w t1 its c) (C := cfE w.params (lookW w.params (t1 + 1998) its c) [] dkW) (cf_ok w _ [] _) isItF_ok (fun h L => L.st) (fun h L => L.dk) (nat_lit 120) ⟨ΓL, pB, [], [.seq (dr 2 lawB) envL, .fn envL], .pure (.done .next), ⟨(WS.first w.params t0 t1 its 0 tk).D w.params t1 sm, .nil, nat_lit 0, [(nat_lit 0, nat_lit 1485)], T + 1998, nat_lit 0⟩, ⟨oB0, [], [], [], []⟩⟩ s.heap ⟨P.st⟩ ?_).2 s D0
  show WinR _ _ _ _ _ _ _ (fun as => bOut w.params (t1 + 1998) its c ((WS.first w.params t0 t1 its 0 tk).D w.params t1 sm) (T + 1998) as)
  have z0 := rb0 w t1 its c t0 ⟨[]⟩ (boxO (t1 + 1998) sm 0 tk) (nO []) (nO []) (nO []) (nO []) (jrO w.params (t1 + 1998) ((t1 + 1998) + 99)) (pipO (t1 + 1998) true) (ownO w.params (t1 + 1998) true true) (endO true true) T
  have z1 := rb1 w t1 its c t0 ⟨[]⟩ (boxO (t1 + 1998) sm 0 tk) (nO []) (nO []) (nO []) (nO []) (jrO w.params (t1 + 1998) ((t1 + 1998) + 99)) (pipO (t1 + 1998) true) (ownO w.params (t1 + 1998) true true) (endO true true) T
  refine WinR.needV (congrArg Prod.fst z0) (congrArg Prod.snd z0) (fun a h₁ => ∃ tL, a = aLenB c.size tL ∧ h₁ = s.heap) (fun s1 X Z => ?_) (by rintro _ _ ⟨_, rfl, rfl⟩; exact ⟨P.st⟩) ?_
  · have isl : s1.heap.IsList 1341 c := ⟨_, Z.keep 1341 (lst c) (P.st 1341 (lst c) rfl) (lookD_dl.mpr (by decide)), rfl, 0, rfl⟩
    refine wpCode_mono (call_code (f := .builtin "len") (vs := [.ref 1341]) (Q := fun v s2 => v = .int c.size (s1.toks + 1) ∧ s2 = { s1 with toks := s1.toks + 1 + 1 }) ⟨rfl, rfl, rfl, rfl, _, _, rfl⟩ fun A _ => call_len_list isl (by have := hc.size; omega) ⟨rfl, rfl⟩) fun r s2 h => ?_
    obtain ⟨v, rfl, rfl, rfl⟩ := h
    exact ⟨aLenB c.size (s1.toks + 1), s.heap, rfl, ⟨_, rfl, rfl⟩, Z.tick.tick⟩
  rintro _ _ ⟨tL, rfl, rfl⟩
  refine WinR.needV (congrArg Prod.fst (z1 c.size tL)) (congrArg Prod.snd (z1 c.size tL)) (fun a h₁ => a = aGtB (decide ((c.size : Int) > 1)) ∧ h₁ = s.heap) (fun s1 X Z => ?_) (by rintro _ _ ⟨rfl, rfl⟩; exact ⟨P.st⟩) ?_
  · refine wpCode_mono (gt_code (x := (c.size : Int)) (y := 1) (t := tL) (u := (T + 1998) + 3) ⟨rfl, rfl, rfl, rfl, _, _, rfl⟩) fun r s2 h => ?_
    obtain ⟨rfl, rfl⟩ := h
    exact ⟨_, s.heap, rfl, ⟨rfl, rfl⟩, Z⟩
  rintro _ _ ⟨rfl, rfl⟩
  cases decide ((c.size : Int) > 1) with
  | true =>
    have z2 := rb2t w t1 its c t0 ⟨[]⟩ (boxO (t1 + 1998) sm 0 tk) (nO []) (nO []) (nO []) (nO []) (jrO w.params (t1 + 1998) ((t1 + 1998) + 99)) (pipO (t1 + 1998) true) (ownO w.params (t1 + 1998) true true) (endO true true) T c.size tL
    refine WinR.needV (congrArg Prod.fst z2) (congrArg Prod.snd z2) (fun a h₁ => ∃ (way : Int) (tw tk' tb' : Nat), a = aTk way tw (boxO (t1 + 1998) sm (0 + 1) tk') (nat_lit 1486) (tb' + 1998) oB3 ∧ h₁ = s.heap ∧ 0 ≤ way ∧ way < 11) (fun s1 X Z => ?_) (by rintro _ _ ⟨_, _, _, _, rfl, rfl, -⟩; exact ⟨P.st⟩) ?_
    · have hks : ∀ a o, lookW w.params (t1 + 1998) its c a = some o → s1.heap.get? a = some o := fun a o h => Z.keep a o (P.st a o h) (lookD_dl.mpr (lookW_keys h))
      refine wpCode_mono (take_wp (tkOk0 w _ _ _) hks (Z.D 1346 (boxO (t1 + 1998) sm 0 tk) lookD_dl_1346).1 Z.gens hc.isInt hc.size (by decide) (by decide) (by decide)) fun r s2 h => ?_
      obtain ⟨mm, tm', rfl, h0, h1, Q⟩ := h
      obtain ⟨tk', hb⟩ := Q.box
      have htk : s1.toks = (T + 1998) + _ := Z.toks
      obtain ⟨tq, htq⟩ : ∃ tq, s2.toks = tq + 1998 := ⟨s2.toks - 1998, by have := Q.toks; omega⟩
      refine ⟨_, s.heap, rfl, ⟨mm, tm', tk', tq, rfl, rfl, h0, h1⟩, ?_⟩
      have z := Z.take Q hb
      rw [htq] at z
      exact z
    rintro _ _ ⟨way, tw0, tk', tb', rfl, rfl, h0, h1⟩
    rcases (by omega : way = 0 ∨ way = 1 ∨ way = 2 ∨ way = 3 ∨ way = 4 ∨ way = 5 ∨ way = 6 ∨ way = 7 ∨ way = 8 ∨ way = 9 ∨ way = 10) with rfl | rfl | rfl | rfl | rfl | rfl | rfl | rfl | rfl | rfl | rfl
    · have z3 := rb3t0 w t1 its c t0 ⟨[]⟩ (boxO (t1 + 1998) sm 0 tk) (nO []) (nO []) (nO []) (nO []) (jrO w.params (t1 + 1998) ((t1 + 1998) + 99)) (pipO (t1 + 1998) true) (ownO w.params (t1 + 1998) true true) (endO true true) T c.size tL tw0 tb' (boxO (t1 + 1998) sm (0 + 1) tk')
      refine tail_win hc P hR (way := 0) (by decide) (congrArg Prod.fst z3) (congrArg (fun z => z.2.1) z3) (congrArg (fun z => z.2.2) z3) fun D2 B2 tb2 => ?_
      have z4 := rb4t0 w t1 its c t0 ⟨[]⟩ (boxO (t1 + 1998) sm 0 tk) (nO []) (nO []) (nO []) (nO []) (jrO w.params (t1 + 1998) ((t1 + 1998) + 99)) (pipO (t1 + 1998) true) (ownO w.params (t1 + 1998) true true) (endO true true) T c.size tL tw0 tb' (boxO (t1 + 1998) sm (0 + 1) tk') D2 B2 tb2
      exact ⟨congrArg Prod.fst z4, congrArg (fun z => z.2.2) z4⟩
    · have z3 := rb3t1 w t1 its c t0 ⟨[]⟩ (boxO (t1 + 1998) sm 0 tk) (nO []) (nO []) (nO []) (nO []) (jrO w.params (t1 + 1998) ((t1 + 1998) + 99)) (pipO (t1 + 1998) true) (ownO w.params (t1 + 1998) true true) (endO true true) T c.size tL tw0 tb' (boxO (t1 + 1998) sm (0 + 1) tk')
      refine tail_win hc P hR (way := 1) (by decide) (congrArg Prod.fst z3) (congrArg (fun z => z.2.1) z3) (congrArg (fun z => z.2.2) z3) fun D2 B2 tb2 => ?_
      have z4 := rb4t1 w t1 its c t0 ⟨[]⟩ (boxO (t1 + 1998) sm 0 tk) (nO []) (nO []) (nO []) (nO []) (jrO w.params (t1 + 1998) ((t1 + 1998) + 99)) (pipO (t1 + 1998) true) (ownO w.params (t1 + 1998) true true) (endO true true) T c.size tL tw0 tb' (boxO (t1 + 1998) sm (0 + 1) tk') D2 B2 tb2
      exact ⟨congrArg Prod.fst z4, congrArg (fun z => z.2.2) z4⟩
    · have z3 := rb3t2 w t1 its c t0 ⟨[]⟩ (boxO (t1 + 1998) sm 0 tk) (nO []) (nO []) (nO []) (nO []) (jrO w.params (t1 + 1998) ((t1 + 1998) + 99)) (pipO (t1 + 1998) true) (ownO w.params (t1 + 1998) true true) (endO true true) T c.size tL tw0 tb' (boxO (t1 + 1998) sm (0 + 1) tk')
      refine tail_win hc P hR (way := 2) (by decide) (congrArg Prod.fst z3) (congrArg (fun z => z.2.1) z3) (congrArg (fun z => z.2.2) z3) fun D2 B2 tb2 => ?_
      have z4 := rb4t2 w t1 its c t0 ⟨[]⟩ (boxO (t1 + 1998) sm 0 tk) (nO []) (nO []) (nO []) (nO []) (jrO w.params (t1 + 1998) ((t1 + 1998) + 99)) (pipO (t1 + 1998) true) (ownO w.params (t1 + 1998) true true) (endO true true) T c.size tL tw0 tb' (boxO (t1 + 1998) sm (0 + 1) tk') D2 B2 tb2
      exact ⟨congrArg Prod.fst z4, congrArg (fun z => z.2.2) z4⟩
    · have z3 := rb3t3 w t1 its c t0 ⟨[]⟩ (boxO (t1 + 1998) sm 0 tk) (nO []) (nO []) (nO []) (nO []) (jrO w.params (t1 + 1998) ((t1 + 1998) + 99)) (pipO (t1 + 1998) true) (ownO w.params (t1 + 1998) true true) (endO true true) T c.size tL tw0 tb' (boxO (t1 + 1998) sm (0 + 1) tk')
      refine tail_win hc P hR (way := 3) (by decide) (congrArg Prod.fst z3) (congrArg (fun z => z.2.1) z3) (congrArg (fun z => z.2.2) z3) fun D2 B2 tb2 => ?_
      have z4 := rb4t3 w t1 its c t0 ⟨[]⟩ (boxO (t1 + 1998) sm 0 tk) (nO []) (nO []) (nO []) (nO []) (jrO w.params (t1 + 1998) ((t1 + 1998) + 99)) (pipO (t1 + 1998) true) (ownO w.params (t1 + 1998) true true) (endO true true) T c.size tL tw0 tb' (boxO (t1 + 1998) sm (0 + 1) tk') D2 B2 tb2
      exact ⟨congrArg Prod.fst z4, congrArg (fun z => z.2.2) z4⟩
    · have z3 := rb3t4 w t1 its c t0 ⟨[]⟩ (boxO (t1 + 1998) sm 0 tk) (nO []) (nO []) (nO []) (nO []) (jrO w.params (t1 + 1998) ((t1 + 1998) + 99)) (pipO (t1 + 1998) true) (ownO w.params (t1 + 1998) true true) (endO true true) T c.size tL tw0 tb' (boxO (t1 + 1998) sm (0 + 1) tk')
      refine tail_win hc P hR (way := 4) (by decide) (congrArg Prod.fst z3) (congrArg (fun z => z.2.1) z3) (congrArg (fun z => z.2.2) z3) fun D2 B2 tb2 => ?_
      have z4 := rb4t4 w t1 its c t0 ⟨[]⟩ (boxO (t1 + 1998) sm 0 tk) (nO []) (nO []) (nO []) (nO []) (jrO w.params (t1 + 1998) ((t1 + 1998) + 99)) (pipO (t1 + 1998) true) (ownO w.params (t1 + 1998) true true) (endO true true) T c.size tL tw0 tb' (boxO (t1 + 1998) sm (0 + 1) tk') D2 B2 tb2
      exact ⟨congrArg Prod.fst z4, congrArg (fun z => z.2.2) z4⟩
    · have z3 := rb3t5 w t1 its c t0 ⟨[]⟩ (boxO (t1 + 1998) sm 0 tk) (nO []) (nO []) (nO []) (nO []) (jrO w.params (t1 + 1998) ((t1 + 1998) + 99)) (pipO (t1 + 1998) true) (ownO w.params (t1 + 1998) true true) (endO true true) T c.size tL tw0 tb' (boxO (t1 + 1998) sm (0 + 1) tk')
      refine tail_win hc P hR (way := 5) (by decide) (congrArg Prod.fst z3) (congrArg (fun z => z.2.1) z3) (congrArg (fun z => z.2.2) z3) fun D2 B2 tb2 => ?_
      have z4 := rb4t5 w t1 its c t0 ⟨[]⟩ (boxO (t1 + 1998) sm 0 tk) (nO []) (nO []) (nO []) (nO []) (jrO w.params (t1 + 1998) ((t1 + 1998) + 99)) (pipO (t1 + 1998) true) (ownO w.params (t1 + 1998) true true) (endO true true) T c.size tL tw0 tb' (boxO (t1 + 1998) sm (0 + 1) tk') D2 B2 tb2
      exact ⟨congrArg Prod.fst z4, congrArg (fun z => z.2.2) z4⟩
    · have z3 := rb3t6 w t1 its c t0 ⟨[]⟩ (boxO (t1 + 1998) sm 0 tk) (nO []) (nO []) (nO []) (nO []) (jrO w.params (t1 + 1998) ((t1 + 1998) + 99)) (pipO (t1 + 1998) true) (ownO w.params (t1 + 1998) true true) (endO true true) T c.size tL tw0 tb' (boxO (t1 + 1998) sm (0 + 1) tk')
      refine tail_win hc P hR (way := 6) (by decide) (congrArg Prod.fst z3) (congrArg (fun z => z.2.1) z3) (congrArg (fun z => z.2.2) z3) fun D2 B2 tb2 => ?_
      have z4 := rb4t6 w t1 its c t0 ⟨[]⟩ (boxO (t1 + 1998) sm 0 tk) (nO []) (nO []) (nO []) (nO []) (jrO w.params (t1 + 1998) ((t1 + 1998) + 99)) (pipO (t1 + 1998) true) (ownO w.params (t1 + 1998) true true) (endO true true) T c.size tL tw0 tb' (boxO (t1 + 1998) sm (0 + 1) tk') D2 B2 tb2
      exact ⟨congrArg Prod.fst z4, congrArg (fun z => z.2.2) z4⟩
    · have z3 := rb3t7 w t1 its c t0 ⟨[]⟩ (boxO (t1 + 1998) sm 0 tk) (nO []) (nO []) (nO []) (nO []) (jrO w.params (t1 + 1998) ((t1 + 1998) + 99)) (pipO (t1 + 1998) true) (ownO w.params (t1 + 1998) true true) (endO true true) T c.size tL tw0 tb' (boxO (t1 + 1998) sm (0 + 1) tk')
      refine tail_win hc P hR (way := 7) (by decide) (congrArg Prod.fst z3) (congrArg (fun z => z.2.1) z3) (congrArg (fun z => z.2.2) z3) fun D2 B2 tb2 => ?_
      have z4 := rb4t7 w t1 its c t0 ⟨[]⟩ (boxO (t1 + 1998) sm 0 tk) (nO []) (nO []) (nO []) (nO []) (jrO w.params (t1 + 1998) ((t1 + 1998) + 99)) (pipO (t1 + 1998) true) (ownO w.params (t1 + 1998) true true) (endO true true) T c.size tL tw0 tb' (boxO (t1 + 1998) sm (0 + 1) tk') D2 B2 tb2
      exact ⟨congrArg Prod.fst z4, congrArg (fun z => z.2.2) z4⟩
    · have z3 := rb3t8 w t1 its c t0 ⟨[]⟩ (boxO (t1 + 1998) sm 0 tk) (nO []) (nO []) (nO []) (nO []) (jrO w.params (t1 + 1998) ((t1 + 1998) + 99)) (pipO (t1 + 1998) true) (ownO w.params (t1 + 1998) true true) (endO true true) T c.size tL tw0 tb' (boxO (t1 + 1998) sm (0 + 1) tk')
      refine tail_win hc P hR (way := 8) (by decide) (congrArg Prod.fst z3) (congrArg (fun z => z.2.1) z3) (congrArg (fun z => z.2.2) z3) fun D2 B2 tb2 => ?_
      have z4 := rb4t8 w t1 its c t0 ⟨[]⟩ (boxO (t1 + 1998) sm 0 tk) (nO []) (nO []) (nO []) (nO []) (jrO w.params (t1 + 1998) ((t1 + 1998) + 99)) (pipO (t1 + 1998) true) (ownO w.params (t1 + 1998) true true) (endO true true) T c.size tL tw0 tb' (boxO (t1 + 1998) sm (0 + 1) tk') D2 B2 tb2
      exact ⟨congrArg Prod.fst z4, congrArg (fun z => z.2.2) z4⟩
    · have z3 := rb3t9 w t1 its c t0 ⟨[]⟩ (boxO (t1 + 1998) sm 0 tk) (nO []) (nO []) (nO []) (nO []) (jrO w.params (t1 + 1998) ((t1 + 1998) + 99)) (pipO (t1 + 1998) true) (ownO w.params (t1 + 1998) true true) (endO true true) T c.size tL tw0 tb' (boxO (t1 + 1998) sm (0 + 1) tk')
      refine tail_win hc P hR (way := 9) (by decide) (congrArg Prod.fst z3) (congrArg (fun z => z.2.1) z3) (congrArg (fun z => z.2.2) z3) fun D2 B2 tb2 => ?_
      have z4 := rb4t9 w t1 its c t0 ⟨[]⟩ (boxO (t1 + 1998) sm 0 tk) (nO []) (nO []) (nO []) (nO []) (jrO w.params (t1 + 1998) ((t1 + 1998) + 99)) (pipO (t1 + 1998) true) (ownO w.params (t1 + 1998) true true) (endO true true) T c.size tL tw0 tb' (boxO (t1 + 1998) sm (0 + 1) tk') D2 B2 tb2
      exact ⟨congrArg Prod.fst z4, congrArg (fun z => z.2.2) z4⟩
    · have z3 := rb3t10 w t1 its c t0 ⟨[]⟩ (boxO (t1 + 1998) sm 0 tk) (nO []) (nO []) (nO []) (nO []) (jrO w.params (t1 + 1998) ((t1 + 1998) + 99)) (pipO (t1 + 1998) true) (ownO w.params (t1 + 1998) true true) (endO true true) T c.size tL tw0 tb' (boxO (t1 + 1998) sm (0 + 1) tk')
      refine tail_win hc P hR (way := 10) (by decide) (congrArg Prod.fst z3) (congrArg (fun z => z.2.1) z3) (congrArg (fun z => z.2.2) z3) fun D2 B2 tb2 => ?_
      have z4 := rb4t10 w t1 its c t0 ⟨[]⟩ (boxO (t1 + 1998) sm 0 tk) (nO []) (nO []) (nO []) (nO []) (jrO w.params (t1 + 1998) ((t1 + 1998) + 99)) (pipO (t1 + 1998) true) (ownO w.params (t1 + 1998) true true) (endO true true) T c.size tL tw0 tb' (boxO (t1 + 1998) sm (0 + 1) tk') D2 B2 tb2
      exact ⟨congrArg Prod.fst z4, congrArg (fun z => z.2.2) z4⟩
  | false =>
    have z2 := rb2f w t1 its c t0 ⟨[]⟩ (boxO (t1 + 1998) sm 0 tk) (nO []) (nO []) (nO []) (nO []) (jrO w.params (t1 + 1998) ((t1 + 1998) + 99)) (pipO (t1 + 1998) true) (ownO w.params (t1 + 1998) true true) (endO true true) T c.size tL
    refine WinR.needV (congrArg Prod.fst z2) (congrArg Prod.snd z2) (fun a h₁ => ∃ (way : Int) (tw tk' tb' : Nat), a = aTk way tw (boxO (t1 + 1998) sm (0 + 1) tk') (nat_lit 1486) (tb' + 1998) oB3 ∧ h₁ = s.heap ∧ 0 ≤ way ∧ way < 3) (fun s1 X Z => ?_) (by rintro _ _ ⟨_, _, _, _, rfl, rfl, -⟩; exact ⟨P.st⟩) ?_
    · have hks : ∀ a o, lookW w.params (t1 + 1998) its c a = some o → s1.heap.get? a = some o := fun a o h => Z.keep a o (P.st a o h) (lookD_dl.mpr (lookW_keys h))
      refine wpCode_mono (take_wp (tkOk0 w _ _ _) hks (Z.D 1346 (boxO (t1 + 1998) sm 0 tk) lookD_dl_1346).1 Z.gens hc.isInt hc.size (by decide) (by decide) (by decide)) fun r s2 h => ?_
      obtain ⟨mm, tm', rfl, h0, h1, Q⟩ := h
      obtain ⟨tk', hb⟩ := Q.box
      have htk : s1.toks = (T + 1998) + _ := Z.toks
      obtain ⟨tq, htq⟩ : ∃ tq, s2.toks = tq + 1998 := ⟨s2.toks - 1998, by have := Q.toks; omega⟩
      refine ⟨_, s.heap, rfl, ⟨mm, tm', tk', tq, rfl, rfl, h0, h1⟩, ?_⟩
      have z := Z.take Q hb
      rw [htq] at z
      exact z
    rintro _ _ ⟨way, tw0, tk', tb', rfl, rfl, h0, h1⟩
    rcases (by omega : way = 0 ∨ way = 1 ∨ way = 2) with rfl | rfl | rfl
    · have z3 := rb3f0 w t1 its c t0 ⟨[]⟩ (boxO (t1 + 1998) sm 0 tk) (nO []) (nO []) (nO []) (nO []) (jrO w.params (t1 + 1998) ((t1 + 1998) + 99)) (pipO (t1 + 1998) true) (ownO w.params (t1 + 1998) true true) (endO true true) T c.size tL tw0 tb' (boxO (t1 + 1998) sm (0 + 1) tk')
      refine tail_win hc P hR (way := 0) (by decide) (congrArg Prod.fst z3) (congrArg (fun z => z.2.1) z3) (congrArg (fun z => z.2.2) z3) fun D2 B2 tb2 => ?_
      have z4 := rb4f0 w t1 its c t0 ⟨[]⟩ (boxO (t1 + 1998) sm 0 tk) (nO []) (nO []) (nO []) (nO []) (jrO w.params (t1 + 1998) ((t1 + 1998) + 99)) (pipO (t1 + 1998) true) (ownO w.params (t1 + 1998) true true) (endO true true) T c.size tL tw0 tb' (boxO (t1 + 1998) sm (0 + 1) tk') D2 B2 tb2
      exact ⟨congrArg Prod.fst z4, congrArg (fun z => z.2.2) z4⟩
    · have z3 := rb3f1 w t1 its c t0 ⟨[]⟩ (boxO (t1 + 1998) sm 0 tk) (nO []) (nO []) (nO []) (nO []) (jrO w.params (t1 + 1998) ((t1 + 1998) + 99)) (pipO (t1 + 1998) true) (ownO w.params (t1 + 1998) true true) (endO true true) T c.size tL tw0 tb' (boxO (t1 + 1998) sm (0 + 1) tk')
      refine tail_win hc P hR (way := 1) (by decide) (congrArg Prod.fst z3) (congrArg (fun z => z.2.1) z3) (congrArg (fun z => z.2.2) z3) fun D2 B2 tb2 => ?_
      have z4 := rb4f1 w t1 its c t0 ⟨[]⟩ (boxO (t1 + 1998) sm 0 tk) (nO []) (nO []) (nO []) (nO []) (jrO w.params (t1 + 1998) ((t1 + 1998) + 99)) (pipO (t1 + 1998) true) (ownO w.params (t1 + 1998) true true) (endO true true) T c.size tL tw0 tb' (boxO (t1 + 1998) sm (0 + 1) tk') D2 B2 tb2
      exact ⟨congrArg Prod.fst z4, congrArg (fun z => z.2.2) z4⟩
    · have z3 := rb3f2 w t1 its c t0 ⟨[]⟩ (boxO (t1 + 1998) sm 0 tk) (nO []) (nO []) (nO []) (nO []) (jrO w.params (t1 + 1998) ((t1 + 1998) + 99)) (pipO (t1 + 1998) true) (ownO w.params (t1 + 1998) true true) (endO true true) T c.size tL tw0 tb' (boxO (t1 + 1998) sm (0 + 1) tk')
      refine tail_win hc P hR (way := 2) (by decide) (congrArg Prod.fst z3) (congrArg (fun z => z.2.1) z3) (congrArg (fun z => z.2.2) z3) fun D2 B2 tb2 => ?_
      have z4 := rb4f2 w t1 its c t0 ⟨[]⟩ (boxO (t1 + 1998) sm 0 tk) (nO []) (nO []) (nO []) (nO []) (jrO w.params (t1 + 1998) ((t1 + 1998) + 99)) (pipO (t1 + 1998) true) (ownO w.params (t1 + 1998) true true) (endO true true) T c.size tL tw0 tb' (boxO (t1 + 1998) sm (0 + 1) tk') D2 B2 tb2
      exact ⟨congrArg Prod.fst z4, congrArg (fun z => z.2.2) z4⟩
end
end M9
end
section
open PySem PySem.W PySem.Calls PyProof.Rows PySem.Spec
namespace M9
section
variable {prog : Program} {w : World} {A : Around} {E : Value → Shared → Prop} {s : Shared}
theorem next_end {it l : Addr} {i : Nat} {items : Array Value} {Q : Option Value → Shared → Prop} (hh : A.handled = none)
    (hit : s.heap.IsListIter it l i) (hl : s.heap.IsList l items) (hx : items[i]? = none)
    (hQ : ∀ h', (∀ b o, b ≠ it → s.heap.get? b = some o → h'.get? b = some o) → h'.objs.size = s.heap.objs.size + 2 → Q none { s with heap := h' }) : wpAny (model prog w) A (pyNext (.ref it)) Q E s := by
  obtain ⟨o, ho, hc, hd⟩ := id hit
  obtain ⟨ol, hol, _, nl, hdl⟩ := hl
  unfold pyNext
  refine wpAny_bind (wpAny_attempt (wpAny_callSpecial?_slot (name := Str.ofString "__next__") hit.typeIs slot_listiter_next
    (wpAny_call_entry slot_listiter_next hit.typeIs entry_listiter_next ?_ (args_listiter_next _))))
  show wpAny _ _ (field (.ref it) 0 >>= _) _ _ s
  refine wpAny_bind (wpAny_field ho hd (x := .ref l) rfl ?_)
  show wpAny _ _ (if (Value.ref l == Value.none) = true then _ else _) _ _ s
  rw [if_neg (show ¬ ((Value.ref l == Value.none) = true) from Bool.false_ne_true)]
  show wpAny _ _ (field (.ref it) 1 >>= _) _ _ s
  refine wpAny_bind (wpAny_field ho hd (x := .int i 0) rfl ?_)
  show wpAny _ _ (seqItems? (.ref l) >>= _) _ _ s
  refine wpAny_bind (wpAny_seqItems hol hdl ?_)
  simp only [Int.toNat_natCast, hx]
  refine wpAny_bind (wpAny_rule (wpAny_bind (wpAny_setField ho hd (by simp) ?_)))
  show wpAny _ _ (newExc (.type "StopIteration") [] >>= _) _ _ _
  refine wpAny_bind ?_
  simp only [newExc, newTuple]
  refine wpAny_bind (wpAny_newObj_type ?_ (by size_fits))
  refine wpAny_bind (m := firstArgMember _ _) (wpAny_of_eq (a := Value.none) (by first | rfl | (simp only [firstArgMember]; rfl)) ?_)
  refine wpAny_newObj_type ?_ (by size_fits)
  simp only [raiseNew]
  refine wpAny_bind (wpAny_handled ?_)
  rw [show A.in1.handled = none from hh]
  refine wpAny_bind (wpAny_pure (wpAny_throw ?_))
  refine wpAny_bind (wpAny_isInstance (T := "StopIteration") (b := true) ⟨_, Heap.get?_push_size _ rfl, rfl⟩ isSubtype_stop ?_)
  refine wpAny_pure (hQ _ (fun b o' hb e => ?_) ?_)
  · exact Heap.get?_push_of_some _ (Heap.get?_push_of_some _ ((Heap.get?_update_other _ _ (Ne.symm hb)).trans e))
  · rw [Heap.size_push, Heap.size_push]
    have z : ∀ f, (s.heap.update it f).objs.size = s.heap.objs.size := fun f => (Heap.SameBut.update (h := s.heap) (a := it) (f := f)).1
    first | rw [z] | (simp only [z])
structure SumEnd (I S : Addr) (s s' : Shared) (d : Nat) : Prop where
  keep : ∀ b o, b ≠ I → b ≠ S → s.heap.get? b = some o → s'.heap.get? b = some o
  size : s'.heap.objs.size = s.heap.objs.size + d
  gens : s'.gens = s.gens
  os : s'.os = s.os
  dr : s'.drawn = s.drawn
  toks : s.toks ≤ s'.toks
theorem SumEnd.trans {I S : Addr} {a b c : Shared} {d e : Nat} (h : SumEnd I S a b d) (k : SumEnd I S b c e) : SumEnd I S a c (d + e) :=
  ⟨fun x o h1 h2 h3 => k.keep x o h1 h2 (h.keep x o h1 h2 h3), by rw [k.size, h.size]; omega, k.gens.trans h.gens, k.os.trans h.os, k.dr.trans h.dr, Nat.le_trans h.toks k.toks⟩
theorem sum_turns {R : Result → Shared → Prop} (hh : A.handled = none) {I S l : Addr} {items : Array Value} (hi : ∀ j, j < items.size → ∃ v t, items[j]? = some (.int v t)) (hIS : I ≠ S) (hlI : l ≠ I) (hlS : l ≠ S) :
    ∀ (k i : Nat) (s : Shared) (a : Int) (tA : Tok) (c st : Nat), (st = 0 ∨ st = 2) → items.size - i = k → i ≤ items.size → s.heap.IsListIter I l i → s.heap.IsList l items → s.heap.get? S = some { cls := .type "list", dict := none, data := .seq #[.int a tA] c, slots := #[] } →
    (∀ sm t' s', SumEnd I S s s' 2 → R (.ok (.ret (.int sm t'))) s') →
    codeAny (model prog w) A (.builtin "sum.loop" ⟨[.ref I, .ref S, rawInt st, rawInt 0], []⟩) R s := by
  intro k
  induction k with
  | zero =>
    intro i s a tA c st hst hk hle hit hl hS hR
    have hin : items[i]? = none := Array.getElem?_eq_none (by omega)
    refine codeAny_builtin F.entry_sum_loop ?_
    rw [Around.under_plainId F.plain_sum_loop _]
    show wpAny _ A.in1 (seqItems? (.ref S) >>= _) _ _ s
    refine wpAny_bind (wpAny_seqItems hS rfl ?_)
    show wpAny _ A.in1 (tryCatch (pyNext (.ref I)) _ >>= _) _ _ s
    refine wpAny_bind (wpAny_tryCatch (next_end (A := A.in1) hh hit hl hin fun h' hk' hsz => ?_))
    exact wpAny_pure (hR _ _ _ ⟨fun b o h1 _ h3 => hk' b o h1 h3, hsz, rfl, rfl, rfl, Nat.le_refl _⟩)
  | succ k ih =>
    intro i s a tA c st hst hk hle hit hl hS hR
    have hlt : i < items.size := by omega
    obtain ⟨v, t, hv⟩ := hi i hlt
    refine codeAny_builtin F.entry_sum_loop ?_
    rw [Around.under_plainId F.plain_sum_loop _]
    show wpAny _ A.in1 (seqItems? (.ref S) >>= _) _ _ s
    refine wpAny_bind (wpAny_seqItems hS rfl ?_)
    show wpAny _ A.in1 (tryCatch (pyNext (.ref I)) _ >>= _) _ _ s
    refine wpAny_bind (wpAny_tryCatch (wpAny_pyNext_list_item hit hl hv fun h' hit' hs' => ?_))
    have hS' : h'.get? S = some { cls := .type "list", dict := none, data := .seq #[.int a tA] c, slots := #[] } := (hs'.2 S (Ne.symm hIS)).trans hS
    have hl' : h'.IsList l items := by obtain ⟨ol, h1, h2⟩ := hl; exact ⟨ol, (hs'.2 l hlI).trans h1, h2⟩
    have go : ∀ (st' c' : Nat) (tk t2 : Nat) (h2 : Heap), (st' = 0 ∨ st' = 2) → Heap.SameBut S h' h2 → h2.get? S = some { cls := .type "list", dict := none, data := .seq #[.int (a + v) t2] c', slots := #[] } → s.toks ≤ tk →
        codeAny (model prog w) A (.builtin "sum.loop" ⟨[.ref I, .ref S, rawInt st', rawInt 0], []⟩) R { s with heap := h2, toks := tk } := by
      intro st' c' tk t2 h2 hst' hsb hS2 htk
      refine ih (i + 1) _ (a + v) t2 c' st' hst' (by omega) hlt (by obtain ⟨ol, h1, h2⟩ := hit'; exact ⟨ol, (hsb.2 I hIS).trans h1, h2⟩) (by obtain ⟨ol, h1, h2⟩ := hl'; exact ⟨ol, (hsb.2 l hlS).trans h1, h2⟩) hS2 fun sm t' s' Z => hR sm t' s' ?_
      have z : SumEnd I S s { s with heap := h2, toks := tk } 0 := ⟨fun b o h1 h2 h3 => (hsb.2 b h2).trans ((hs'.2 b h1).trans h3), by show h2.objs.size = _; rw [hsb.1, hs'.1]; rfl, rfl, rfl, rfl, htk⟩
      have q := z.trans Z
      rw [Nat.zero_add] at q
      exact q
    rcases hst with rfl | rfl
    · show wpAny _ A.in1 (if (_ : Bool) = true then (mkInt (a + v) >>= _) else _) _ _ _
      split
      · refine wpAny_bind (wpAny_mkInt ?_)
        show wpAny _ A.in1 (updateSeq S (fun _ => #[.int (a + v) s.toks]) >>= _) _ _ _
        refine wpAny_bind ?_
        exact wpAny_updateSeq hS' rfl (wpAny_pure ⟨plainId_quiet F.plain_sum_loop _, go 0 _ _ _ _ (.inl rfl) (Heap.SameBut.update ..) (Heap.get?_update_self _ hS' rfl) (Nat.le_succ _)⟩)
      · refine wpAny_bind (wpAny_rule ?_)
        refine wpAny_bind (wpAny_attempt (wpAny_holding (wpAny_add_int ?_)))
        show wpAny _ A.in1 (updateSeq S (fun _ => #[.int (a + v) s.toks]) >>= _) _ _ _
        refine wpAny_bind (wpAny_updateSeq hS' rfl ?_)
        have hS₂ := Heap.get?_update_self (Obj.mapSeq fun _ => #[Value.int (a + v) s.toks]) hS' rfl
        refine wpAny_bind (wpAny_letGo ?_)
        exact wpAny_bind (wpAny_updateSeq hS₂ rfl (wpAny_pure ⟨plainId_quiet F.plain_sum_loop _, go 2 _ _ _ _ (.inr rfl) ((Heap.SameBut.update ..).trans (Heap.SameBut.update ..)) (Heap.get?_update_self _ hS₂ rfl) (Nat.le_succ _)⟩))
    · show wpAny _ A.in1 ((holding [Value.int v t] (binaryOp .Add (.int a tA) (.int v t))).attempt >>= _) _ _ _
      refine wpAny_bind (wpAny_attempt (wpAny_holding (wpAny_add_int ?_)))
      show wpAny _ A.in1 (updateSeq S (fun _ => #[.int (a + v) s.toks]) >>= _) _ _ _
      refine wpAny_bind (wpAny_updateSeq hS' rfl ?_)
      have hS₂ := Heap.get?_update_self (Obj.mapSeq fun _ => #[Value.int (a + v) s.toks]) hS' rfl
      refine wpAny_bind (wpAny_letGo ?_)
      exact wpAny_bind (wpAny_updateSeq hS₂ rfl (wpAny_pure ⟨plainId_quiet F.plain_sum_loop _, go 2 _ _ _ _ (.inr rfl) ((Heap.SameBut.update ..).trans (Heap.SameBut.update ..)) (Heap.get?_update_self _ hS₂ rfl) (Nat.le_succ _)⟩))
theorem sum_wp {Q : Value → Shared → Prop} (hh : A.handled = none) {l : Addr} {items : Array Value} (hi : ∀ j, j < items.size → ∃ v t, items[j]? = some (.int v t)) (hl : s.heap.IsList l items)
    (h : ∀ sm t' s', (∀ b o, s.heap.get? b = some o → s'.heap.get? b = some o) → s'.heap.objs.size = s.heap.objs.size + 4 → s'.gens = s.gens → s'.os = s.os → s'.drawn = s.drawn → s.toks ≤ s'.toks → Q (.int sm t') s') :
    wpAny (model prog w) A (PySem.call (.builtin "sum") [.ref l]) Q E s := by
  obtain ⟨ol, hol, _⟩ := id hl
  have hll : l < s.heap.objs.size := Heap.lt_size hol
  refine call_function_tree F.kind_sum F.plain_sum F.entry_sum (F.args_sum1 _) ?_
  unfold Builtin.«sum»
  simp only [List.length_cons, List.length_nil]
  rw [if_neg (by decide)]
  refine wpAny_bind (wpAny_of_eq (show Builtin.Builtins.bindParams "sum" ["start"] 0 { } = pure [none] from rfl) ?_)
  refine wpAny_bind (wpAny_pyIter_list hl ?_)
  refine wpAny_bind (wpAny_mkInt ?_)
  refine wpAny_bind (wpAny_pure ?_)
  simp only [List.forIn_cons, List.forIn_nil]
  refine wpAny_bind (wpAny_bind (wpAny_bind (wpAny_isInstance (T := "int") (b := false) (typeIs_int _ _ _) PySem.sub_int_str ?_)))
  simp only [Bool.false_eq_true, if_false]
  refine wpAny_pure (wpAny_bind (wpAny_bind (wpAny_isInstance (T := "int") (b := false) (typeIs_int _ _ _) PySem.sub_int_bytes ?_)))
  simp only [Bool.false_eq_true, if_false]
  refine wpAny_pure (wpAny_bind (wpAny_bind (wpAny_isInstance (T := "int") (b := false) (typeIs_int _ _ _) PySem.sub_int_bytearray ?_)))
  simp only [Bool.false_eq_true, if_false]
  refine wpAny_pure (wpAny_pure ?_)
  refine wpAny_bind (wpAny_newObj_type ?_)
  have n1 : (s.heap.push { cls := .type "list_iterator", data := .fields #[.ref l, .int 0 0] }).objs.size = s.heap.objs.size + 1 := Heap.size_push ..
  have q1 : s.heap.objs.size ≠ (s.heap.push { cls := .type "list_iterator", data := .fields #[.ref l, .int 0 0] }).objs.size := by rw [n1]; omega
  have q2 : l ≠ s.heap.objs.size := Nat.ne_of_lt hll
  have q3 : l ≠ (s.heap.push { cls := .type "list_iterator", data := .fields #[.ref l, .int 0 0] }).objs.size := by rw [n1]; exact Nat.ne_of_lt (Nat.lt_succ_of_lt hll)
  refine wpAny_pure ⟨plainId_quiet F.plain_sum_loop _, sum_turns (A := A) (I := s.heap.objs.size) (S := (s.heap.push { cls := .type "list_iterator", data := .fields #[.ref l, .int 0 0] }).objs.size) hh hi q1 q2 q3 items.size 0 _ 0 s.toks 0 0 (.inl rfl) rfl (Nat.zero_le _)
    ⟨_, Heap.get?_push_of_some _ (Heap.get?_push_size _ rfl), rfl, rfl⟩ ((hl.push _).push _) (Heap.get?_push_size _ rfl) fun sm t' s' Z => ?_⟩
  refine h sm t' s' (fun b o e => ?_) ?_ Z.gens Z.os Z.dr (Nat.le_trans (Nat.le_succ _) Z.toks)
  · have hb := Heap.lt_size e
    have z1 : b ≠ s.heap.objs.size := Nat.ne_of_lt hb
    have z2 : b ≠ (s.heap.push { cls := .type "list_iterator", data := .fields #[.ref l, .int 0 0] }).objs.size := by rw [n1]; exact Nat.ne_of_lt (Nat.lt_succ_of_lt hb)
    exact Z.keep b o z1 z2 (Heap.get?_push_of_some _ (Heap.get?_push_of_some _ e))
  · rw [Z.size]
    show (Heap.push _ _).objs.size + 2 = _
    rw [Heap.size_push, n1]
theorem slice_wp {Q : Value → Shared → Prop} {l sl : Addr} {items : Array Value} {vl vu vs : Value} {lo hi st : Option Int} (hl : s.heap.IsList l items)
    (hs : s.heap.IsSliceOf sl vl vu vs) (pl : IsPart vl lo) (pu : IsPart vu hi) (ps : IsPart vs st) (h0 : st ≠ some 0) (hsz : items.size ≤ sizeLine)
    (h : Q (.ref s.heap.objs.size) { s with heap := s.heap.push { cls := .type "list", data := .seq (slicePick items lo hi st) } }) :
    wpAny (model prog w) A (PySem.call (.builtin "list.__getitem__") [.ref l, .ref sl]) Q E s := by
  obtain ⟨o, ho, hc, ne, hd⟩ := id hl
  obtain ⟨os, hos, hcs, hds⟩ := id hs
  have hTs : s.TypeIs (.ref sl) "slice" := ⟨os, hos, hcs⟩
  refine wpAny_call_entry slot_list_getitem hl.typeIs entry_list_getitem ?_ (args_list_getitem _ _)
  show wpAny _ _ (Builtin.List.listSubscript? (.ref sl) >>= _) _ _ s
  refine wpAny_bind ?_
  unfold Builtin.List.listSubscript?
  refine wpAny_bind (wpAny_specialOf hTs slice_no_index ?_)
  simp only [Option.isNone_none, if_true]
  refine wpAny_pure ?_
  show wpAny _ _ (typeOf (.ref sl) >>= _) _ _ s
  refine wpAny_bind (wpAny_typeOf hTs ?_)
  rw [if_neg (by decide)]
  rw [listSliceParts_eq]
  have hstep : ¬ ((rawPart st == rawInt 0) = true) := by
    cases st with
    | none => exact Bool.false_ne_true
    | some c =>
      intro hh
      have : c = 0 := by simpa [rawPart, rawInt] using hh
      exact h0 (by rw [this])
  refine wpAny_bind (wpAny_bind (wpAny_field hos hds (x := vs) rfl (wpAny_bind (wpAny_listPart ps ?_))))
  rw [if_neg hstep]
  refine wpAny_bind (wpAny_field hos hds (x := vl) rfl (wpAny_bind (wpAny_listPart pl ?_)))
  refine wpAny_bind (wpAny_field hos hds (x := vu) rfl (wpAny_bind (wpAny_listPart pu (wpAny_pure ?_))))
  refine wpAny_bind (m := Builtin.List.listItems (.ref l)) ?_
  unfold Builtin.List.listItems
  refine wpAny_bind (wpAny_seqItems ho hd (wpAny_pure ?_))
  refine wpAny_bind (wpAny_of_eq (sliceIndices_raw lo hi st items.size h0) ?_)
  exact wpAny_bind (wpAny_newObj_type (wpAny_pure ⟨_, rfl, h⟩) (Nat.le_trans (slicePick_size_le items lo hi st) hsz))
theorem slicePick_ints {items : Array Value} {lo hi st : Option Int} (hi' : ∀ j, j < items.size → ∃ v t, items[j]? = some (.int v t)) : ∀ j, j < (slicePick items lo hi st).size → ∃ v t, (slicePick items lo hi st)[j]? = some (.int v t) := by
  intro j hj
  have hm := Array.getElem_mem (h := hj)
  rw [Array.getElem?_eq_getElem hj]
  unfold slicePick at hm
  have hm' := List.mem_toArray.mp hm
  obtain ⟨i, _, hi2⟩ := List.mem_filterMap.mp hm'
  have hlt : i < items.size := by
    rcases Array.getElem?_eq_some_iff.mp hi2 with ⟨h, _⟩; exact h
  obtain ⟨v, t, hv⟩ := hi' i hlt
  rw [hv] at hi2
  exact ⟨v, t, hi2.symm⟩
end
end M9
end
section
open PySem PySem.W PySem.Calls PyProof.Rows PySem.Spec
namespace M9
noncomputable def lookA (P : Params) (its : Array Value) (a : Nat) : Option Obj := match Nat.blt a 1338 with
  | true => (T25 tw P).get a
  | false => match Nat.beq a 1338 with
    | true => some (lst its)
    | false => none
noncomputable def lawC : Code := .call (.ref 1337) ⟨[.ref 1338], []⟩
noncomputable def ΓA : PySem.Ctx := ⟨lawC, none, none, [(.builtin "claim.caller" {}, p0)], none⟩
noncomputable def orcA : Nat := nat_lit 1329227995786124799876344294647267328
noncomputable def orcA2 : Nat := nat_lit 172837136024387953429337129509855645715550270893475575666883196654948302830903868485636891238976226648333034582516943257713096742857651796634851606531492750269153341078772850275512819372661165620368450548809863229476761729111486557557786335815841785281798766767041298663298967727122308014030490823062549179030653349463788470877266147416824540574853259111125329100453810005869520218148292070155926004745068651092907587717487266316674573012162499907501385688585001992670841093497554527415647973291859827965559783582650744024880685195712191766214606622791194928930692123055982255836773237280809760012137854776127204137696257880494707085839909224081312746704637737327376319041286848817029919658334601682753759358911224557505367816458114365052289129777302161368816033801415982342833827644714855984547746880182424491845534009148130685222050584510773756809484569187108393713856227494599401238016134605832832529774507315694962157608770783886377814123853028641462053922706213674873008678321102465680060543151205613433739640533170657983598744616842819741131624580403812143417052295622728855339168833334288901156462878623129559599351895303336511020334603296940033898338156481410612160648093802405949644942089790862331225467579719510546585374772141779920784376381412847198333418483146750398635241983327735465153640751927466356108744088102257518777630126156884558424814746122398340535139347115530499214456567714990129604232127847579103750293858333325560351872692385419105668819927067652398843196594765517566222843234738322691501408683181260445601912672909911307953290148540465855695258714758298676653103066388117993136394322047499772868898024361279948625046386391757912151204696889856881661581944796456694937938778768053469457150353553173239172787618045144185446641901180855947634039320088015152046004211119530981218394534754640953906590066989807298335451831677094024814479835763729693444627171809517122542030688536865214122239434956262001315897508036792552197661697697312417486973096017560493229391722776851951294061474649253654034167365568777066971979839041849166788691389217638219715651312293363071544652537592852577625070034046231939253735494740182923370465845203652208235777937978918516074549088181217525428135133420432838674583327875858938590487378707123334456873301488534062437828377403300544602402175607783108370453598021481031480246746877626023744725269957530679839823487631244993588777484437017009046951317267944417394728097205858858709437967824548656600911130819061769326553901528849148636525834624442818893044091484598509218755246408984287669287690139824941504729238371677207849899649129323662296450272256754876835619216352444015813650813828101039121823206920871994628604033733397662369961022181882173376729200513405685578167450034382593701626346473716407685841657278030486388529779448515545819772470016531347148623753228425144552028520589391083492319237893138592893196951496717085029073571953367371940859358357907840704932049194288657694922621709685103968726964082637650549274942027028943803521179634687828996416867821956285817468207068198420543313870714891000756132506582338237414840526715258160342486971497716918521725291084185182297595931472732833271968181268203468682866287553785972297882214254404465407109026598450989850494760011558755381047303095184958780315182966991602636237122237679734693670344336281584288893128029235179146508427713224120783271479882263366198915020707192196644089975250633120194765671125103640353351485905613419311949536527432773315586470852352140166733907127934656047753830911524825752240365206166837593460250329697621744142118472312217363833415646168416057948775392822875884720366398481724877825388857772095219926243618742863769923779464976110075533764001973358976495733306650311291862570415652154034555393389130698496478930891339600283334751329548196700513853144733157149674059918568671093231306540355589892104026217575268306729026941412944427354133333172262203102659672877345532345685470859462695739190784901921964723146475746107148240828779238674619412714858258208726839684427874334963750978455125500203068570191630848623806395136544524689310951356896185201041594744515183375581027336109259876401647239789923213162668211352685510427458296429133334065312892667979355525352005619733643264723287406493259672870233384426911758608537329007862957759496138299582725061137229705205249386127888669541054071494100044660061246596190107107367723437434068593314061220271643840222937625917564128947999185519061495588520235744273140187502208491936336474143207488002203840545548783574792126915132293767053014969611163564576138935867921606962246294200611579232126997499438659627284674851344059908305401349209910610861063342979079248682579542846100066983863262419107780062324235935148745361195191412799730779044688450794351668828993246590842465127804641549671132164628514168352019654479150426207717124181980497645848389765265738356842396463935954374335929755136295504885750649940569054364268780993571992809729592235604506828209090721996794447833341554575920032949829582667949510645727560358476684840207901333260740686422354773145725462116812275807325810354398231164855315820370317079651407619200443355284546583696437560205845740175748124636023816010992388713728669539587398222822592062734883221865479593207022011277681624967661193733517065491258445483524191074728724966678760807602815638173477112910489282000263171563773981766112569671217424657761645286669321781007938918765757235225995049725016113443290772489508782149795582000097688099911559918570171469987301453650148361515196681197447099881045107813460286040625208376330275732787804432825068452627944593554346660804965737935059664008849431921620950005505218380887464931650915036804414410128140720278362062574422368641552422473377061887320281977205681455718850851340899012360031877729002748424867689378096958600267831057809297447226678945021035138944791089554814483918784928568259449127898814490917357119298051542182580242159541979931350598636626152951588232146914737022939426793537826110577146746057155670604286112779729272399581226767511406486763215959704155644429310080854300470878976912501288771540722157846735425392014332539476610657577774093671253369294801402527445182445287794533975142128574452500685790113861212655102918652885107429152476272275482745382933646398857844726529786311861805812370857719241163699453171849255467842388831234804149919962434145301282624585872261461163201373658625644638510366803103434027889060499998436764969471103612465550595018067457146464998215235556207830151616214341300769802626479026412880493476850151588844451935648843639468302546201232966515124800017310820601411018301248010010404013897797346623780783434151848883040593424855987547509976764867952909361013810969971712608533358020448141638507384018892563881140100558887078753643487393994157224652858625927184498238930268906861867134047381574714279532404912511346196365425637145187700447626190570529319560213259109852677838985406377538811743290968746467689756930599510615017735546664576435433826585323740955982367887154890739703656004414504232945509217432079499095429123735323537597210025581562941411928675565689582039003914031507986579217127062517068456678168673879941037272045417386670421605136228911760016296723586520515329487389156053951329989217205740174689337364335304092954513077714786509372594799335229551569578885385269840648843300068221818175959195775597290559469015053398354717689856831946530529222256159427258362061982796591653510430958220794180483528486457688014305025535307367730272239514769595064978585044590334124455758112522902468710985941474674570887439466959105629702640662913354440241232069218226821327081380776204475386537833301432773694358485520209751409061553318381808704161050670026051976315920391004861097408118043630461421274219096080644381406176368906187586755409258863260762050474555364811744633373826459150355870893788432661294363717615814891975305191100193555538451397588572049376492185235198188070541704985894407223577779841178735048231958669148640188449489872323926355999081664363613780724439476871470631127730691962880011239272503708452359559125157713418549708093444431479366932960937961836492282403436476515430738132851946256064859816508216434482988922887711654476539719164141311789397182223123128691431378062358192378084820472310455736262107800577486384038492937222016532417625643180001775288107425171451479196836505757665414073335073510471754390586282920547800460226222956650771026964649063111033328737697455601879336016455047162557827659762079748799158789510321788694840325179727189673912682110927723949380691551012089046813542092947873401780744902092955457068555603615803739078901998922344208227300307159701590283117033544758361328710862316830316165669567182350797440814045151439877031924568589633805942097949430677895488458465406363222614148824526629498927372547309458712905453636039473988015586222064820971999729455323906121970731545697418372898602203370475360255816674358528795753199281768982935049654774085485115218406641869137966826481632892176625560475753118422753161643878447577161247768940241352482867596609534753174445994440067059746784022950518504899881908603803763305836984653278416027607840695400079146382580755952154309507934934706669886663139633693559748344331988797119029622396571239888082237098292018698789182335038947625670549010552836252394591582007504334123936050569052070400681957148725685529537555634562173136245292869012017512695800779920072674529226675771409623441522904912182011814108378976285417332838174530224189248833104519580557878278237271759240258614221075178379092531870821448600136596179849383820573019098568662353722653215795642603419628689887961791592288873772025276253204014806333638975882473091266769419912330042237800265781650459478283648183741883094301692798468579205311292977258197746327379403064332288048489898947881019896196532660572973070001099064010480015735850925555974394620437429434244777701643089590833221094542881459871428332359530619570246990007801013847087756513985248550698986038206981048967161382179549089186443852130248737764456317603022685647352502001432381618799937605655540399345569585726527815414562271727293224294932981644197372275383521587901550258988661142401296421529741367843207161914717089611451288047303502475075968473890885369943653544921849109654330627532168315326174340007980604339294878767025942626802038097758901441406004606175393796466470030684391270746164246937562822871649296234162312520228767363060822551185353388587095503118442590267622369094884123266274422054837845019230715401980313851104535507446863759849272699086788836037261817579034785060022981119342844204471601527849585990596280306995681481343096408468051580851531940281700262669142320030958924623607003917400244271964476741763652472866175280315029120010507062637052290991393606780569560572939787859420052880388799034295076891287459312316751069820085661850067969200497636391886835300901828231085254428508632339157524457061873724901297933665336677394049675332568178778774276183510161735458212422585295336153965510936239039430791633488336146548377376991058255539087846975414530930677970322769110301440024283406695504252082434616854339168341662587117254844440585157359574680082562074348662218277355892879086284574603554907067680064591686139151961500731348429352986612427232610904676279545465603386512387332067402088059222212629526222977894328597736314683370074450114926548670068894493218728187678702483285914905580814804537050733280220401039756939396829375809441891930740780203075778854936094980984599971076393665141264549157836444020760675952905476570796737173190433396404295892766831324588093168184138252529567930822928284292155647501899564007363133937043865029788729646178380630885232665664575885222630679812091808008351262087888969990607572546714692782193143422838957416089612940972323950802794341946787379284094784883158526277587073451994219282684369309551097883698779952772715518110989864484373706749543715729066094740535299824072976405440239161855028386480457848650230741412378545899277469921588241609549868984272104896682236766602952167228414119999353851872734961517175926390968420189041604505242046484133355073027464675416240589858662149448177036332925105429974774468171607750949812963005487397584781343964591284297208741434641094674157374159789828922609825551505273521266752026347280599285103712216143246580096324771403001201132941518935916256777214128953972992656009766137899029403570248404367267292297311842943584000831381376181562094229931764536313970504883394818170834599665748802421942278649583067486741246724141199831257676854708087167931886485433251325711546370120834891457293464554302013520757794772868921081278717534533126387843700508854826527167989389224184909221723638160924440323626872130282987936139781653942787362146843790295984683597799853413015223189844978879412076769047095919593481774238721840860776102855570824539121131088946840689743495741454284725199928728666484702357059479046603736557138781902523271927664027628752216311946981731055459805617867808914414275156074586485950461170088983647205791586716536746945789179879631541490832883438290481948225097030829020508184421169322078593270379532534476883345526557043185221027644786588475127114757860714419140304254902396037211664897759867198881395590519814165439072821751629717709763077276755650727709925167118284913232991810743061650698614185621241478189577668010722583581645173771445992725468349648783615294922880679554844822651610291289024225482879573895627490178073823493547834088221624325813700727361383017890586220160213612801847934204665535035932252422775169487911174804846679574328093502978038267311668646972215832148521749339502281178680652819315377923531128443291239873988413806781071331841075858766725776263560798557694901578678491271709240108002676569039035496809427574305153241192104108498870230925476493209404772799865919711320863747266181481515329440030471486969259626227433059971214869391161593478544419919407462541243590250458366845634671767511228489982479652845018126758190424873821951545099902618747422143614558009851141685069933906466794286762136843938617441229121914678250600164523104401384836521742102501531348762556259222210055500153122358086444365256369733126897777739882310216616155122488805865328723731200117224261602986881725273462551705327009271182706807032879469151116670246082578331771742323433340869169258616724460934757551449971884843963360189089937466171555653728471554179406002142234186229171387734458585671059607783643846647663633092184212003324634010360794096293292141731080550044165751212784399089417470015672168301373780023701769133083984395836000464153262853080886866127176530521791356847708831224015529718878791910185429152237121439839397773205851394984181236411814451340589264111129916315541282403782816529949374915394922724259526526734774657790283399916029038545802565221027009155406250307080924248764822438432183828269378798270429457627100064724805711065111637871488225329042562410558006685265661289427770930576634983860437261080123063349169669768390166050323896406493460304078623990564922818063375481866037486578359425668444351995084874512220271555986512383382791457280235633884247353767407991612067046116341576821782042990870660704799261015641142230473948648896538858651926610152552670384675850335898992930536922384794895958887113931549588774744012339081336259363503934829917465029227659719451767326929837997731610714423307547452559699157052481171001350429897161568137010073480145347465485062148535164365065305032155120914740728071482580983595814233268608254106843406375747151403798395285442150785475295468401465814990430581678663365433472936731531406254339974915611088774493613288978085404115656077048474713020413233247901844241155413761579207385126069464044994472784967033685729206905558683433073357646416951752334415566497204565404926226022528946232477817061928527599450583123192668266400676794221410620900579269881576470345348169235781837600796391531437397205076120627046754619177380744446412066431315250512475873403702568822640340889110590793293170103334819013218297406138007234071223827325874133294340852770504621176663027597686374168945338297394800678228643908520479165887418904874359229753085118986849203715022105481003448571931094696167251251050147316403194344086817629185357647649132566571939968352881868216988741285216727111143788136870762305330081763938481044549621004540398514551477960816428467930388848370350582013279329038528030998030719895653382809729469356454238833992546322110111413864868066311669097705425653448430426999852629855098647515553534997216869280896192525639345063019271472260410201804037407209087775023798060456191606422539128714400548213824839078297650685254784496312218714325560245622808264069935110212495423576375087893823387721686862856590440140359254353945435212126938997590493688170873293018065020424234306152706646153279194531940426427978227995735790392915736828070610707786801770081440560350032835873140770122399896843284683817542416277963541407740357292093089403923243431709214918707333747025277451870581103863998721171624518869799470308680690443417297567228429794561436715472781863876956063588193619302043206183911066845010440593490992379620815473952741521983399462608919722922942260534280895159205960526049397316684551284493103023096686405867541017079064991963107961968119280408013403816420854626677629293864938459684831759875575603586305034310361422581425865335156984368551478440560505882351908134204527503317649700197029560500571481901009809358048039027922946095199071897921170200928907617574373846925908476187167099822349384832230365847231984486776004425506579424637610609942520491286628900694396261589094892261096481209176759260256238273946064485679187179919290568474936556448968519409768094570029861653846397099061652743339321148043838589075595248132328348397948582888730106727421388029970728809346254931703345659177844053399449638435075929587152402013057819789140274229748005281978705012100562565691440639495212787428105908903305766961629473475899208461478882223487001261086557462665272699422040980139341182372143924586979307105154869533939821378334345689497573908099314325418745022078063500297625001882064748465772917774361180773929666457835107300071391020230068065383780359378735581368790272242835799751900213192611617017751810438774625259891728873019147118638317329260238774852049211504113932894295272259546427058692513732935933854657111488976041169348508546853619447090859105593989076556489142305578160202259725930205551177207541488395563325951861954082726557404740828496840102874511600555719772321662659695947835314633910271155243659217085396770706891349034487998119744903820584158549722434584265435402027696199979966760868667886735006643182272664028328808385101208121147923580777121875325291932603664620101924689488976272737637261698293857576604844691356845708906497758945443869778709164053057026964385859522718701445193765775459997034343057230170765689808330833963448814391886680205319441138708052910589459320532363018920777990497283981873697059716412015449958874437336419206515260129371695974070405649858926208668315872101225306343451021756753031735714744896848022360113869952878682406113871912171847057776038458237523528061095497069072847511157990303898015379266039495420003930850687219170579881383239808974572527666510666434011009788282338763420479973932747700737356290995798552945801296613941559628272397043855625948561236248708965662468020553403106236868955035214131820741112975023787529113534728774033602870016912012018744841675418900572959679265606365147318451705990949899964713935443006191948036507783306332994836585694703781314209328117380202207847227160408627563821493893773485621579299744559133084379812404058221064078267268638641100706454938397039940477386596431237373913311816455664555374767044151368996135721916518455787108482241941436988579621952405505628088729943775357272552573154593007048917652540272068333135134357523056400948625424845617085334722287587635180376919244067265463895862372769732355100862948938544024837668502029774690454149526167367758844586689338396364512780433895716220829986116210046594685767078105075616317440
noncomputable def aSl (c : Array Value) : Ans := ⟨.ok (.ret (.ref 1341)), fun h => ⟨h.D, h.X.ins h.m (lst c), Nat.succ h.m, h.bs, h.tb, h.i⟩, nat_lit 2419032230851075273393152⟩
noncomputable def aSm (sm : Int) (ts t1 : Nat) : Ans := ⟨.ok (.ret (.int sm ts)), fun h => ⟨h.D, h.X, h.m, (h.m, nat_lit 1346) :: h.bs, t1, nat_lit 0⟩, orcA2⟩
noncomputable def aOut (P : Params) (t0 : Nat) (its : Array Value) (as : List Ans) : Out :=
  om (cfE P (lookA P its) [] (fun _ _ => none)) (nat_lit 9660) ⟨ΓA, p0, [], [], (cfE P (lookA P its) [] (fun _ _ => none)).den lawC, ⟨[], .nil, nat_lit 0, [(nat_lit 0, nat_lit 1339)], t0, nat_lit 0⟩, ⟨orcA, [], [], [], []⟩⟩ as
theorem ra0 (w : World) (t0 : Nat) (its : Array Value) : (fun P => (vNeed (aOut P t0 its []), vX [nat_lit 1] (aOut P t0 its []), vA (aOut P t0 its []))) w.params =
  (fun P => (some (nat_lit 0, .call (.builtin "list.__getitem__") ⟨[.ref 1338, .ref 1340], []⟩, none, none, none, ⟨962, 12, 962, 23⟩, some ⟨962, 12, 962, 23⟩, [], nat_lit 2, [(nat_lit 0, nat_lit 1339)], t0, nat_lit 2), [some (⟨.type "slice", none, .fields ⟨[.none, .int 40 (t0 + 1), .none]⟩, ⟨[]⟩⟩ : Obj)], vB (aOut P t0 its []))) w.params := by kernel_rfl
theorem ra0i (w : World) (t0 : Nat) (its c : Array Value) : (fun P => (((outX (aOut P t0 its [])).ins (nat_lit 2) (lst c)).get (nat_lit 2)).isSome) w.params = (fun _ => true) w.params := by kernel_rfl
theorem ra1 (w : World) (t0 : Nat) (its c : Array Value) : (fun P => (vNeed (aOut P t0 its [aSl c]), vX [nat_lit 2] (aOut P t0 its [aSl c]), vA (aOut P t0 its [aSl c]))) w.params =
  (fun P => (some (nat_lit 1, .call (.builtin "sum") ⟨[.ref 1341], []⟩, none, none, none, ⟨963, 29, 963, 39⟩, some ⟨963, 29, 963, 39⟩, [], nat_lit 3, [(nat_lit 0, nat_lit 1339)], t0, nat_lit 4), [some (lst c)], vB (aOut P t0 its [aSl c]))) w.params := by kernel_rfl
noncomputable def objA (P : Params) (t0 t1 : Nat) (c : Array Value) (sm : Int) : List Obj := [frO (frE P t0 t1) 4 ⟨[]⟩, boxO t1 sm 0 (t0 + 3), jrO P t1 (t1 + 99), pipO t1 true, ownO P t1 true true, endO true true, lst c, w1360, w1377 P, w1379 P t1, w1380, w1384 P t1, w1385, w1387 P, w1388 P t1, w1389, w1395 P t1, w1396, w1415 P t1, w1416, w1419 P t1, w1420, w1428 P t1, w1429, w1432 P, w1444, w1473 P t1, w1477]
noncomputable def ixA : List Nat := [nat_lit 0, nat_lit 3, nat_lit 16, nat_lit 39, nat_lit 133, nat_lit 137, nat_lit 2, nat_lit 17, nat_lit 34, nat_lit 36, nat_lit 37, nat_lit 41, nat_lit 42, nat_lit 44, nat_lit 45, nat_lit 46, nat_lit 52, nat_lit 53, nat_lit 72, nat_lit 73, nat_lit 76, nat_lit 77, nat_lit 85, nat_lit 86, nat_lit 89, nat_lit 101, nat_lit 130, nat_lit 134]
theorem ra2 (w : World) (t0 : Nat) (its c : Array Value) (sm : Int) (ts t1 : Nat) : (fun P => (vStop (aOut P t0 its [aSl c, aSm sm ts t1]), vX ixA (aOut P t0 its [aSl c, aSm sm ts t1]), vA (aOut P t0 its [aSl c, aSm sm ts t1]))) w.params =
  (fun P => (some (ΓL, ⟨963, 48, 963, 60⟩, [], [.seq (dr 2 lawB) envL, .fn envL], .pure (.done .next), [], nat_lit 142, [(nat_lit 3, nat_lit 1346), (nat_lit 0, nat_lit 1339)], t1, nat_lit 631), (objA P t0 t1 c sm).map some, vB (aOut P t0 its [aSl c, aSm sm ts t1]))) w.params := by kernel_rfl
end M9
end
section
open PySem PySem.W PySem.Calls PyProof.Rows PySem.Spec
namespace M9
theorem Rep.skip {h₀ : Heap} {E : DL} {os : OsState} {dr : Drawn} {D : DL} {m tb i : Nat} {bs : List (Nat × Nat)} {X : BT} {s s' : Shared}
    (Z : Rep h₀ E os dr ⟨D, X, m, bs, tb, i⟩ s) (keep : ∀ a o, s.heap.get? a = some o → s'.heap.get? a = some o) (hsz : s.heap.objs.size ≤ s'.heap.objs.size) (hg : s'.gens = #[]) (ho : s'.os = s.os) (hd : s'.drawn = s.drawn) :
    Rep h₀ E os dr ⟨D, X, m, (m, s'.heap.objs.size) :: bs, s'.toks, 0⟩ s' := by
  obtain ⟨i0, b0, r0, hbs, hle⟩ := Z.seg
  dsimp only at hbs hle
  have hs : s.heap.objs.size = adr bs m := Z.size
  have top : adr ((m, s'.heap.objs.size) :: bs) m = s'.heap.objs.size := by rw [adr_seg (Nat.le_refl m)]; omega
  have old : ∀ j, j < m → adr ((m, s'.heap.objs.size) :: bs) j = adr bs j := fun j hj => adr_old hj
  refine ⟨top.symm, ⟨m, _, bs, rfl, Nat.le_refl m⟩, fun a b h1 h2 => ?_, fun j hj => ?_, fun j hj => ?_, fun j o hj => ?_, fun a o h => ⟨keep _ _ (Z.D a o h).1, (Z.D a o h).2⟩, fun a o h1 h2 => keep _ _ (Z.keep a o h1 h2), (Nat.add_zero _).symm, hg, ho.trans Z.os, hd.trans Z.dr, Z.ext⟩
  · have h2 : b ≤ m := h2
    show adr ((m, s'.heap.objs.size) :: bs) a ≠ adr ((m, s'.heap.objs.size) :: bs) b
    rw [old a (Nat.lt_of_lt_of_le h1 h2)]
    have ha : adr bs a < s.heap.objs.size := Z.bnd a (Nat.lt_of_lt_of_le h1 h2)
    by_cases q : b = m
    · subst q; rw [top]; omega
    · rw [old b (Nat.lt_of_le_of_ne h2 q)]; exact Z.inj a b h1 h2
  · have hj : j < m := hj
    show adr ((m, s'.heap.objs.size) :: bs) j < s'.heap.objs.size
    rw [old j hj]
    have : adr bs j < s.heap.objs.size := Z.bnd j hj
    omega
  · have hj : j ≤ m := hj
    show h₀.objs.size ≤ adr ((m, s'.heap.objs.size) :: bs) j
    by_cases q : j = m
    · subst q; rw [top]
      have : h₀.objs.size ≤ adr bs j := Z.low j (Nat.le_refl _)
      omega
    · rw [old j (Nat.lt_of_le_of_ne hj q)]; exact Z.low j hj
  · have z := Z.own j o hj
    have z1 : j < m := z.1
    refine ⟨z1, ?_⟩
    show s'.heap.get? (adr ((m, s'.heap.objs.size) :: bs) j) = some o
    rw [old j z1]
    exact keep _ _ z.2
theorem t25_tabs (w : World) : ([(nat_lit 1292), (nat_lit 1299), (nat_lit 1306), (nat_lit 1313), (nat_lit 1332)].map fun a => (T25 tw w.params).get a) = [some (nO []), some (nO []), some (nO []), some (nO []), some (nO [])] := by kernel_rfl
theorem lookD_mem {a : Nat} {o : Obj} : ∀ {l : DL}, lookD l a = some o → (a, o) ∈ l
  | [], h => by cases h
  | x :: l, h => by
    rw [lookD_cons] at h
    split at h
    · rename_i q
      have := Option.some.inj h
      subst this q
      exact .head _
    · exact .tail _ (lookD_mem h)
theorem vX_zip {o : Out} : ∀ {l : List Nat} {v : List Obj}, vX l o = v.map some → ∀ p, p ∈ l.zip v → (outX o).get p.1 = some p.2
  | [], v, h, p, hp => by simp at hp
  | i :: l, [], h, p, hp => by simp at hp
  | i :: l, a :: v, h, p, hp => by
    have z := List.cons.inj (show (outX o).get i :: vX l o = some a :: v.map some from h)
    rw [List.zip_cons_cons] at hp
    rcases List.mem_cons.mp hp with rfl | hp
    · exact z.1
    · exact vX_zip z.2 p hp
structure Start (w : World) (its : Array Value) (s : Shared) : Prop where
  old : ∀ a o, a < 1338 → (T25 tw w.params).get a = some o → s.heap.get? a = some o
  arg : s.heap.get? 1338 = some (lst its)
  size : s.heap.objs.size = 1339
  isInt : ∀ (i : Nat), i < its.size → ∃ x tx, its[i]? = some (.int x tx)
  few : its.size ≤ 1000
  tk : 1998 ≤ s.toks
  gens : s.gens = #[]
theorem law_wp {w : World} {its : Array Value} {s : Shared} (S : Start w its s) : wpCode (model M9.tw w) ΓA (fun r s' => r = .ok (.ret (.bool true)) ∧ EndR s s') p0 s := by
  obtain ⟨T, hT⟩ : ∃ T, s.toks = T + 1998 := ⟨s.toks - 1998, by have := S.tk; omega⟩
  have hl : ∀ a o, lookA w.params its a = some o → s.heap.get? a = some o := by
    intro a o h
    unfold lookA at h
    split at h
    · rename_i q
      exact S.old a o (Nat.le_of_ble_eq_true q) h
    · split at h
      · rename_i q
        have := Nat.eq_of_beq_eq_true q
        subst this
        cases h
        exact S.arg
      · cases h
  have D0 : Rep s.heap [] s.os s.drawn ⟨[], .nil, nat_lit 0, [(nat_lit 0, nat_lit 1339)], T + 1998, nat_lit 0⟩ s := by
    have q := Rep.start (s := s) [] (fun a o h => by cases h) S.gens (E := []) fun x hx => absurd hx List.not_mem_nil
    rw [S.size, hT] at q
    exact q
  refine code_of_run (C := cfE w.params (lookA w.params its) [] (fun _ _ => none)) (cf_ok w _ [] _) isItF_ok hl (fun _ _ _ h => nomatch h) (n := nat_lit 9660) (orc := orcA) (h₀ := s.heap) (os := s.os) (dr := s.drawn)
    (h := ⟨[], .nil, nat_lit 0, [(nat_lit 0, nat_lit 1339)], T + 1998, nat_lit 0⟩) ?_ D0
  show Win _ _ _ _ _ _ (fun as => aOut w.params (T + 1998) its as)
  have F0 := ra0 w (T + 1998) its
  refine Win.need' (congrArg Prod.fst F0) (congrArg (fun z => z.2.2) F0) (fun a => a = aSl (slicePick its none (some 40) none)) (fun g s1 G Z => ?_) ?_
  · have isl : s1.heap.IsList 1338 its := ⟨_, Z.keep 1338 _ S.arg rfl, rfl, 0, rfl⟩
    have iss : s1.heap.IsSliceOf 1340 .none (.int 40 ((T + 1998) + 1)) .none := ⟨_, (Z.own 1 _ (vX1 (congrArg (fun z => z.2.1) F0))).2, rfl, rfl⟩
    have hsz : s1.heap.objs.size = 1341 := Z.size
    have q := Z.alloc (o := lst (slicePick its none (some 40) none)) rfl (ra0i w (T + 1998) its _)
    refine wpCode_mono (call_code (Q := fun v s2 => v = .ref 1341 ∧ s2 = { s1 with heap := s1.heap.push (lst (slicePick its none (some 40) none)) }) G fun A _ => slice_wp isl iss .none (.int _ _) .none (by simp) (Nat.le_trans S.few (by decide)) ⟨by rw [hsz], rfl⟩) fun r s2 h => ?_
    obtain ⟨v, rfl, rfl, rfl⟩ := h
    exact ⟨_, rfl, rfl, q⟩
  rintro _ rfl
  obtain ⟨c, hc0⟩ : ∃ c, c = slicePick its none (some 40) none := ⟨_, rfl⟩
  have hc : Cells c := ⟨hc0 ▸ slicePick_ints S.isInt, hc0 ▸ Nat.le_trans (slicePick_size_le _ _ _ _) S.few⟩
  rw [← hc0]
  have F1 := ra1 w (T + 1998) its c
  refine Win.need' (congrArg Prod.fst F1) (congrArg (fun z => z.2.2) F1) (fun a => ∃ sm ts t1, a = aSm sm ts (t1 + 1998)) (fun g s1 G Z => ?_) ?_
  · have isl : s1.heap.IsList 1341 c := ⟨_, (Z.own 2 _ (vX1 (congrArg (fun z => z.2.1) F1))).2, rfl, 0, rfl⟩
    have hsz : s1.heap.objs.size = 1342 := Z.size
    refine wpCode_mono (call_code (Q := fun v s2 => ∃ sm ts, v = .int sm ts ∧ (∀ a o, s1.heap.get? a = some o → s2.heap.get? a = some o) ∧ s2.heap.objs.size = s1.heap.objs.size + 4 ∧ s2.gens = s1.gens ∧ s2.os = s1.os ∧ s2.drawn = s1.drawn ∧ s1.toks ≤ s2.toks) G fun A hA => sum_wp hA hc.isInt isl fun sm t' s2 h1 h2 h3 h4 h5 h6 => ⟨sm, t', rfl, h1, h2, h3, h4, h5, h6⟩) fun r s2 h => ?_
    obtain ⟨v, rfl, sm, ts, rfl, h1, h2, h3, h4, h5, h6⟩ := h
    have htk : s1.toks = (T + 1998) + _ := Z.toks
    obtain ⟨t1, ht1⟩ : ∃ t1, s2.toks = t1 + 1998 := ⟨s2.toks - 1998, by omega⟩
    refine ⟨_, rfl, ⟨sm, ts, t1, rfl⟩, ?_⟩
    have q := Z.skip h1 (by omega) (h3.trans Z.gens) h4 h5
    rw [h2, hsz, ht1] at q
    exact q
  rintro _ ⟨sm, ts, t1, rfl⟩
  have F2 := ra2 w (T + 1998) its c sm ts (t1 + 1998)
  refine Win.stop' (congrArg Prod.fst F2) (congrArg (fun z => z.2.2) F2) fun s3 Z => ?_
  have kp : ∀ a o, s.heap.get? a = some o → s3.heap.get? a = some o := fun a o h => Z.keep a o h rfl
  have own := vX_zip (congrArg (fun z => z.2.1) F2)
  have at_ : ∀ ix o a (k : Nat), (ixA.zip (objA w.params (T + 1998) (t1 + 1998) c sm))[k]? = some (ix, o) → adr [(nat_lit 3, nat_lit 1346), (nat_lit 0, nat_lit 1339)] ix = a → s3.heap.get? a = some o := by
    intro ix o a k hm ha
    have z := (Z.own ix o (own _ (List.mem_of_getElem? hm))).2
    have z : s3.heap.get? (adr [(nat_lit 3, nat_lit 1346), (nat_lit 0, nat_lit 1339)] ix) = some o := z
    rw [ha] at z
    exact z
  have tb := t25_tabs w
  simp only [List.map_cons, List.map_nil, List.cons.injEq, and_true] at tb
  have tab : ∀ a, a < 1338 → (T25 tw w.params).get a = some (nO []) → s3.heap.get? a = some (nO []) := fun a h1 h2 => kp _ _ (S.old a _ h1 h2)
  have P : Pre w T t1 its c sm ((T + 1998) + 3) s3 := by
    refine ⟨fun a o h => ?_, fun a o h => ?_, Z.size, by have h1 : s3.toks = (t1 + 1998) + _ := Z.toks; omega, Z.gens, tab _ (by decide) tb.2.2.2.2⟩
    · unfold lookW at h
      split at h
      · rename_i q
        split at h
        · cases h
        · exact kp _ _ (S.old a o (Nat.le_of_ble_eq_true q) h)
      · have hm := lookD_mem h
        simp only [wList, List.mem_cons, List.not_mem_nil, or_false, Prod.mk.injEq] at hm
        rcases hm with ⟨rfl, rfl⟩ | ⟨rfl, rfl⟩ | ⟨rfl, rfl⟩ | ⟨rfl, rfl⟩ | ⟨rfl, rfl⟩ | ⟨rfl, rfl⟩ | ⟨rfl, rfl⟩ | ⟨rfl, rfl⟩ | ⟨rfl, rfl⟩ | ⟨rfl, rfl⟩ | ⟨rfl, rfl⟩ | ⟨rfl, rfl⟩ | ⟨rfl, rfl⟩ | ⟨rfl, rfl⟩ | ⟨rfl, rfl⟩ | ⟨rfl, rfl⟩ | ⟨rfl, rfl⟩ | ⟨rfl, rfl⟩ | ⟨rfl, rfl⟩ | ⟨rfl, rfl⟩ | ⟨rfl, rfl⟩ | ⟨rfl, rfl⟩ | ⟨rfl, rfl⟩
        · exact kp _ _ S.arg
        · exact at_ 2 _ _ 6 rfl rfl
        · exact at_ 17 _ _ 7 rfl rfl
        · exact at_ 34 _ _ 8 rfl rfl
        · exact at_ 36 _ _ 9 rfl rfl
        · exact at_ 37 _ _ 10 rfl rfl
        · exact at_ 41 _ _ 11 rfl rfl
        · exact at_ 42 _ _ 12 rfl rfl
        · exact at_ 44 _ _ 13 rfl rfl
        · exact at_ 45 _ _ 14 rfl rfl
        · exact at_ 46 _ _ 15 rfl rfl
        · exact at_ 52 _ _ 16 rfl rfl
        · exact at_ 53 _ _ 17 rfl rfl
        · exact at_ 72 _ _ 18 rfl rfl
        · exact at_ 73 _ _ 19 rfl rfl
        · exact at_ 76 _ _ 20 rfl rfl
        · exact at_ 77 _ _ 21 rfl rfl
        · exact at_ 85 _ _ 22 rfl rfl
        · exact at_ 86 _ _ 23 rfl rfl
        · exact at_ 89 _ _ 24 rfl rfl
        · exact at_ 101 _ _ 25 rfl rfl
        · exact at_ 130 _ _ 26 rfl rfl
        · exact at_ 134 _ _ 27 rfl rfl
    · have hm := lookD_mem h
      unfold WS.D dl at hm
      simp only [List.mem_cons, List.not_mem_nil, or_false, Prod.mk.injEq] at hm
      rcases hm with ⟨rfl, rfl⟩ | ⟨rfl, rfl⟩ | ⟨rfl, rfl⟩ | ⟨rfl, rfl⟩ | ⟨rfl, rfl⟩ | ⟨rfl, rfl⟩ | ⟨rfl, rfl⟩ | ⟨rfl, rfl⟩ | ⟨rfl, rfl⟩ | ⟨rfl, rfl⟩
      · exact at_ 3 _ _ 1 rfl rfl
      · exact tab _ (by decide) tb.1
      · exact tab _ (by decide) tb.2.1
      · exact tab _ (by decide) tb.2.2.1
      · exact tab _ (by decide) tb.2.2.2.1
      · exact at_ 0 _ _ 0 rfl rfl
      · exact at_ 16 _ _ 2 rfl rfl
      · exact at_ 39 _ _ 3 rfl rfl
      · exact at_ 133 _ _ 4 rfl rfl
      · exact at_ 137 _ _ 5 rfl rfl
  refine lawB_conf hc P fun s' Q => ⟨rfl, ?_⟩
  exact ⟨fun a o h1 h2 h3 h4 => Q.keep a o h1 h2 h3 (kp a o h4), Q.os.trans Z.os, Q.dr.trans Z.dr, Q.gens, Q.tabs⟩
end M9
end
section
open PySem PySem.W PySem.Calls PyProof.Rows PySem.Spec
namespace M9
theorem open_c2 {r : RowW} {q : Program} {loose kps : List Str} {Xt : Shared → Bool} {XP : (Str → Option Value) → Heap → Prop} {α : Type} {Yf : Shared → α} {Ya : World → α} {N : Nat} {defs : List Str}
    (left : LeftO r.prog q loose Xt Yf Ya N) (hX : ∀ s, Xt s = true → XP (s.heap.nsMap mainGlobals) s.heap) (hXk : ∀ mg h h', XP mg h → (∀ b o, h.get? b = some o → h'.get? b = some o) → XP mg h')
    (hRf : ∀ s, Xt s = true → RecFacts r.records s.heap) (ok : (chainsOk q && opensWell r.prog && (frees r && r.within.isEmpty)) = true) (hb : r.prog.bare) (hw : r.promised)
    (pin : ∀ w s, s.heap.isNs mainGlobals = true → Ground q loose [] XP w s (s.heap.nsMap mainGlobals) (s.heap.nsMap builtinsNs) s.heap → ∀ n ∈ defs, isTheDefsW r.prog s.heap n)
    (call : ∀ (w : World) (s₀ s₁ : Shared), Yf s₀ = Ya w → ∀ (args : List WData) (vs : List Value) (as : List Addr),
      r.claim.pre args = true → WData.layableAll args = true → Laid r.records w s₀ s₁ args vs as → ∃ f, s₀.heap.nsMap mainGlobals r.name = some f ∧
        Sem.wp (model r.prog w) callerC (PySem.call f vs) (fun v _ s' => GoodC9 r s₀ args s₁ (.ok (.ret v)) s') (fun e _ s' => GoodC9 r s₀ args s₁ (.error e) s') default s₁) :
    r.claim.HoldsOpenBy (fun vs => ⟨stubT r.name vs, .builtin "claim.caller" {}, default, []⟩) defs kps false := by
  obtain ⟨ok, k5⟩ := Bool.and_eq_true_iff.mp ok
  obtain ⟨hch, o1⟩ := Bool.and_eq_true_iff.mp ok
  obtain ⟨k5, k6⟩ := Bool.and_eq_true_iff.mp k5
  obtain ⟨hsame, hu, ha, hap, hm⟩ := frees_parts k5
  refine ⟨⟨hb, o1, by show r.makers.map _ = []; rw [hm]; rfl⟩, hw.witness, fun w => ⟨(left.behind hX hch w).1, fun s' hs' => ?_⟩⟩
  obtain ⟨s₀, hf, hg0, s, hT, hz, hgens, hg, G00, y⟩ := (left.behind (XP := fun mg h => XP mg h ∧ RecFacts r.records h) (fun s hs => ⟨hX s hs, hRf s hs⟩) hch w).2 s' hs'
  have G0 : Ground q loose [] XP w s (s.heap.nsMap mainGlobals) (s.heap.nsMap builtinsNs) s.heap := ⟨G00.T, G00.B, G00.D, G00.TE, G00.TD, G00.W, G00.X.1, G00.cls, G00.has, G00.apart, G00.once, G00.K⟩
  have RF := G00.X.2
  refine ⟨s₀, hf, hg0, s, hT, pin w s hg G0, RF.1, RF.2.1, ?_⟩
  have hgens : s.gens = #[] := Array.eq_empty_of_size_eq_zero (beq_iff_eq.mp hgens)
  have G : Ground q loose r.records XP w s _ _ s.heap := RF.ground G0
  intro args hpre hlay ord hord
  obtain ⟨⟨vs, s₁⟩, hlaid⟩ := Option.isSome_iff_exists.mp (layAllW_isSome (P := w.params) (ord := ord) G.has args r.args s (pre_splitW hpre).1)
  have keeps := layAllW_keeps _ _ _ hlaid
  have hal := layAllW_rest _ _ _ hlaid
  obtain ⟨as, hrd, hin, hold⟩ := reads_layAllW hord _ _ _ hlaid hlay s₁.heap (fun _ _ e => e)
  have L : Laid r.records w s s₁ args vs as := ⟨⟨ord, hord, hlaid⟩, hrd, hin, hold, keeps, hal.1.trans hgens, hal.2.2.1⟩
  have G₁ := G.keeps hXk keeps
  obtain ⟨f, hf, h⟩ := call w s s₁ y args vs as hpre hlay L
  have hi := ident_freeW hu ha hap
  have hwi : r.claim.within = [] := List.isEmpty_iff.mp k6
  have hl := fun (x : Result) (s' : Shared) (g : GoodC9 r s args s₁ x s') => GoodWG.laid (c := r.claim) hsame hwi hi L g
  have h2 := stub_wp (R := fun x s' => (r.claim.Ends s args vs s₁ x s' ∧ s'.os = s.os) ∧ leftWithCleanup s'.gens = false) (name := r.name) G₁.T.g hf
    (Sem.wp_mono _ _ _ (fun v p' s' g => have z := hl _ _ g; ⟨⟨z.1, z.2.1⟩, leftWithCleanup_false_of_bare z.2.2⟩) (fun e p' s' g => have z := hl _ _ g; ⟨⟨z.1, z.2.1⟩, leftWithCleanup_false_of_bare z.2.2⟩) _ _ h)
  obtain ⟨n, res, s2, s3, hs, hn, hfo, hcase, hos⟩ := PySem.wp_halts_full (M := model r.prog w) (R := fun x s' => r.claim.Ends s args vs s₁ x s' ∧ s'.os = s.os) (Shared.asleep_of_life hal.2.2.2 hz) h2
  obtain ⟨eh, _, _, eo, _⟩ := Shared.forget_eq hfo
  have hcase := hcase.congr eh
  rw [← eo] at hos
  have hlife : s3.heap.life = s.heap.life := (runN_life _ _ _ hn).trans hal.2.2.2
  refine ⟨vs, s₁, hlaid, n, _, s3, hs, ?_, (fun _ i x hx => by rw [hgens] at hx; simp at hx), (fun q => nomatch q), by rw [hlife], Shared.rest_eq hos⟩
  rcases hcase with ⟨v, rfl, d1, d2, d3, d4, d5⟩ | ⟨e, ob, cls, rfl, d1, d2, d3, d4, d5⟩
  · exact .inl ⟨v, rfl, d1, d2, d3, fun b o y _ => d4 b o y, d5⟩
  · exact .inr ⟨e, ob, cls, rfl, d1, d2, d3, d4, fun b o y _ => d5 b o y⟩
end M9
end
section
open PySem PySem.W PySem.Calls PyProof.Rows PySem.Spec
namespace M9
theorem items_int {R : WRecords} : ∀ {xs : List WData}, WShape.hasItems R xs .int = true → ∀ d, d ∈ xs → ∃ i, d = .int i
  | [], _, d, h => by cases h
  | x :: xs, hx, d, h => by
    simp only [WShape.hasItems, Bool.and_eq_true] at hx
    rcases List.mem_cons.mp h with rfl | h
    · exact hasW_int hx.1
    · exact items_int hx.2 d h
theorem few_of {R : WRecords} {xs : List WData} (h : (WTm.and (.not (.lt (.lit (.int (63 : Nat))) (.len (.arg 0)))) (.lit (.bool true))).holds R { args := [.list xs] } = true) : xs.length ≤ 63 := by
  by_cases q : xs.length ≤ 63
  · exact q
  · exfalso
    have q : (63 : Int) < (xs.length : Int) := by omega
    have e : W.less? (.int 63) (.int (xs.length : Int)) = some true := by
      show some (decide ((63 : Int) < (xs.length : Int))) = some true
      rw [decide_eq_true q]
    simp [WTm.holds, WTm.value, e] at h
theorem lay_ints {R : WRecords} {cl : Str → Option Addr} {P : Params} {ord : List DictEntry → List DictEntry} : ∀ {xs : List WData} {s : Shared} {q : List Value × Shared}, (∀ d, d ∈ xs → ∃ i, d = .int i) → layAllW R cl P ord xs s = some q →
    q.2 = { s with toks := s.toks + xs.length } ∧ q.1.length = xs.length ∧ ∀ v, v ∈ q.1 → ∃ x t, v = .int x t
  | [], s, q, _, h => by
    have : q = ([], s) := by unfold layAllW at h; exact (Option.some.inj h).symm
    subst this
    exact ⟨rfl, rfl, fun v hv => by cases hv⟩
  | d :: xs, s, q, hi, h => by
    obtain ⟨i, rfl⟩ := hi d (.head _)
    obtain ⟨a, q', h1, h2, rfl⟩ := layAllW_cons h
    have : a = (.int i s.toks, { s with toks := s.toks + 1 }) := by unfold layW at h1; exact (Option.some.inj h1).symm
    subst this
    obtain ⟨e1, e2, e3⟩ := lay_ints (fun d hd => hi d (.tail _ hd)) h2
    refine ⟨?_, ?_, fun v hv => ?_⟩
    · show q'.2 = _
      rw [e1]
      show ({ s with toks := s.toks + 1 + xs.length } : Shared) = { s with toks := s.toks + (xs.length + 1) }
      rw [Nat.add_assoc, Nat.add_comm 1]
    · show q'.1.length + 1 = xs.length + 1
      rw [e2]
    · rcases List.mem_cons.mp hv with rfl | hv
      · exact ⟨i, _, rfl⟩
      · exact e3 v hv
noncomputable def aliveB : Nat → BT → Bool
  | 0, _ => true
  | n + 1, t => match t.get n with
    | some o => match o.isFreed with
      | true => false
      | false => aliveB n t
    | none => aliveB n t
theorem aliveB_ok {t : BT} : ∀ {n : Nat}, aliveB n t = true → ∀ a o, a < n → t.get a = some o → o.isFreed = false
  | 0, _, a, o, ha, _ => absurd ha (Nat.not_lt_zero _)
  | n + 1, h, a, o, ha, g => by
    unfold aliveB at h
    split at h
    · rename_i o' hg
      split at h
      · cases h
      · rename_i hf
        by_cases q : a = n
        · subst q; rw [hg] at g; cases g; exact hf
        · exact aliveB_ok h a o (by omega) g
    · rename_i hg
      by_cases q : a = n
      · subst q; rw [hg] at g; cases g
      · exact aliveB_ok h a o (by omega) g
theorem t25_alive (w : World) : (fun P => aliveB (nat_lit 1338) (T25 tw P)) w.params = (fun _ => true) w.params := by kernel_rfl
theorem t25_code (w : World) : ([(nat_lit 1296), (nat_lit 1303), (nat_lit 1310), (nat_lit 1315), (nat_lit 1336)].map fun a => (T25 tw w.params).get a) = [some o1296, some o1303, some o1310, some o1315, some o1336] := by kernel_rfl
theorem alive_of {o : Obj} (h : o.isFreed = false) : alive o = some o := by
  obtain ⟨c, d, dt, sl⟩ := o
  cases dt <;> first | rfl | (cases h; done)
theorem law_name (w : World) : (absHeap (T25 tw w.params) 1338 {}).nsMap mainGlobals (Str.ofString "law") = some (.ref 1337) := by kernel_rfl
end M9
end
section
open PySem PySem.W PySem.Calls PyProof.Rows
set_option maxHeartbeats 0
namespace M9
theorem left10 : LeftO PySem.Challenge.pw_pq0909_01 (q9 PySem.Challenge.pw_pq0909_01) loose9 (fun s => xlAt (q9 PySem.Challenge.pw_pq0909_01) [] s && recOk [] s) (fun s => (s.heap, s.gens, s.toks)) (fun w => (absHeap (T25 tw w.params) 1338 {}, ⟨[]⟩, 1998)) 18550 :=
  Eq.mpr (congrArg (fun p => LeftO p (q9 p) loose9 (fun s => xlAt (q9 p) [] s && recOk [] s) (fun s => (s.heap, s.gens, s.toks)) (fun w => (absHeap (T25 tw w.params) 1338 {}, ⟨[]⟩, 1998)) 18550) tw_eq) left10p
theorem start_of {w : World} {s₀ s₁ : Shared} {args : List WData} {vs : List Value} {as : List Addr} (y : (s₀.heap, s₀.gens, s₀.toks) = (absHeap (T25 tw w.params) 1338 {}, ⟨[]⟩, 1998))
    (hpre : PySem.Challenge.rw_pq0909_01.row.claim.pre args = true) (L : Laid PySem.Challenge.rw_pq0909_01.row.records w s₀ s₁ args vs as) : vs = [.ref 1338] ∧ ∃ its, Start w its s₁ := by
  have y1 : s₀.heap = absHeap (T25 tw w.params) 1338 {} := congrArg Prod.fst y
  have y2 : s₀.gens = ⟨[]⟩ := congrArg (fun z => z.2.1) y
  have y3 : s₀.toks = 1998 := congrArg (fun z => z.2.2) y
  have hsz : s₀.heap.objs.size = 1338 := by
    rw [y1]
    show ((T25 tw w.params).list 1338).toArray.size = 1338
    simp [BT.list]
  obtain ⟨hsh, hlen⟩ := pre_splitW hpre
  obtain ⟨d, r, rfl, hd, hr⟩ := hasAllW_cons (show WShape.hasAll _ args [.list .int] = true from hsh)
  have := hasAllW_nil hr
  subst this
  obtain ⟨xs, rfl, hxs⟩ := hasW_list hd
  have hi := items_int hxs
  have hfew := few_of (show (WTm.and (.not (.lt (.lit (.int (63 : Nat))) (.len (.arg 0)))) (.lit (.bool true))).holds _ { args := [.list xs] } = true from hlen)
  obtain ⟨ord, hord, hl⟩ := L.laid
  obtain ⟨a, q, h1, h2, h3⟩ := layAllW_cons hl
  obtain ⟨q1, h4, h5⟩ := layW_list h1
  obtain ⟨e1, e2, e3⟩ := lay_ints hi h4
  have h6 : q = ([], a.2) := by unfold layAllW at h2; exact (Option.some.inj h2).symm
  have h7 : vs = a.1 :: q.1 := congrArg Prod.fst h3
  have h8 : s₁ = q.2 := congrArg Prod.snd h3
  subst h6
  subst h5
  dsimp only at h7 h8
  have hz : q1.2.heap.objs.size = 1338 := by rw [e1]; exact hsz
  rw [hz] at h7
  refine ⟨h7, q1.1.toArray, ?_⟩
  subst h8
  refine ⟨fun b o hb hg => ?_, ?_, ?_, fun i hi' => ?_, by simp [e2]; omega, ?_, L.gens⟩
  · have g1 : s₀.heap.get? b = some o := by
      rw [y1, abs_get hb hg]
      exact alive_of (aliveB_ok (t25_alive w) b o hb hg)
    exact L.keeps b o g1
  · show (q1.2.heap.push _).get? 1338 = _
    rw [← hz]
    exact Heap.get?_push_size _ rfl
  · show (q1.2.heap.push _).objs.size = 1339
    rw [Heap.size_push, hz]
  · have hm : q1.1.toArray[i] ∈ q1.1 := by simpa using List.getElem_mem (l := q1.1) (by simpa using hi')
    obtain ⟨x, t, hx⟩ := e3 _ hm
    exact ⟨x, t, by rw [Array.getElem?_eq_getElem hi', hx]⟩
  · show 1998 ≤ q1.2.toks
    rw [e1]
    show 1998 ≤ s₀.toks + xs.length
    omega
theorem oldK_of {w : World} {its : Array Value} {s s' : Shared} (S : Start w its s) (Q : EndR s s') : OldK s.heap s'.heap := by
  have tb := t25_tabs w
  have co := t25_code w
  simp only [List.map_cons, List.map_nil, List.cons.injEq, and_true] at tb co
  have key : ∀ b o, s.heap.get? b = some o → b ∉ tabs5 → s'.heap.get? b = some o := by
    intro b o e hb
    have hlt : b < 1339 := by have := Heap.lt_size e; rw [S.size] at this; exact this
    simp only [tabs5, List.mem_cons, List.not_mem_nil, or_false, not_or] at hb
    obtain ⟨b1, b2, b3, b4, b5⟩ := hb
    refine Q.keep b o ?_ b5 (Nat.ne_of_lt (Nat.lt_trans hlt (by decide))) e
    simp only [keysD, List.mem_cons, List.not_mem_nil, or_false, not_or]
    refine ⟨?_, b1, b2, b3, b4, ?_, ?_, ?_, ?_, ?_⟩ <;> (rintro rfl; revert hlt; decide)
  have tab : ∀ b c oc, b ∈ tabs5 → (T25 tw w.params).get b = some (nO []) → b < 1338 → c < 1338 → (T25 tw w.params).get c = some oc → (oc.cls = .type "code" ∧ ∃ vs, oc.data = .fields vs ∧ vs[11]? = some (.ref b)) →
      ∀ o, s.heap.get? b = some o → asItWas s.heap s'.heap b o ∧ ∃ o', s'.heap.get? b = some o' := by
    intro b c oc hb hg hb1 hc1 hgc hco o e
    have e2 := S.old b _ hb1 hg
    rw [e] at e2
    cases e2
    obtain ⟨l, hl⟩ := Q.tabs b hb
    obtain ⟨h1, vs, h2, h3⟩ := hco
    refine ⟨.inr (.inl ⟨⟨c, oc, vs, S.old c oc hc1 hgc, h1, h2, h3⟩, rfl, ⟨[]⟩, ⟨l⟩, rfl, ?_⟩), _, hl⟩
    rw [hl]
    simp [nO]
  have all : ∀ b o, s.heap.get? b = some o → asItWas s.heap s'.heap b o ∧ ∃ o', s'.heap.get? b = some o' := by
    intro b o e
    by_cases hb : b ∈ tabs5
    · have hb' := hb
      simp only [tabs5, List.mem_cons, List.not_mem_nil, or_false] at hb'
      rcases hb' with rfl | rfl | rfl | rfl | rfl
      · exact tab 1292 1296 o1296 hb tb.1 (by decide) (by decide) co.1 ⟨rfl, _, rfl, rfl⟩ o e
      · exact tab 1299 1303 o1303 hb tb.2.1 (by decide) (by decide) co.2.1 ⟨rfl, _, rfl, rfl⟩ o e
      · exact tab 1306 1310 o1310 hb tb.2.2.1 (by decide) (by decide) co.2.2.1 ⟨rfl, _, rfl, rfl⟩ o e
      · exact tab 1313 1315 o1315 hb tb.2.2.2.1 (by decide) (by decide) co.2.2.2.1 ⟨rfl, _, rfl, rfl⟩ o e
      · exact tab 1332 1336 o1336 hb tb.2.2.2.2 (by decide) (by decide) co.2.2.2.2 ⟨rfl, _, rfl, rfl⟩ o e
    · exact ⟨.inl (key b o e hb), o, key b o e hb⟩
  exact ⟨fun b o e => (all b o e).1, fun b o e => (all b o e).2⟩
theorem post_true {args : List WData} : PySem.Challenge.rw_pq0909_01.row.toRowW.claim.post args (.bool true) args = true := by
  show (WShape.has [] (.bool true) .bool && (WTm.eq .res (.lit (.bool true))).holds [] { args := args, res := some (.bool true), after := args }) = true
  simp [WShape.has, WShape.arms, WTm.holds, WTm.value, W.same]
theorem good_of {w : World} {s₀ s₁ : Shared} {args : List WData} {vs : List Value} {as : List Addr} (y : (s₀.heap, s₀.gens, s₀.toks) = (absHeap (T25 tw w.params) 1338 {}, ⟨[]⟩, 1998))
    (hpre : PySem.Challenge.rw_pq0909_01.row.claim.pre args = true) (L : Laid PySem.Challenge.rw_pq0909_01.row.records w s₀ s₁ args vs as) :
    ∃ f, s₀.heap.nsMap mainGlobals PySem.Challenge.rw_pq0909_01.row.name = some f ∧
      Sem.wp (model PySem.Challenge.rw_pq0909_01.row.prog w) callerC (PySem.call f vs) (fun v _ s' => GoodC9 PySem.Challenge.rw_pq0909_01.row.toRowW s₀ args s₁ (.ok (.ret v)) s')
        (fun e _ s' => GoodC9 PySem.Challenge.rw_pq0909_01.row.toRowW s₀ args s₁ (.error e) s') default s₁ := by
  have y1 : s₀.heap = absHeap (T25 tw w.params) 1338 {} := congrArg Prod.fst y
  obtain ⟨rfl, its, S⟩ := start_of y hpre L
  refine ⟨.ref 1337, by rw [y1]; exact law_name w, ?_⟩
  show Sem.wp (model PySem.Challenge.pw_pq0909_01 w) callerC (PySem.call (.ref 1337) [.ref 1338]) _ _ default s₁
  rw [tw_eq]
  show Sem.wp (model tw w) callerC (runValue (.call (.ref 1337) ⟨[.ref 1338], []⟩)) _ _ default s₁
  unfold runValue
  rw [Sem.wp_bind']
  obtain ⟨r, s', hr, rfl, Q⟩ := law_wp S
  refine ⟨_, s', hr, ?_⟩
  show GoodWG _ _ _ _ _ (.ok (.ret (.bool true))) s'
  exact ⟨.inl ⟨_, .bool true, [], rfl, fun _ => rfl, ReadsW.bool true, post_true, fun _ => ⟨List.nodup_nil, fun _ hm => nomatch hm⟩⟩, oldK_of S Q, Q.os, .of_eq Q.gens⟩
end M9
end
section
open PySem PySem.W PySem.Calls PyProof.Rows
set_option maxHeartbeats 0
theorem PySem.Challenge.cw_pq0909_01_holds : PySem.Challenge.rw_pq0909_01.Holds := by
  refine holds_law M9.said9 fun said => ?_
  refine ⟨said, M9.prom9, M9.open_c2 (q := M9.q9 PySem.Challenge.pw_pq0909_01) (loose := M9.loose9) (Xt := fun s => xlAt (M9.q9 PySem.Challenge.pw_pq0909_01) [] s && recOk [] s) (XP := XL (M9.q9 PySem.Challenge.pw_pq0909_01) []) (N := 18550) M9.left10 (fun s e => xl_of s (Bool.and_eq_true_iff.mp e).1) XL.keeps (fun s e => recFacts_of (Bool.and_eq_true_iff.mp e).2) M9.ok9 M9.bare_9 M9.prom9 ?pin ?hc⟩
  case pin =>
    intro w s hg G n hn
    obtain rfl : n = PySem.Challenge.rw_pq0909_01.row.name := by split at hn <;> simp_all
    exact pinned_of_view hg G (by rfl) (by rfl) (by rfl)
  case hc =>
    intro w s₀ s₁ y args vs as hpre hlay L
    exact M9.good_of y hpre L
end
