import PyProof.Rows.All
import Wide.All
import OpenK.AllK
import Wide.FinOn
import Wide.Once
import HandS.ForMost
import HandS.Exc
import HandS.TryOnly
import HandS.ExcOwn
import HandS.WordsExc
import HandS.TryMany
import HandS.SuiteRaise
import HandS.RaiseFrom
import HandS.Hot
import HandS.HotCalls
import HandS.ExcInit
import HandS.ExcInitHot
import HandS.ExcField
import HandS.ExcIs
import HandS.Star
import HandS.MethStar
import HandS.Property
import HandS.ClsMeth
import HandS.IsInst
import HandS.FStr
import HandS.More
import HandS.DictComp
import HandS.Lambda
import HandS.EndTab
import HandS.HeadWalk
import HandS.HeadHook1
import HandS.HeadHook2
import HandS.HeadHook3
import HandS.HeadHook4
import HandS.Head0
import HandS.Head1
import HandS.Head2
import HandS.Walk
import HandS.Evl
import HandS.Flow
import HandS.Small
import HandS.ListEq
import HandS.RaiseMore
import HandS.TupAny
import HandS.TupMul
import HandS.Wide
import HandS.Style
import HandS.Conv
import HandS.Codes
import HandS.Defaults
import PyProof.RulesMatch
import KE.KStateDown
import PyProof.ReprRoads
import KE.GoesEnum
import KE.GoesMore
import PyProof.NeKinds
import PyProof.ReprLen
import PyProof.Rows.TupDisplay
import HandS.ExcCtx
import HandS.HeadEnd
import PySem.Challenge.RW_echofold_k85_whole_deeds_taken_back

set_option Elab.async false
set_option linter.all false
set_option maxRecDepth 100000
set_option maxHeartbeats 4000000
namespace Ef
open PySem PySem.Spec PyProof.Rows L2 He
/-! ### the text by places -/
def top (i : Nat) : Stmt := PySem.Challenge.pw_echofold_k85_whole_deeds_taken_back.main.body.getD i (.Pass ⟨0, 0, 0, 0⟩)
abbrev s_is_integer : Stmt := top 7
abbrev s_is_list : Stmt := top 8
abbrev s_is_price : Stmt := top 9
abbrev s_InvalidEcho_init : Stmt := inClass (top 16) 0
abbrev s_InvalidWishes_init : Stmt := inClass (top 18) 0
abbrev s_InvalidPlace_init : Stmt := inClass (top 19) 0
abbrev s_InvalidNumber_init : Stmt := inClass (top 20) 0
abbrev s_InvalidDeed_init : Stmt := inClass (top 22) 0
abbrev s_NoEcho_init : Stmt := inClass (top 24) 0
abbrev s_TooLong_init : Stmt := inClass (top 25) 0
abbrev s_TooFar_init : Stmt := inClass (top 26) 0
abbrev s_NothingToUndo_init : Stmt := inClass (top 27) 0
abbrev s_NothingToRedo_init : Stmt := inClass (top 28) 0
abbrev s_are_rows : Stmt := top 32
abbrev s_need_letters : Stmt := top 33
abbrev s_Table_init : Stmt := inClass (top 36) 2
abbrev s_Table_rows : Stmt := inClass (top 36) 7
abbrev s_Table_letters : Stmt := inClass (top 36) 8
abbrev s_Table_text : Stmt := inClass (top 36) 9
abbrev s_is_echo : Stmt := top 39
abbrev s_need_echoes : Stmt := top 40
abbrev s_Song_init : Stmt := inClass (top 41) 2
abbrev s_Song_letters : Stmt := inClass (top 41) 4
abbrev s_Song_length : Stmt := inClass (top 41) 5
abbrev s_Song_is_near : Stmt := inClass (top 41) 8
abbrev s_Song_text : Stmt := inClass (top 41) 9
abbrev s_Song_with_length : Stmt := inClass (top 41) 10
abbrev s_Song_with_echo : Stmt := inClass (top 41) 11
abbrev s_Song_without_echo : Stmt := inClass (top 41) 12
abbrev s_need_song : Stmt := top 45
abbrev s_need_near : Stmt := top 46
abbrev s_is_place : Stmt := top 47
abbrev s_need_place : Stmt := top 48
abbrev s_are_prices : Stmt := top 49
abbrev s_is_deed : Stmt := top 52
abbrev s_with_wish : Stmt := top 53
abbrev s_without_wish : Stmt := top 54
abbrev s_lengthened : Stmt := top 55
abbrev s_state_after : Stmt := top 56
abbrev s_Book_init : Stmt := inClass (top 57) 0
abbrev s_Book_song : Stmt := inClass (top 57) 1
abbrev s_Book_wishes : Stmt := inClass (top 57) 2
abbrev s_Book_moment : Stmt := inClass (top 57) 3
abbrev s_Book_go_on : Stmt := inClass (top 57) 4
abbrev s_Book_do : Stmt := inClass (top 57) 5
abbrev s_Book_state_behind : Stmt := inClass (top 57) 6
abbrev s_Book_run : Stmt := inClass (top 57) 7
abbrev s_Book_undo : Stmt := inClass (top 57) 8
abbrev s_Book_redo : Stmt := inClass (top 57) 9
abbrev s_l_pen : Stmt := top 59
abbrev s_l_draw : Stmt := top 60
abbrev s_l_pick : Stmt := top 61
abbrev s_l_rows : Stmt := top 62
abbrev s_l_delays : Stmt := top 63
abbrev s_l_song : Stmt := top 64
abbrev s_l_long_song : Stmt := top 65
abbrev s_l_made : Stmt := top 66
abbrev s_l_is_integer : Stmt := top 67
abbrev s_l_odd : Stmt := top 68
abbrev s_l_are_wishes : Stmt := top 69
abbrev s_l_plain : Stmt := top 70
abbrev s_l_song_text : Stmt := top 71
abbrev s_l_table_text : Stmt := top 72
abbrev s_l_with_echoes : Stmt := top 73
abbrev s_l_behind : Stmt := top 74
abbrev s_l_lengthened : Stmt := top 75
abbrev s_l_refused : Stmt := top 76
abbrev s_l_prices : Stmt := top 77
abbrev s_l_deed : Stmt := top 78
abbrev s_l_odd_deed : Stmt := top 79
abbrev s_l_is_book : Stmt := top 80
abbrev s_l_moved : Stmt := top 81
abbrev s_l_run_right : Stmt := top 82
abbrev s_l_void_right : Stmt := top 83
abbrev s_law : Stmt := top 84
/-- the getter of a property -/
def pgt (K : PySem.W.Frag) (C : Addr) (m : Str) : Addr := match PySem.W.recIn K (ma K C m) "property" with
  | some (.ref g :: _) => g
  | _ => 0
end Ef

set_option Elab.async false
set_option linter.all false
set_option maxRecDepth 100000
set_option maxHeartbeats 4000000
namespace Ef
open PySem PySem.Spec PyProof.Rows L2 He
/-! ### a def at any address -/
structure Df where
  ad : PySem.W.Frag → Addr
  name : Str
  qual : Str
  st : Stmt
  dfl : List Dv := []
def fnA (K : PySem.W.Frag) (a : Addr) : He.FnW := match K.lookup a with
  | some ⟨_, _, .func fd, _⟩ => some (fd.name, fd.qualname, fd.params, fd.body, fd.scope, fd.globals, fd.closure, fd.builtins)
  | _ => none
def Df.val (d : Df) : He.FnW := some (d.name, d.qual, defArgs d.st, .stmts (defBody d.st), defScope d.st, mainGlobals, [], builtinsNs)
def Df.ok (K : PySem.W.Frag) (d : Df) : Bool := PySem.W.keepIn K (.ref (d.ad K)) && (match K.lookup (d.ad K) with
  | some ⟨_, _, .func fd, _⟩ => PySem.W.codeIn K fd.code d.qual && dflB K fd.defaults (d.dfl.map (Dv.v K))
  | _ => false)
theorem Df.funD {K : PySem.W.Frag} {d : Df} (e : fnA K (d.ad K) = d.val) (c : d.ok K = true) : ∃ fd, FunD K d.name d.qual (defArgs d.st) (defBody d.st) (defScope d.st) (d.dfl.map (Dv.v K)) [] (d.ad K) fd := by
  obtain ⟨kp, c2⟩ := ba c
  unfold fnA at e
  cases q : K.lookup (d.ad K) with
  | none =>
    rw [q] at c2
    cases c2
  | some o =>
    obtain ⟨oc, od, dt, osl⟩ := o
    rw [q] at c2 e
    cases dt with
    | func fd =>
      obtain ⟨n1, n2, n3, n4, n5, n6, n7, n8, n9, n10, n11, n12, n13, n14, n15⟩ := fd
      have e2 : (some (n1, n2, n3, n4, n5, n6, n7, n15) : He.FnW) = some (d.name, d.qual, defArgs d.st, .stmts (defBody d.st), defScope d.st, mainGlobals, [], builtinsNs) := e
      have e3 := Option.some.inj e2
      obtain ⟨h1, r1⟩ := Prod.mk.inj e3
      obtain ⟨h2, r2⟩ := Prod.mk.inj r1
      obtain ⟨h3, r3⟩ := Prod.mk.inj r2
      obtain ⟨h4, r4⟩ := Prod.mk.inj r3
      obtain ⟨h5, r5⟩ := Prod.mk.inj r4
      obtain ⟨h6, r6⟩ := Prod.mk.inj r5
      obtain ⟨h7, h8⟩ := Prod.mk.inj r6
      have c3 : (PySem.W.codeIn K n13 d.qual && dflB K n8 (d.dfl.map (Dv.v K))) = true := c2
      obtain ⟨k1, k2⟩ := ba c3
      refine ⟨_, ⟨oc, od, n8, n9, n10, n11, n12, n13, n14, osl, rfl, ?_, k1, dflB_ok k2, .inl rfl⟩, kp⟩
      rw [q]
      subst h1 h2 h6 h7 h8
      rw [h3, h4, h5] <;> rfl
    | _ => cases c2
/-! ### which part of the heap -/
def vals (o : Obj) : List Addr := match o.data with
  | .dict es _ => es.toList.flatMap fun e => refV e.val
  | .fields vs => vs.toList.flatMap refV
  | _ => []
def hangs (o : Obj) : List Addr := match o.data with
  | .func fd => refV fd.code ++ refV fd.defaults
  | .cls cd => [cd.ns]
  | _ => []
def dvals (o : Obj) : List Addr := match o.data with
  | .dict es _ => es.toList.flatMap fun e => refV e.val
  | _ => []
/-- a function's code, a property's getter -/
def parts (o : Obj) : List Addr := match o.cls with
  | .type "property" => (match o.data with
    | .fields vs => vs.toList.flatMap refV
    | _ => [])
  | _ => hangs o
def nextG (g : Addr → Option Obj) (f : Obj → List Addr) (as : List Addr) : List Addr := as.flatMap fun a => match g a with
  | some o => f o
  | none => []
def reach (g : Addr → Option Obj) : List Addr :=
  let l1 := nextG g vals [mainGlobals]
  let l2 := nextG g hangs l1
  let l3 := nextG g dvals l2
  let l4 := nextG g parts l3
  let l5 := nextG g parts l4
  mainGlobals :: (l1 ++ (l2 ++ (l3 ++ (l4 ++ l5))))
/-! ### the Hook -/
structure SaysP (fa : List Fa) (ds : List Df) (ts : List Tab) (tf : List Defn) (ex : PySem.W.Frag → Bool) (w : World) (h : Heap) (K : PySem.W.Frag) : Prop where
  fact : ∀ f ∈ fa, f.ok K = true
  defs : ∀ d ∈ ds, ∃ fd, FunD K d.name d.qual (defArgs d.st) (defBody d.st) (defScope d.st) (d.dfl.map (Dv.v K)) [] (d.ad K) fd
  tab : ∀ t ∈ ts, ∃ es n, KDict K w (t.1 K) es n
  more : ex K = true
  hd : ∀ p ∈ tf, PySem.W.codeHdIn K (cT K p).1 (cT K p).2 = true
  out : ∀ p ∈ tf, K.lookup (cT K p).2 = none
  empty : ∀ p ∈ tf, h.get? (cT K p).2 = some { cls := .none, data := .fields #[] }
abbrev AlP : Type := Bool × (List He.FnW × List (Option (List (Option (Str × Int)))))
def obsPK (fa : List Fa) (ds : List Df) (ts : List Tab) (tf : List Defn) (ex : PySem.W.Frag → Bool) (g : Addr → Option Obj) (K : PySem.W.Frag) : AlP :=
  ((fa.all fun f => f.ok K) && ((ds.all fun d => d.ok K) && (ex K && tabsB g tf K)), (ds.map fun d => fnA K (d.ad K), ts.map fun t => dicW K (t.1 K)))
def obsP (fa : List Fa) (ds : List Df) (ts : List Tab) (tf : List Defn) (ex : PySem.W.Frag → Bool) (g : Addr → Option Obj) : AlP := obsPK fa ds ts tf ex g (frT g (reach g))
def valP (ds : List Df) (ts : List Tab) (w : World) : AlP := (true, (ds.map Df.val, ts.map fun t => some (keysIn w.params t.2)))
theorem map_at {α β : Type} {f g : α → β} : ∀ {l : List α}, l.map f = l.map g → ∀ x ∈ l, f x = g x
  | [], _, _, h => by cases h
  | a :: r, e, x, h => by
    have e2 : f a :: r.map f = g a :: r.map g := e
    injection e2 with e3 e4
    rcases List.mem_cons.mp h with rfl | h
    · exact e3
    · exact map_at e4 x h
theorem saysP_of {fa : List Fa} {ds : List Df} {ts : List Tab} {tf : List Defn} {ex : PySem.W.Frag → Bool} {w : World} {h : Heap} {as : List Addr} (e : obsPK fa ds ts tf ex h.get? (frT h.get? as) = valP ds ts w) : SaysP fa ds ts tf ex w h (frT h.get? as) := by
  generalize hK : frT h.get? as = K at e
  have e1 := congrArg (fun z : AlP => z.1) e
  have e2 : ds.map (fun d => fnA K (d.ad K)) = ds.map Df.val := congrArg (fun z : AlP => z.2.1) e
  have e3 : (ts.map fun t => dicW K (t.1 K)) = ts.map fun t => some (keysIn w.params t.2) := congrArg (fun z : AlP => z.2.2) e
  obtain ⟨a1, e1⟩ := ba (show ((fa.all fun f => f.ok K) && ((ds.all fun d => d.ok K) && (ex K && tabsB h.get? tf K))) = true from e1)
  obtain ⟨a2, e1⟩ := ba e1
  obtain ⟨a3, a4⟩ := ba e1
  have key : ∀ p ∈ tf, PySem.W.codeHdIn K (cT K p).1 (cT K p).2 = true ∧ ∃ o, h.get? (cT K p).2 = some o ∧ emptyTab o = true := fun p hp => by
    obtain ⟨h3, h4⟩ := ba (List.all_eq_true.mp a4 p hp)
    refine ⟨h3, ?_⟩
    cases q : h.get? (cT K p).2 with
    | none =>
      rw [q] at h4
      cases h4
    | some o =>
      rw [q] at h4
      exact ⟨o, rfl, h4⟩
  refine ⟨fun f hf => List.all_eq_true.mp a1 f hf, fun d hd => Df.funD (map_at e2 d hd) (List.all_eq_true.mp a2 d hd), fun t ht => dicW_ok (map_at e3 t ht), a3, fun p hp => (key p hp).1, fun p hp => ?_, fun p hp => ?_⟩
  · obtain ⟨_, o, q, z⟩ := key p hp
    rw [← hK] at q ⊢
    exact frT_none q z
  · obtain ⟨_, o, q, z⟩ := key p hp
    rw [q, emptyTab_eq z]
def hookP (fa : List Fa) (ds : List Df) (ts : List Tab) (tf : List Defn) (ex : PySem.W.Frag → Bool) : PySem.W.Hook where
  α := AlP
  obs := fun s => obsP fa ds ts tf ex s.heap.get?
  val := fun w => valP ds ts w
  says := fun w h => ∃ K : PySem.W.Frag, K.In h ∧ SaysP fa ds ts tf ex w h K
  of := fun _ _ e => ⟨_, frT_in, saysP_of e⟩
  keeps := fun _ _ _ ⟨K, hK, c⟩ k => ⟨K, PySem.W.Frag.In.keeps hK k, ⟨c.fact, c.defs, c.tab, c.more, c.hd, c.out, fun p hp => k _ _ (c.empty p hp)⟩⟩
theorem obsP_eq {fa : List Fa} {ds : List Df} {ts : List Tab} {tf : List Defn} {ex : PySem.W.Frag → Bool} {g : Addr → Option Obj} {s : Shared} (h : ∀ a, g a = s.heap.get? a) : obsP fa ds ts tf ex g = (hookP fa ds ts tf ex).obs s := by
  have e : g = s.heap.get? := funext h
  rw [e] <;> rfl
/-! ### the Hook in two halves -/
def tt : PySem.W.Frag → Bool := fun _ => true
theorem obs_join {fa : List Fa} {ds : List Df} {ts : List Tab} {tf : List Defn} {ex : PySem.W.Frag → Bool} {g : Addr → Option Obj} {w : World} (h1 : obsP fa [] ts tf ex g = valP [] ts w) (h2 : obsP [] ds [] [] tt g = valP ds [] w) : obsP fa ds ts tf ex g = valP ds ts w := by
  unfold obsP at *
  generalize frT g (reach g) = K at *
  obtain ⟨a1, a2⟩ := ba (show ((fa.all fun f => f.ok K) && (true && (ex K && tabsB g tf K))) = true from congrArg (fun z : AlP => z.1) h1)
  have a3 := (ba a2).2
  have b1 : (ds.all fun d => d.ok K) = true := (ba (ba (show (true && ((ds.all fun d => d.ok K) && (tt K && tabsB g [] K))) = true from congrArg (fun z : AlP => z.1) h2)).2).1
  have b2 : ds.map (fun d => fnA K (d.ad K)) = ds.map Df.val := congrArg (fun z : AlP => z.2.1) h2
  have a4 : (ts.map fun t => dicW K (t.1 K)) = ts.map fun t => some (keysIn w.params t.2) := congrArg (fun z : AlP => z.2.2) h1
  show ((fa.all fun f => f.ok K) && ((ds.all fun d => d.ok K) && (ex K && tabsB g tf K)), (ds.map fun d => fnA K (d.ad K), ts.map fun t => dicW K (t.1 K))) = (true, (ds.map Df.val, ts.map fun t => some (keysIn w.params t.2)))
  rw [a1, b1, a3, b2, a4] <;> rfl
theorem map_join {σ α β γ : Type} {x : Option σ} {l : σ → α} {n : σ → β} {o1 o2 o : σ → γ} {a : α} {b : β} {v1 v2 v : γ} (h1 : x.map (fun s => (l s, n s, o1 s)) = some (a, b, v1)) (h2 : x.map (fun s => (l s, n s, o2 s)) = some (a, b, v2)) (h : ∀ s, o1 s = v1 → o2 s = v2 → o s = v) :
    x.map (fun s => (l s, n s, o s)) = some (a, b, v) := by
  cases x with
  | none => cases h1
  | some s =>
    have e1 : (l s, n s, o1 s) = (a, b, v1) := Option.some.inj h1
    have e2 : (l s, n s, o2 s) = (a, b, v2) := Option.some.inj h2
    have e3 : l s = a := congrArg (·.1) e1
    have e4 : n s = b := congrArg (·.2.1) e1
    have e5 := h s (congrArg (·.2.2) e1) (congrArg (·.2.2) e2)
    show some (l s, n s, o s) = some (a, b, v)
    rw [e3, e4, e5]
/-! ### facts of K by Bools -/
def propB (K : PySem.W.Frag) (q : Str × Str) : Bool := eqO (PySem.W.findIn K (.ref (ga K q.1)) q.2) (some (some (.ref (ma K (ga K q.1) q.2)))) && (eqO (PySem.W.specialIn K (.ref (ma K (ga K q.1) q.2)) "__get__") (some (some (.builtin "property.__get__"))) &&
  (decide (PySem.W.takesIn K (.ref (ma K (ga K q.1) q.2)) = some true) && (match PySem.W.recIn K (ma K (ga K q.1) q.2) "property" with
    | some (.ref _ :: _) => true
    | _ => false)))
def oxbB (K : PySem.W.Frag) (C : Addr) (newId : String) (bm : List Value) : Bool := (match K.lookup C with
  | some ⟨.type "type", _, .cls cd, sl⟩ => (match cd.mro, sl.toList with
    | .ref C' :: bm', [_, _, _, _, some (.builtin n), _] => decide (C' = C) && (decide (n = newId) && (!cd.hasDel && (cd.hasDict && decide (bm' = bm))))
    | _, _ => false)
  | _ => false) && (eqO (PySem.W.findIn K (.ref C) "__setattr__") (some (some (.builtin "object.__setattr__"))) && (decide (PySem.W.subIn K (.ref C) (.type "BaseException") = some true) && (decide (PySem.W.typeIn K (.ref C) = some (.type "type")) && PySem.W.keepIn K (.ref C))))
def xiB (K : PySem.W.Frag) (C : Addr) : Bool := eqO (PySem.W.findIn K (.ref C) "__init__") (some (some (.ref (ma K C "__init__")))) && decide (PySem.W.typeIn K (.ref (ma K C "__init__")) = some (.type "function"))
def binB (K : PySem.W.Frag) (T initId : String) : Bool := match PySem.W.findCls K (.type T) (.type "type") "__init__" with
  | some (.val (.builtin i)) => decide (i = initId)
  | _ => false
def insB (K : PySem.W.Frag) (C : Addr) : Bool := eqO (PySem.W.findIn K (.ref C) "__class__") (some (some (.builtin "object.__class__"))) && (eqO (PySem.W.specialIn K (.builtin "object.__class__") "__get__") (some (some (.builtin "getset_descriptor.__get__"))) &&
  (decide (PySem.W.takesIn K (.builtin "object.__class__") = some true) && decide (PySem.W.mroIn K C (.type "object") = some true)))
def kitB (K : PySem.W.Frag) : Bool := [("NoneType" : String), "bool", "int", "str", "list", "tuple", "dict"].all fun t => decide (PySem.W.kitOne K (.type t) (.ref (ga K "Table")) = some false)
end Ef

set_option Elab.async false
set_option linter.all false
set_option maxRecDepth 100000
set_option maxHeartbeats 4000000
namespace Ef
open PySem PySem.Spec PyProof.Rows L2 He
/-! ### the head's data -/
def f_is_integer : Df := ⟨fun K => (ga K "is_integer"), "is_integer", "is_integer", s_is_integer, [.non, .non]⟩
def f_is_list : Df := ⟨fun K => (ga K "is_list"), "is_list", "is_list", s_is_list, []⟩
def f_is_price : Df := ⟨fun K => (ga K "is_price"), "is_price", "is_price", s_is_price, []⟩
def f_InvalidEcho_init : Df := ⟨fun K => (ma K (ga K "InvalidEcho") "__init__"), "__init__", "InvalidEcho.__init__", s_InvalidEcho_init, []⟩
def f_InvalidWishes_init : Df := ⟨fun K => (ma K (ga K "InvalidWishes") "__init__"), "__init__", "InvalidWishes.__init__", s_InvalidWishes_init, []⟩
def f_InvalidPlace_init : Df := ⟨fun K => (ma K (ga K "InvalidPlace") "__init__"), "__init__", "InvalidPlace.__init__", s_InvalidPlace_init, []⟩
def f_InvalidNumber_init : Df := ⟨fun K => (ma K (ga K "InvalidNumber") "__init__"), "__init__", "InvalidNumber.__init__", s_InvalidNumber_init, []⟩
def f_InvalidDeed_init : Df := ⟨fun K => (ma K (ga K "InvalidDeed") "__init__"), "__init__", "InvalidDeed.__init__", s_InvalidDeed_init, []⟩
def f_NoEcho_init : Df := ⟨fun K => (ma K (ga K "NoEcho") "__init__"), "__init__", "NoEcho.__init__", s_NoEcho_init, []⟩
def f_TooLong_init : Df := ⟨fun K => (ma K (ga K "TooLong") "__init__"), "__init__", "TooLong.__init__", s_TooLong_init, []⟩
def f_TooFar_init : Df := ⟨fun K => (ma K (ga K "TooFar") "__init__"), "__init__", "TooFar.__init__", s_TooFar_init, []⟩
def f_NothingToUndo_init : Df := ⟨fun K => (ma K (ga K "NothingToUndo") "__init__"), "__init__", "NothingToUndo.__init__", s_NothingToUndo_init, []⟩
def f_NothingToRedo_init : Df := ⟨fun K => (ma K (ga K "NothingToRedo") "__init__"), "__init__", "NothingToRedo.__init__", s_NothingToRedo_init, []⟩
def f_are_rows : Df := ⟨fun K => (ga K "are_rows"), "are_rows", "are_rows", s_are_rows, []⟩
def f_need_letters : Df := ⟨fun K => (ga K "need_letters"), "need_letters", "need_letters", s_need_letters, []⟩
def f_Table_init : Df := ⟨fun K => (ma K (ga K "Table") "__init__"), "__init__", "Table.__init__", s_Table_init, []⟩
def f_Table_rows : Df := ⟨fun K => (pgt K (ga K "Table") "rows"), "rows", "Table.rows", s_Table_rows, []⟩
def f_Table_letters : Df := ⟨fun K => (pgt K (ga K "Table") "letters"), "letters", "Table.letters", s_Table_letters, []⟩
def f_Table_text : Df := ⟨fun K => (pgt K (ga K "Table") "text"), "text", "Table.text", s_Table_text, []⟩
def f_is_echo : Df := ⟨fun K => (ga K "is_echo"), "is_echo", "is_echo", s_is_echo, []⟩
def f_need_echoes : Df := ⟨fun K => (ga K "need_echoes"), "need_echoes", "need_echoes", s_need_echoes, []⟩
def f_Song_init : Df := ⟨fun K => (ma K (ga K "Song") "__init__"), "__init__", "Song.__init__", s_Song_init, []⟩
def f_Song_letters : Df := ⟨fun K => (pgt K (ga K "Song") "letters"), "letters", "Song.letters", s_Song_letters, []⟩
def f_Song_length : Df := ⟨fun K => (pgt K (ga K "Song") "length"), "length", "Song.length", s_Song_length, []⟩
def f_Song_is_near : Df := ⟨fun K => (pgt K (ga K "Song") "is_near"), "is_near", "Song.is_near", s_Song_is_near, []⟩
def f_Song_text : Df := ⟨fun K => (pgt K (ga K "Song") "text"), "text", "Song.text", s_Song_text, []⟩
def f_Song_with_length : Df := ⟨fun K => (ma K (ga K "Song") "with_length"), "with_length", "Song.with_length", s_Song_with_length, []⟩
def f_Song_with_echo : Df := ⟨fun K => (ma K (ga K "Song") "with_echo"), "with_echo", "Song.with_echo", s_Song_with_echo, []⟩
def f_Song_without_echo : Df := ⟨fun K => (ma K (ga K "Song") "without_echo"), "without_echo", "Song.without_echo", s_Song_without_echo, []⟩
def f_need_song : Df := ⟨fun K => (ga K "need_song"), "need_song", "need_song", s_need_song, []⟩
def f_need_near : Df := ⟨fun K => (ga K "need_near"), "need_near", "need_near", s_need_near, []⟩
def f_is_place : Df := ⟨fun K => (ga K "is_place"), "is_place", "is_place", s_is_place, []⟩
def f_need_place : Df := ⟨fun K => (ga K "need_place"), "need_place", "need_place", s_need_place, []⟩
def f_are_prices : Df := ⟨fun K => (ga K "are_prices"), "are_prices", "are_prices", s_are_prices, []⟩
def f_is_deed : Df := ⟨fun K => (ga K "is_deed"), "is_deed", "is_deed", s_is_deed, []⟩
def f_with_wish : Df := ⟨fun K => (ga K "with_wish"), "with_wish", "with_wish", s_with_wish, []⟩
def f_without_wish : Df := ⟨fun K => (ga K "without_wish"), "without_wish", "without_wish", s_without_wish, []⟩
def f_lengthened : Df := ⟨fun K => (ga K "lengthened"), "lengthened", "lengthened", s_lengthened, []⟩
def f_state_after : Df := ⟨fun K => (ga K "state_after"), "state_after", "state_after", s_state_after, []⟩
def f_Book_init : Df := ⟨fun K => (ma K (ga K "Book") "__init__"), "__init__", "Book.__init__", s_Book_init, []⟩
def f_Book_song : Df := ⟨fun K => (pgt K (ga K "Book") "song"), "song", "Book.song", s_Book_song, []⟩
def f_Book_wishes : Df := ⟨fun K => (pgt K (ga K "Book") "wishes"), "wishes", "Book.wishes", s_Book_wishes, []⟩
def f_Book_moment : Df := ⟨fun K => (pgt K (ga K "Book") "moment"), "moment", "Book.moment", s_Book_moment, []⟩
def f_Book_go_on : Df := ⟨fun K => (ma K (ga K "Book") "go_on"), "go_on", "Book.go_on", s_Book_go_on, []⟩
def f_Book_do : Df := ⟨fun K => (ma K (ga K "Book") "do"), "do", "Book.do", s_Book_do, []⟩
def f_Book_state_behind : Df := ⟨fun K => (ma K (ga K "Book") "state_behind"), "state_behind", "Book.state_behind", s_Book_state_behind, []⟩
def f_Book_run : Df := ⟨fun K => (ma K (ga K "Book") "run"), "run", "Book.run", s_Book_run, []⟩
def f_Book_undo : Df := ⟨fun K => (ma K (ga K "Book") "undo"), "undo", "Book.undo", s_Book_undo, []⟩
def f_Book_redo : Df := ⟨fun K => (ma K (ga K "Book") "redo"), "redo", "Book.redo", s_Book_redo, []⟩
def f_l_pen : Df := ⟨fun K => (ga K "_law_pen"), "_law_pen", "_law_pen", s_l_pen, []⟩
def f_l_draw : Df := ⟨fun K => (ga K "_law_draw"), "_law_draw", "_law_draw", s_l_draw, []⟩
def f_l_pick : Df := ⟨fun K => (ga K "_law_pick"), "_law_pick", "_law_pick", s_l_pick, []⟩
def f_l_rows : Df := ⟨fun K => (ga K "_law_rows"), "_law_rows", "_law_rows", s_l_rows, []⟩
def f_l_delays : Df := ⟨fun K => (ga K "_law_delays"), "_law_delays", "_law_delays", s_l_delays, []⟩
def f_l_song : Df := ⟨fun K => (ga K "_law_song"), "_law_song", "_law_song", s_l_song, []⟩
def f_l_long_song : Df := ⟨fun K => (ga K "_law_long_song"), "_law_long_song", "_law_long_song", s_l_long_song, []⟩
def f_l_made : Df := ⟨fun K => (ga K "_law_made"), "_law_made", "_law_made", s_l_made, []⟩
def f_l_is_integer : Df := ⟨fun K => (ga K "_law_is_integer"), "_law_is_integer", "_law_is_integer", s_l_is_integer, []⟩
def f_l_odd : Df := ⟨fun K => (ga K "_law_odd"), "_law_odd", "_law_odd", s_l_odd, []⟩
def f_l_are_wishes : Df := ⟨fun K => (ga K "_law_are_wishes"), "_law_are_wishes", "_law_are_wishes", s_l_are_wishes, []⟩
def f_l_plain : Df := ⟨fun K => (ga K "_law_plain"), "_law_plain", "_law_plain", s_l_plain, []⟩
def f_l_song_text : Df := ⟨fun K => (ga K "_law_song_text"), "_law_song_text", "_law_song_text", s_l_song_text, []⟩
def f_l_table_text : Df := ⟨fun K => (ga K "_law_table_text"), "_law_table_text", "_law_table_text", s_l_table_text, []⟩
def f_l_with_echoes : Df := ⟨fun K => (ga K "_law_with_echoes"), "_law_with_echoes", "_law_with_echoes", s_l_with_echoes, []⟩
def f_l_behind : Df := ⟨fun K => (ga K "_law_behind"), "_law_behind", "_law_behind", s_l_behind, []⟩
def f_l_lengthened : Df := ⟨fun K => (ga K "_law_lengthened"), "_law_lengthened", "_law_lengthened", s_l_lengthened, []⟩
def f_l_refused : Df := ⟨fun K => (ga K "_law_refused"), "_law_refused", "_law_refused", s_l_refused, []⟩
def f_l_prices : Df := ⟨fun K => (ga K "_law_prices"), "_law_prices", "_law_prices", s_l_prices, []⟩
def f_l_deed : Df := ⟨fun K => (ga K "_law_deed"), "_law_deed", "_law_deed", s_l_deed, []⟩
def f_l_odd_deed : Df := ⟨fun K => (ga K "_law_odd_deed"), "_law_odd_deed", "_law_odd_deed", s_l_odd_deed, []⟩
def f_l_is_book : Df := ⟨fun K => (ga K "_law_is_book"), "_law_is_book", "_law_is_book", s_l_is_book, []⟩
def f_l_moved : Df := ⟨fun K => (ga K "_law_moved"), "_law_moved", "_law_moved", s_l_moved, []⟩
def f_l_run_right : Df := ⟨fun K => (ga K "_law_run_right"), "_law_run_right", "_law_run_right", s_l_run_right, []⟩
def f_l_void_right : Df := ⟨fun K => (ga K "_law_void_right"), "_law_void_right", "_law_void_right", s_l_void_right, []⟩
def f_law : Df := ⟨fun K => (ga K "law"), "law", "law", s_law, []⟩
def dfs : List Df := [f_is_integer, f_is_list, f_is_price, f_InvalidEcho_init, f_InvalidWishes_init, f_InvalidPlace_init, f_InvalidNumber_init, f_InvalidDeed_init, f_NoEcho_init, f_TooLong_init, f_TooFar_init, f_NothingToUndo_init, f_NothingToRedo_init, f_are_rows, f_need_letters, f_Table_init, f_Table_rows, f_Table_letters, f_Table_text, f_is_echo, f_need_echoes, f_Song_init, f_Song_letters, f_Song_length, f_Song_is_near, f_Song_text, f_Song_with_length, f_Song_with_echo, f_Song_without_echo, f_need_song, f_need_near, f_is_place, f_need_place, f_are_prices, f_is_deed, f_with_wish, f_without_wish, f_lengthened, f_state_after, f_Book_init, f_Book_song, f_Book_wishes, f_Book_moment, f_Book_go_on, f_Book_do, f_Book_state_behind, f_Book_run, f_Book_undo, f_Book_redo, f_l_pen, f_l_draw, f_l_pick, f_l_rows, f_l_delays, f_l_song, f_l_long_song, f_l_made, f_l_is_integer, f_l_odd, f_l_are_wishes, f_l_plain, f_l_song_text, f_l_table_text, f_l_with_echoes, f_l_behind, f_l_lengthened, f_l_refused, f_l_prices, f_l_deed, f_l_odd_deed, f_l_is_book, f_l_moved, f_l_run_right, f_l_void_right, f_law]
def fas : List Fa := [.glo "is_integer", .glo "is_list", .glo "is_price", .glo "are_rows", .glo "need_letters", .glo "is_echo", .glo "need_echoes", .meth "Song" "with_length", .meth "Song" "with_echo", .meth "Song" "without_echo", .glo "need_song", .glo "need_near", .glo "is_place", .glo "need_place", .glo "are_prices", .glo "is_deed", .glo "with_wish", .glo "without_wish", .glo "lengthened", .glo "state_after", .meth "Book" "go_on", .meth "Book" "do", .meth "Book" "state_behind", .meth "Book" "run", .meth "Book" "undo", .meth "Book" "redo", .glo "_law_pen", .glo "_law_draw", .glo "_law_pick", .glo "_law_rows", .glo "_law_delays", .glo "_law_song", .glo "_law_long_song", .glo "_law_made", .glo "_law_is_integer", .glo "_law_odd", .glo "_law_are_wishes", .glo "_law_plain", .glo "_law_song_text", .glo "_law_table_text", .glo "_law_with_echoes", .glo "_law_behind", .glo "_law_lengthened", .glo "_law_refused", .glo "_law_prices", .glo "_law_deed", .glo "_law_odd_deed", .glo "_law_is_book", .glo "_law_moved", .glo "_law_run_right", .glo "_law_void_right", .glo "law", .cls "Table", .mkr "Table", .glo "Table", .cls "Song", .mkr "Song", .glo "Song", .cls "Book", .mkr "Book", .glo "Book", .noat "Table" "entries", .noat "Song" "alphabet", .noat "Song" "size", .noat "Song" "voices", .noat "Book" "state", .noat "Book" "past", .noat "Book" "later", .int "MAX_LETTERS" 5, .int "FARTHEST" 1000000000000000000000000000000, .int "GREATEST" 1000000000000000000000000000000, .int "MAX_ECHOES" 2, .str "BARRED" "-", .str "BETWEEN_ROWS" " / ", .free "isinstance", .free "len", .free "all", .free "sum", .free "tuple", .free "list", .free "int", .free "str", .free "bool", .free "dict", .free "sorted", .free "enumerate", .free "range", .free "abs", .free "max", .free "min", .free "repr", .free "ValueError", .free "IndexError", .free "OverflowError", .free "RuntimeError", .glo "InvalidEcho", .noat "InvalidEcho" "value", .glo "InvalidWishes", .noat "InvalidWishes" "value", .glo "InvalidPlace", .noat "InvalidPlace" "value", .glo "InvalidNumber", .noat "InvalidNumber" "value", .glo "NoEcho", .noat "NoEcho" "index", .glo "TooLong", .noat "TooLong" "limit", .glo "TooFar", .noat "TooFar" "limit", .glo "NothingToUndo", .glo "NothingToRedo", .glo "InvalidDeed", .noat "InvalidDeed" "index", .glo "THINGS"]
def bmValueError : List Value := [.type "ValueError", .type "Exception", .type "BaseException", .type "object"]
def bmIndexError : List Value := [.type "IndexError", .type "LookupError", .type "Exception", .type "BaseException", .type "object"]
def bmOverflowError : List Value := [.type "OverflowError", .type "ArithmeticError", .type "Exception", .type "BaseException", .type "object"]
def bmRuntimeError : List Value := [.type "RuntimeError", .type "Exception", .type "BaseException", .type "object"]
def props : List (Str × Str) := [("Table", "rows"), ("Table", "letters"), ("Table", "text"), ("Song", "letters"), ("Song", "length"), ("Song", "is_near"), ("Song", "text"), ("Book", "song"), ("Book", "wishes"), ("Book", "moment")]
def oxs : List (Str × String × List Value) := [("InvalidEcho", "ValueError.__new__", bmValueError), ("InvalidWishes", "ValueError.__new__", bmValueError), ("InvalidPlace", "ValueError.__new__", bmValueError), ("InvalidNumber", "ValueError.__new__", bmValueError), ("NoEcho", "IndexError.__new__", bmIndexError), ("TooLong", "OverflowError.__new__", bmOverflowError), ("TooFar", "OverflowError.__new__", bmOverflowError), ("NothingToUndo", "RuntimeError.__new__", bmRuntimeError), ("NothingToRedo", "RuntimeError.__new__", bmRuntimeError), ("InvalidDeed", "ValueError.__new__", bmValueError)]
def bins : List (String × String) := [("ValueError", "ValueError.__init__"), ("IndexError", "IndexError.__init__"), ("OverflowError", "OverflowError.__init__"), ("RuntimeError", "RuntimeError.__init__")]
def thingsL : List (Str × Dv) := [("wish", .int 2), ("free", .int 1), ("length", .int 1), ("echo", .int 2), ("drop", .int 1)]
def tabs : List Tab := [(fun K => ga K "THINGS", ["wish", "free", "length", "echo", "drop"])]
def xallH : List Str := ["InvalidPlace", "InvalidWishes", "InvalidNumber", "TooFar", "TooLong", "InvalidEcho", "NoEcho", "InvalidDeed", "NothingToUndo", "NothingToRedo"]
def tfs : List Defn := [("law", none), ("_law_run_right", none), ("_law_void_right", none)]
def exB (K : PySem.W.Frag) : Bool := props.all (propB K) && ((oxs.all fun q => oxbB K (ga K q.1) q.2.1 q.2.2 && xiB K (ga K q.1)) && ((bins.all fun q => binB K q.1 q.2) && (kitB K && (insB K (ga K "Table") && (insB K (ga K "Song") && (conB K "Song" "NEAR" (.int 40) && (valsB K (ga K "THINGS") thingsL &&
  ((xallH.all fun x => xallH.all fun y => decide (PySem.W.exmOne K (.ref (ga K x)) (.ref (ga K y)) = some (decide (x = y)))) && (decide (ga K "Table" ≠ ga K "Book") && (decide (ga K "Song" ≠ ga K "Book") && ((xallH.all fun x => xfB K (ga K x) && insB K (ga K x)) &&
  (([("NothingToUndo" : Str), "NothingToRedo"].all fun x => decide (PySem.W.kitOne K (.ref (ga K x)) (.type "RuntimeError") = some true)) && (decide (tabOf K (codeOf K ("law", none)) ≠ tabOf K (codeOf K ("_law_run_right", none))) && (decide (tabOf K (codeOf K ("law", none)) ≠ tabOf K (codeOf K ("_law_void_right", none))) && decide (tabOf K (codeOf K ("_law_run_right", none)) ≠ tabOf K (codeOf K ("_law_void_right", none)))))))))))))))))
end Ef

set_option Elab.async false
set_option linter.all false
set_option maxRecDepth 100000
set_option maxHeartbeats 0
namespace Ef
open PySem PySem.W PySem.Calls PyProof.Rows
/-! ### the head's run -/
abbrev Rr : OpenRow := OpenLaw.row PySem.Challenge.rw_echofold_k85_whole_deeds_taken_back
abbrev qv : Program := view Rr.prog [84]
def names0 : List PySem.Str := ["_wall", "MAX_LETTERS", "FARTHEST", "GREATEST", "MAX_DIGITS", "DIGITS", "is_integer", "is_list", "is_price", "sum_two", "is_less", "least_of", "number_in", "InvalidTable", "InvalidEcho", "InvalidSong", "InvalidWishes", "InvalidPlace", "InvalidNumber", "InvalidText", "InvalidDeed", "OtherLetters", "NoEcho", "TooLong", "TooFar", "NothingToUndo", "NothingToRedo", "BETWEEN_ROWS", "BARRED", "are_rows"]
def names1 : List PySem.Str := ["need_letters", "need_like", "price_in", "Table", "MAX_ECHOES", "is_echo", "need_echoes", "Song", "first_read", "next_read", "need_song", "need_near", "is_place", "need_place", "are_prices", "THINGS", "is_deed", "with_wish", "without_wish", "lengthened", "state_after", "Book", "_law_pen", "_law_draw", "_law_pick", "_law_rows", "_law_delays", "_law_song", "_law_long_song", "_law_made"]
def names2 : List PySem.Str := ["_law_is_integer", "_law_odd", "_law_are_wishes", "_law_plain", "_law_song_text", "_law_table_text", "_law_with_echoes", "_law_behind", "_law_lengthened", "_law_refused", "_law_prices", "_law_deed", "_law_odd_deed", "_law_is_book", "_law_moved", "_law_run_right", "_law_void_right"]
def names : List PySem.Str := names0 ++ names1 ++ names2
abbrev hkL : PySem.W.Hook := hookP fas dfs tabs tfs exB
def obL (s : PySem.W.SharedT) : AlP := obsP fas dfs tabs tfs exB (HandSHeadRun.getT s)
theorem obL_eq (s : PySem.W.SharedT) : obL s = hkL.obs s.abs := obsP_eq (HandSHeadRun.getT_eq s)
/-- the hooks of the two halves -/
abbrev hkA : PySem.W.Hook := hookP fas [] tabs tfs exB
abbrev hkB : PySem.W.Hook := hookP [] dfs [] [] tt
def obA (s : PySem.W.SharedT) : AlP := obsP fas [] tabs tfs exB (HandSHeadRun.getT s)
def obB (s : PySem.W.SharedT) : AlP := obsP [] dfs [] [] tt (HandSHeadRun.getT s)
theorem runA_f (w : World) : HandSHeadRun.RunEq Rr qv hkA obA 20000 names (w.withFollow "special-get-raises" false) := by
  intro os
  kernel_rfl
theorem runA_t (w : World) : HandSHeadRun.RunEq Rr qv hkA obA 20000 names (w.withFollow "special-get-raises" true) := by
  intro os
  kernel_rfl
theorem runB_f (w : World) : HandSHeadRun.RunEq Rr qv hkB obB 20000 names (w.withFollow "special-get-raises" false) := by
  intro os
  kernel_rfl
theorem runB_t (w : World) : HandSHeadRun.RunEq Rr qv hkB obB 20000 names (w.withFollow "special-get-raises" true) := by
  intro os
  kernel_rfl
abbrev RunA : World → Prop := HandSHeadRun.RunEq Rr qv hkA obA 20000 names
abbrev RunB : World → Prop := HandSHeadRun.RunEq Rr qv hkB obB 20000 names
theorem runA (w : World) : RunA w := byRow2 "special-get-raises" (P := RunA) runA_f runA_t w
theorem runB (w : World) : RunB w := byRow2 "special-get-raises" (P := RunB) runB_f runB_t w
theorem run_any (w : World) : HandSHeadRun.RunEq Rr qv hkL obL 20000 names w := fun os => map_join (runA w os) (runB w os) fun _ => obs_join
end Ef

set_option Elab.async false
set_option linter.all false
set_option maxRecDepth 100000
set_option maxHeartbeats 4000000
namespace Ef
open PySem PySem.Spec PyProof.Rows L2 He

/-! ### promises by the number of arguments -/
def sp1 (p : V → Hp → VK → XK → Prop) : Sp := fun vs H Q E => ∃ a, vs = [a] ∧ p a H Q E
def sp2 (p : V → V → Hp → VK → XK → Prop) : Sp := fun vs H Q E => ∃ a b, vs = [a, b] ∧ p a b H Q E
def sp3 (p : V → V → V → Hp → VK → XK → Prop) : Sp := fun vs H Q E => ∃ a b c, vs = [a, b, c] ∧ p a b c H Q E
def sp4 (p : V → V → V → V → Hp → VK → XK → Prop) : Sp := fun vs H Q E => ∃ a b c d, vs = [a, b, c, d] ∧ p a b c d H Q E
abbrev FnP (K : PySem.W.Frag) (x q : Str) (st : Stmt) (f : Addr) (fd : FuncData) : Prop := FunD K x q (defArgs st) (defBody st) (defScope st) [] [] f fd
/-- a def that can be called: by its name -/
structure Clb (P : Program) (w : World) (K : PySem.W.Frag) (mg : Str → Option Value) (base : Heap) (CX : CXT) (k : Nat) (x : Str) (sp : Sp) : Prop where
  ex : ∃ f, FnR P w K mg base CX k f sp ∧ mg x = some (.ref f) ∧ PySem.W.keepIn K (.ref f) = true
section
variable {P : Program} {w : World} {K : PySem.W.Frag} {mg : Str → Option Value} {base : Heap} {CX : CXT} {k : Nat} {x q : Str} {st : Stmt} {f : Addr} {fd : FuncData} {N ps : List Str} {sp : Sp}
/-- how the arguments bind where no default is: put «bnd» -/
def BindN (x q : Str) (st : Stmt) (ps : List Str) : Prop := ∀ (kV doc pm : Value) (an : Option Addr) (cdv ct : Value) (us : List Value), us.length = ps.length →
  bindArgs (PySem.W.fnOf x q (defArgs st) (defBody st) (defScope st) .none kV doc pm an cdv ct) ⟨us, []⟩ = pure (ps.zip us)
theorem raw_of (F : FnP K x q st f fd) (S : FnScope N ps (defScope st)) (hb : BindN x q st ps) (len : ∀ vs H Q E, sp vs H Q E → vs.length = ps.length)
    (body : ∀ (cdv : Value) (A : Around) (outer : List Env) (s : Shared) (H : Hp) (vs : List V) (Q : VK) (E : XK), Room k (A.deeper (envOfC q (defScope st) s.heap.objs.size f cdv)) → sp vs H Q E →
      ∃ t, PSs (cxOf CX P w K mg base N q (defScope st) f cdv A outer s H E) (defBody st) t ∧ t { nx := fun _ H' => Q .non H', rt := Q } (start N vs) H) : FnR P w K mg base CX (k + 1) f sp := by
  have G := FunD.ok (P := P) (w := w) (mg := mg) (base := base) (CX := CX) (k := k) (sp := sp) F S len body
  refine (G.raw (F.bindsN hb) .nil).imp fun vs H Q E h => ?_
  rw [List.append_nil]
  exact h
theorem len1 {p : V → Hp → VK → XK → Prop} {a : Str} : ∀ vs H Q E, sp1 p vs H Q E → vs.length = [a].length := by
  rintro vs H Q E ⟨_, rfl, _⟩
  rfl
theorem len2 {p : V → V → Hp → VK → XK → Prop} {a b : Str} : ∀ vs H Q E, sp2 p vs H Q E → vs.length = [a, b].length := by
  rintro vs H Q E ⟨_, _, rfl, _⟩
  rfl
theorem len3 {p : V → V → V → Hp → VK → XK → Prop} {a b c : Str} : ∀ vs H Q E, sp3 p vs H Q E → vs.length = [a, b, c].length := by
  rintro vs H Q E ⟨_, _, _, rfl, _⟩
  rfl
theorem len4 {p : V → V → V → V → Hp → VK → XK → Prop} {a b c d : Str} : ∀ vs H Q E, sp4 p vs H Q E → vs.length = [a, b, c, d].length := by
  rintro vs H Q E ⟨_, _, _, _, rfl, _⟩
  rfl
/-- the body's context, short -/
abbrev cxB (CX : CXT) (P : Program) (w : World) (K : PySem.W.Frag) (mg : Str → Option Value) (base : Heap) (N : List Str) (q : Str) (st : Stmt) (f : Addr) (cdv : Value) (A : Around) (outer : List Env) (s : Shared) (H : Hp) (E : XK) : Cx :=
  cxOf CX P w K mg base N q (defScope st) f cdv A outer s H E
theorem fn1 {a : Str} {p : V → Hp → VK → XK → Prop} (F : FnP K x q st f fd) (S : FnScope N [a] (defScope st)) (hb : BindN x q st [a])
    (body : ∀ (cdv : Value) (A : Around) (outer : List Env) (s : Shared) (H : Hp) (v : V) (Q : VK) (E : XK), Room k (A.deeper (envOfC q (defScope st) s.heap.objs.size f cdv)) → p v H Q E →
      ∃ t, PSs (cxB CX P w K mg base N q st f cdv A outer s H E) (defBody st) t ∧ t { nx := fun _ H' => Q .non H', rt := Q } (start N [v]) H) : FnR P w K mg base CX (k + 1) f (sp1 p) := by
  refine raw_of F S hb len1 fun cdv A outer s H vs Q E hr h => ?_
  obtain ⟨v, rfl, h⟩ := h
  exact body cdv A outer s H v Q E hr h
theorem fn2 {a b : Str} {p : V → V → Hp → VK → XK → Prop} (F : FnP K x q st f fd) (S : FnScope N [a, b] (defScope st)) (hb : BindN x q st [a, b])
    (body : ∀ (cdv : Value) (A : Around) (outer : List Env) (s : Shared) (H : Hp) (v u : V) (Q : VK) (E : XK), Room k (A.deeper (envOfC q (defScope st) s.heap.objs.size f cdv)) → p v u H Q E →
      ∃ t, PSs (cxB CX P w K mg base N q st f cdv A outer s H E) (defBody st) t ∧ t { nx := fun _ H' => Q .non H', rt := Q } (start N [v, u]) H) : FnR P w K mg base CX (k + 1) f (sp2 p) := by
  refine raw_of F S hb len2 fun cdv A outer s H vs Q E hr h => ?_
  obtain ⟨v, u, rfl, h⟩ := h
  exact body cdv A outer s H v u Q E hr h
theorem fn3 {a b c : Str} {p : V → V → V → Hp → VK → XK → Prop} (F : FnP K x q st f fd) (S : FnScope N [a, b, c] (defScope st)) (hb : BindN x q st [a, b, c])
    (body : ∀ (cdv : Value) (A : Around) (outer : List Env) (s : Shared) (H : Hp) (v u y : V) (Q : VK) (E : XK), Room k (A.deeper (envOfC q (defScope st) s.heap.objs.size f cdv)) → p v u y H Q E →
      ∃ t, PSs (cxB CX P w K mg base N q st f cdv A outer s H E) (defBody st) t ∧ t { nx := fun _ H' => Q .non H', rt := Q } (start N [v, u, y]) H) : FnR P w K mg base CX (k + 1) f (sp3 p) := by
  refine raw_of F S hb len3 fun cdv A outer s H vs Q E hr h => ?_
  obtain ⟨v, u, y, rfl, h⟩ := h
  exact body cdv A outer s H v u y Q E hr h
theorem fn4 {a b c d : Str} {p : V → V → V → V → Hp → VK → XK → Prop} (F : FnP K x q st f fd) (S : FnScope N [a, b, c, d] (defScope st)) (hb : BindN x q st [a, b, c, d])
    (body : ∀ (cdv : Value) (A : Around) (outer : List Env) (s : Shared) (H : Hp) (v u y z : V) (Q : VK) (E : XK), Room k (A.deeper (envOfC q (defScope st) s.heap.objs.size f cdv)) → p v u y z H Q E →
      ∃ t, PSs (cxB CX P w K mg base N q st f cdv A outer s H E) (defBody st) t ∧ t { nx := fun _ H' => Q .non H', rt := Q } (start N [v, u, y, z]) H) : FnR P w K mg base CX (k + 1) f (sp4 p) := by
  refine raw_of F S hb len4 fun cdv A outer s H vs Q E hr h => ?_
  obtain ⟨v, u, y, z, rfl, h⟩ := h
  exact body cdv A outer s H v u y z Q E hr h
theorem fnN1 {a : Str} {p : V → Hp → VK → XK → Prop} (F : FnP K x q st f fd) (S : FnScope N [a] (defScope st)) (hb : BindN x q st [a])
    (body : ∀ (cdv : Value) (A : Around) (outer : List Env) (s : Shared) (H : Hp) (v : V) (Q : VK) (E : XK), Room k (A.deeper (envOfC q (defScope st) s.heap.objs.size f cdv)) → p v H Q E →
      ∃ t, PSs (cxB CX P w K mg base N q st f cdv A outer s H E).nox (defBody st) t ∧ t { nx := fun _ H' => Q .non H', rt := Q } (start N [v]) H) : FnR P w K mg base CX (k + 1) f (sp1 p) :=
  fn1 F S hb fun cdv A outer s H v Q E hr h => by
    obtain ⟨t, ht, hq⟩ := body cdv A outer s H v Q E hr h
    exact ⟨t, ht.nox, hq⟩
theorem fnN2 {a b : Str} {p : V → V → Hp → VK → XK → Prop} (F : FnP K x q st f fd) (S : FnScope N [a, b] (defScope st)) (hb : BindN x q st [a, b])
    (body : ∀ (cdv : Value) (A : Around) (outer : List Env) (s : Shared) (H : Hp) (v u : V) (Q : VK) (E : XK), Room k (A.deeper (envOfC q (defScope st) s.heap.objs.size f cdv)) → p v u H Q E →
      ∃ t, PSs (cxB CX P w K mg base N q st f cdv A outer s H E).nox (defBody st) t ∧ t { nx := fun _ H' => Q .non H', rt := Q } (start N [v, u]) H) : FnR P w K mg base CX (k + 1) f (sp2 p) :=
  fn2 F S hb fun cdv A outer s H v u Q E hr h => by
    obtain ⟨t, ht, hq⟩ := body cdv A outer s H v u Q E hr h
    exact ⟨t, ht.nox, hq⟩
theorem fnN3 {a b c : Str} {p : V → V → V → Hp → VK → XK → Prop} (F : FnP K x q st f fd) (S : FnScope N [a, b, c] (defScope st)) (hb : BindN x q st [a, b, c])
    (body : ∀ (cdv : Value) (A : Around) (outer : List Env) (s : Shared) (H : Hp) (v u y : V) (Q : VK) (E : XK), Room k (A.deeper (envOfC q (defScope st) s.heap.objs.size f cdv)) → p v u y H Q E →
      ∃ t, PSs (cxB CX P w K mg base N q st f cdv A outer s H E).nox (defBody st) t ∧ t { nx := fun _ H' => Q .non H', rt := Q } (start N [v, u, y]) H) : FnR P w K mg base CX (k + 1) f (sp3 p) :=
  fn3 F S hb fun cdv A outer s H v u y Q E hr h => by
    obtain ⟨t, ht, hq⟩ := body cdv A outer s H v u y Q E hr h
    exact ⟨t, ht.nox, hq⟩
theorem fnN4 {a b c d : Str} {p : V → V → V → V → Hp → VK → XK → Prop} (F : FnP K x q st f fd) (S : FnScope N [a, b, c, d] (defScope st)) (hb : BindN x q st [a, b, c, d])
    (body : ∀ (cdv : Value) (A : Around) (outer : List Env) (s : Shared) (H : Hp) (v u y z : V) (Q : VK) (E : XK), Room k (A.deeper (envOfC q (defScope st) s.heap.objs.size f cdv)) → p v u y z H Q E →
      ∃ t, PSs (cxB CX P w K mg base N q st f cdv A outer s H E).nox (defBody st) t ∧ t { nx := fun _ H' => Q .non H', rt := Q } (start N [v, u, y, z]) H) : FnR P w K mg base CX (k + 1) f (sp4 p) :=
  fn4 F S hb fun cdv A outer s H v u y z Q E hr h => by
    obtain ⟨t, ht, hq⟩ := body cdv A outer s H v u y z Q E hr h
    exact ⟨t, ht.nox, hq⟩
/-- .. for getters and methods without arguments -/
theorem okN1 {a : Str} {p : V → Hp → VK → XK → Prop} (F : FnP K x q st f fd) (S : FnScope N [a] (defScope st))
    (body : ∀ (cdv : Value) (A : Around) (outer : List Env) (s : Shared) (H : Hp) (v : V) (Q : VK) (E : XK), Room k (A.deeper (envOfC q (defScope st) s.heap.objs.size f cdv)) → p v H Q E →
      ∃ t, PSs (cxB CX P w K mg base N q st f cdv A outer s H E).nox (defBody st) t ∧ t { nx := fun _ H' => Q .non H', rt := Q } (start N [v]) H) : FnOk P w K mg base CX (k + 1) f fd [a] (sp1 p) := by
  refine FunD.ok F S len1 fun cdv A outer s H vs Q E hr h => ?_
  obtain ⟨v, rfl, h⟩ := h
  obtain ⟨t, ht, hq⟩ := body cdv A outer s H v Q E hr h
  exact ⟨t, ht.nox, hq⟩
theorem Clb.of (g : mg x = some (.ref f)) (F : FunD K x q (defArgs st) (defBody st) (defScope st) [] [] f fd) (h : FnR P w K mg base CX k f sp) : Clb P w K mg base CX k x sp := ⟨⟨f, h, g, F.kp⟩⟩
end
/-! ### the call of such a def -/
def tF (sp : Sp) (E : XK) (t : TA) : TE := fun σ H Q => t σ H fun vs H1 => sp vs H1 Q E
section
variable {X : Cx} {CX : CXT} {k : Nat} {x : Str} {sp : Sp} {E : XK} {e : Expr} {es : List Expr} {t : TA} {p pos : Pos}
theorem pe_f (c : Clb X.prog X.w X.K X.mg X.base CX k x sp) (hr : Room k X.A) (hx : Passes CX X E) (ha : PA X (e :: es) t) (hg : Gl X x := by rfl) (hd : (x == ("__debug__" : Str)) = false := by decide)
    (he : starEach (e :: es) X.env = (false, eval e X.env) :: starEach es X.env := by rfl) (hpl : (backTo pos (starEach es X.env)).any (·.1) = false := by rfl) :
    PE X (.Call (.Name x p) (e :: es) [] pos) (tF sp E t) := by
  obtain ⟨f, F, hm, hk⟩ := c.ex
  refine ⟨fun pins s σ H Q I h => ?_⟩
  refine wpAny_Call_Name_kw (ld_glob I hg hm ?_ hd)
  exact PySem.W.callWith_K (h₀ := X.base) I.ok.mod.kin hk (thn (ha.run pos pins s σ H _ I h) fun us s1 ⟨vs, H1, I1, r, q⟩ => ⟨I1.kIn, wpAny_call (run_fnR F hr hx I1 r q)⟩) he hpl
end
/-! ### kinds of values -/
inductive Kd where
  | non | bl | int | str | lst | tup | dct | tab | song
  deriving DecidableEq
/-- {True: 0}: a dict that no HO tells -/
def oddD (a : Addr) : HO := .ext fun h => (a == sysModules) = false ∧ ∃ (es : Array DictEntry) (n : Nat), h.get? a = some ({ cls := .type "dict", data := .dict es n } : Obj) ∧ ∃ e : DictEntry, es.toList = [e] ∧ e.key = .bool true ∧ ∃ t, e.val = .int 0 t
def KdAt (K : PySem.W.Frag) (H : Hp) (v : V) : Kd → Prop
  | .non => v = .non
  | .bl => ∃ b, v = .bl b
  | .int => ∃ i, v = .int i
  | .str => ∃ x, v = .str x
  | .lst => ∃ a xs, v = .ref a ∧ H a = some (.lst xs)
  | .tup => ∃ a xs, v = .ref a ∧ H a = some (.tup xs)
  | .dct => ∃ a, v = .ref a ∧ ((∃ kvs, H a = some (.dK kvs)) ∨ (∃ kvs, H a = some (.dT kvs)) ∨ H a = some (oddD a))
  | .tab => ∃ a dx fs, v = .ref a ∧ H a = some (.ins (ga K "Table") dx fs)
  | .song => ∃ a dx fs, v = .ref a ∧ H a = some (.ins (ga K "Song") dx fs)
end Ef

set_option Elab.async false
set_option linter.all false
set_option maxRecDepth 100000
set_option maxHeartbeats 4000000
namespace Ef
open PySem PySem.Spec PyProof.Rows L2 He L2H HotX
/-! ### contexts in which nothing is handled, or an error whose context is None -/
def WarmC (X : Cx) : Prop := X.A.handled = none ∨ HotC X
section
variable {prog : Program} {w : World} {A : Around} {E : Value → Shared → Prop} {s : Shared}
/-- a tuple's iterator ends while an error is handled -/
theorem tupEnd_hot {it t x1 : Addr} {i : Nat} {items : Array Value} {Q : Option Value → Shared → Prop} (hot : HotAt A x1 s.heap) (hit : s.heap.IsTupleIter it t i) (ht : s.heap.IsTuple t items) (hx : items[i]? = none) (hne : x1 ≠ it)
    (fin : ∀ h', Heap.ExtBut it s.heap h' → Q none { s with heap := h' }) : wpAny (model prog w) A (pyNext (.ref it)) Q E s := by
  obtain ⟨hh, o1, vs1, h1, d1, c1⟩ := hot
  obtain ⟨o, ho, hc, hd⟩ := id hit
  obtain ⟨ol, hol, _, nl, hdl⟩ := ht
  unfold pyNext
  refine wpAny_bind (wpAny_attempt (wpAny_callSpecial?_slot (name := Str.ofString "__next__") hit.typeIs F.slot_tuple_iterator_next (wpAny_call_entry F.slot_tuple_iterator_next hit.typeIs F.entry_tuple_iterator_next ?_ (F.args_tuple_iterator_next_1 _))))
  show wpAny _ _ (field (.ref it) 0 >>= _) _ _ s
  refine wpAny_bind (wpAny_field ho hd (x := .ref t) rfl ?_)
  show wpAny _ _ (if (Value.ref t == Value.none) = true then _ else _) _ _ s
  rw [if_neg (show ¬ ((Value.ref t == Value.none) = true) from Bool.false_ne_true)]
  show wpAny _ _ (field (.ref it) 1 >>= _) _ _ s
  refine wpAny_bind (wpAny_field ho hd (x := .int i 0) rfl ?_)
  show wpAny _ _ (seqItems? (.ref t) >>= _) _ _ s
  refine wpAny_bind (wpAny_seqItems hol hdl ?_)
  simp only [Int.toNat_natCast, hx]
  refine wpAny_bind (wpAny_rule (wpAny_bind (wpAny_setField ho hd (by simp) ?_)))
  show wpAny _ _ (newExc (.type "StopIteration") [] >>= _) _ _ _
  refine wpAny_bind ?_
  simp only [newExc, newTuple]
  refine wpAny_bind (wpAny_newObj_type ?_ (by size_fits))
  refine wpAny_bind (m := firstArgMember _ _) (wpAny_of_eq (a := Value.none) (by first | rfl | (simp only [firstArgMember]; rfl)) ?_)
  refine wpAny_newObj_type ?_ (by size_fits)
  have k1 := Heap.get?_update_other s.heap (Obj.mapFields (·.setIfInBounds 0 Value.none)) hne.symm
  have g1 := Heap.get?_push_of_some ({ cls := .type "tuple", data := .seq ([] : List Value).toArray } : Obj) (k1.trans h1)
  refine raiseNew_hot ⟨hh, o1, vs1, Heap.get?_push_of_some _ g1, d1, c1⟩ (Nat.ne_of_lt (Heap.lt_size g1)) (Heap.get?_push_size _ rfl) rfl (by first | (simp; done) | (simp; omega) | (simp only [Array.size_append]; simp; omega)) ?_
  refine wpAny_bind (wpAny_isInstance (T := "StopIteration") (b := true) ⟨_, Heap.get?_update_self _ (Heap.get?_push_size _ rfl) rfl, rfl⟩ isSubtype_stop ?_)
  refine wpAny_pure (fin _ fun b u hb e => ?_)
  have e1 := Heap.get?_push_of_some ({ cls := .type "tuple", data := .seq ([] : List Value).toArray } : Obj) ((Heap.get?_update_other s.heap (Obj.mapFields (·.setIfInBounds 0 Value.none)) (Ne.symm hb)).trans e)
  rw [Heap.get?_update_other _ _ (Nat.ne_of_gt (Heap.lt_size e1))]
  exact Heap.get?_push_of_some _ e1
end
/-- the context of a comprehension's block, what is handled known in it -/
abbrev blkP (X : Cx) (s : Shared) (H : Hp) (scope : Scope) (cenv : Env) (fp : List Addr) : Cx := { X.blk s H scope cenv fp with pn := X.pn }
theorem blkP_start {X : Cx} {pins : List (Addr × Obj)} {σ : L2.St} {H : Hp} {s : Shared} {scope : Scope} {own : List (Str × Nat)} {fp : List Addr} (I : Inv X pins σ H s) (ok : BlkOk X.N X.env.scope scope own) (hN : X.N.Nodup) (hfp : ∀ b ∈ fp, FpOk X pins H b ∧ b < s.heap.objs.size) :
    Inv (blkP X s H scope (compEnvC scope (cellsFrom (s.heap.objs.size + 1) scope.names (cloFrom X.env.cells scope.names [])) s.heap.objs.size X.env) fp) [] (wipe σ (own.map (·.2))) H { s with heap := pushCells (s.heap.push { cls := .type "dict", data := .dict #[] }) scope.names } := by
  have J := block_start I ok hN hfp
  have k := J.ok
  refine ⟨⟨k.mod, k.kind, k.glob, k.blt, k.above, k.inj, k.has, k.cab, k.hd, k.frames, k.stk, k.exf, k.bs, k.bsz, k.noex, k.exfs, k.funs, k.frf⟩, J.os, J.bare, J.base, J.loc, J.cell, J.free, J.freeC, fun p hp => ?_, J.hok, J.len⟩
  have hp : p ∈ X.pn := by simpa using hp
  obtain ⟨p1, p2, p3, p4, p5⟩ := I.pin p (List.mem_append_left _ hp)
  exact ⟨pushCells_keeps _ _ _ _ (Heap.get?_push_of_some _ p1), p2, Nat.ne_of_lt (Heap.lt_size p1), fun hm => (List.mem_cons.mp (I.stkSub p.1 hm)).elim p3 p4, p5⟩
theorem WarmC.blk {X : Cx} (c : WarmC X) {s : Shared} {H : Hp} {scope : Scope} {cenv : Env} {fp : List Addr} : WarmC (blkP X s H scope cenv fp) := c
end Ef

set_option Elab.async false
set_option linter.all false
set_option maxRecDepth 100000
set_option maxHeartbeats 4000000
namespace Ef
open PySem PySem.Spec PyProof.Rows L2 He L2H HotX
/-! ### [elt for y in iter] in a warm context, iter a tuple that stands still -/
def tLcT (iy : Nat) (ti te : TE) : TE := fun σ H Q => ti σ H fun v H1 => ∃ (a : Addr) (xs : List V), v = .ref a ∧ H1 a = some (.tup xs) ∧ ∀ D, H1 D = none → ∃ Pv : Nat → Hp → Prop, Pv 0 (upd H1 D (.lst [])) ∧ (∀ i H, Pv i H → H a = some (.tup xs)) ∧
  (∀ i x H, xs[i]? = some x → Pv i H → te ((wipe σ [iy]).set iy (some x)) H fun y H4 => ∃ acc, H4 D = some (.lst acc) ∧ acc.length < sizeLine ∧ Pv (i + 1) (upd H4 D (.lst (acc ++ [y])))) ∧ ∀ H, Pv xs.length H → Q (.ref D) H
theorem pe_lcT {X : Cx} {elt iter : Expr} {y : Str} {py pos : Pos} {scope : Scope} {iy : Nat} {ti te : TE} (wc : WarmC X) (hN : X.N.Nodup) (hi : PE X iter ti) (ok : BlkOk X.N X.env.scope scope [(y, iy)])
    (hg : ∀ (s : Shared) (H : Hp) (C : Addr) (cl : List (Str × Addr)) (fp : List Addr), PG (blkP X s H scope (compEnvC scope cl C X.env) fp) (.Name y py) (gName iy))
    (he : ∀ (s : Shared) (H : Hp) (C : Addr) (cl : List (Str × Addr)) (fp : List Addr), PE (blkP X s H scope (compEnvC scope cl C X.env) fp) elt te) (hs : ∀ x, foldedSetIterable iter X.env x = pure x := by intro _; rfl) :
    PE X (.ListComp elt [⟨.Name y py, iter, [], 0⟩] scope pos) (tLcT iy ti te) := by
  refine ⟨fun pins s σ H Q I h => ?_⟩
  rw [eval_ListComp]
  have cap : ∀ z ∈ scope.names, z.2 = .free → ∃ c, X.env.cells.lookup z.1 = some c := fun z hz e => (ok.free z hz e).elim (fun k => I.ok.has _ (.inl k)) fun k => I.ok.has _ (.inr k)
  refine wpAny_comprehension_free (use := none) rfl hs (closure_ok cap) ok.kind (fun z hz e => by rw [ok.uniq z hz, e]) (thn (hi.run pins s σ H _ I h) fun xv s1 hx => ?_)
  obtain ⟨v, H1, I1, r1, a, xs, ev, ha, rest⟩ := hx
  subst ev
  obtain rfl : xv = Value.ref a := r1
  obtain ⟨its, rv, p, hz⟩ := I1.tuple (SqT.of ha)
  refine wpAny_pyIter_tuple (show s1.heap.IsTuple a its.toArray from p) ?_
  have J2 : Inv X pins σ H1 { s1 with heap := s1.heap.push { cls := .type "tuple_iterator", data := .fields #[.ref a, .int 0 0] } } := I1.kept (t' := s1.toks) fun b o e => Heap.get?_push_of_some _ e
  have t2 : (s1.heap.push { cls := .type "tuple_iterator", data := .fields #[.ref a, .int 0 0] }).IsTupleIter s1.heap.objs.size a 0 := ⟨_, Heap.get?_push_size _ rfl, rfl, rfl⟩
  have fr : FpOk X pins H1 s1.heap.objs.size := I1.fpOk (Nat.le_refl _) (I1.hok.fresh (Nat.le_refl _))
  generalize e2 : ({ s1 with heap := s1.heap.push { cls := .type "tuple_iterator", data := .fields #[.ref a, .int 0 0] } } : Shared) = s2 at J2
  replace t2 : s2.heap.IsTupleIter s1.heap.objs.size a 0 := by rw [← e2]; exact t2
  generalize s1.heap.objs.size = it at fr t2 ⊢
  have lit : it < s2.heap.objs.size := by
    obtain ⟨o, e, _⟩ := t2
    exact Heap.lt_size e
  refine wpAny_newObj_type (newEnv_comp ?_) (by show 0 ≤ sizeLine; decide)
  generalize eD : s2.heap.objs.size = D at lit
  have nD : H1 D = none := J2.hok.fresh (Nat.le_of_eq eD)
  obtain ⟨Pv, p0, stand, turn, done⟩ := rest D nD
  generalize e3 : ({ s2 with heap := s2.heap.push { cls := .type "list", data := .seq ([] : List Value).toArray } } : Shared) = s3
  have q3 : s3.heap = s2.heap.push { cls := .type "list", data := .seq ([] : List Value).toArray } := by rw [← e3]
  have J3 : Inv X pins σ (upd H1 D (.lst [])) s3 := by
    rw [← e3]
    refine J2.laid (t' := s2.toks) (fun b o e => Heap.get?_push_of_some _ e) (Nat.le_of_eq eD) ⟨Nat.zero_le _, [], 0, .nil, ?_⟩
    rw [← eD]
    exact Heap.get?_push_size _ rfl
  have fr3 : ∀ b ∈ [it], FpOk X pins (upd H1 D (.lst [])) b ∧ b < s3.heap.objs.size := fun b hb => by
    obtain rfl : b = it := by simpa using hb
    refine ⟨⟨?_, fr.2⟩, by rw [q3, Heap.size_push, eD]; exact Nat.lt_succ_of_lt lit⟩
    rw [upd_ne (Nat.ne_of_lt lit)]
    exact fr.1
  have t3 : s3.heap.IsTupleIter it a 0 := by
    obtain ⟨o, e, r⟩ := t2
    exact ⟨o, by rw [q3]; exact Heap.get?_push_of_some _ e, r⟩
  have J4 := blkP_start J3 ok hN fr3
  have pg := hg s3 (upd H1 D (.lst [])) s3.heap.objs.size (cellsFrom (s3.heap.objs.size + 1) scope.names (cloFrom X.env.cells scope.names [])) [it]
  have pe := he s3 (upd H1 D (.lst [])) s3.heap.objs.size (cellsFrom (s3.heap.objs.size + 1) scope.names (cloFrom X.env.cells scope.names [])) [it]
  show codeAny _ _ (.compStart (.ListComp elt [⟨.Name y py, iter, [], 0⟩] scope pos) 0 (.ref it) (.ref D) (compEnvC scope (cellsFrom (s3.heap.objs.size + 1) scope.names (cloFrom X.env.cells scope.names [])) s3.heap.objs.size X.env)) (compPost (model X.prog X.w) X.A X.xe none (EP X pins σ Q) (.ref D) s3.heap.objs.size) { s3 with heap := pushCells (s3.heap.push { cls := .type "dict", data := .dict #[] }) scope.names }
  generalize ec : compEnvC scope (cellsFrom (s3.heap.objs.size + 1) scope.names (cloFrom X.env.cells scope.names [])) s3.heap.objs.size X.env = ce at J4 pg pe ⊢
  have cL : ce.locals = s3.heap.objs.size := by subst ec; rfl
  have ni : (upd H1 D (.lst [])) it = none := (fr3 it (by simp)).1.1
  generalize e5 : upd H1 D (.lst []) = H3 at J3 J4 pg pe p0 ni fr3
  generalize e4 : ({ s3 with heap := pushCells (s3.heap.push { cls := .type "dict", data := .dict #[] }) scope.names } : Shared) = s4 at J4 ⊢
  have t4 : s4.heap.IsTupleIter it a 0 := by
    obtain ⟨o, e, r⟩ := t3
    exact ⟨o, by rw [← e4]; exact pushCells_keeps _ _ _ _ (Heap.get?_push_of_some _ e), r⟩
  have stat : ∀ {σ' : L2.St} {H' : Hp} {s' : Shared}, Inv (blkP X s3 H3 scope ce [it]) [] σ' H' s' → H' it = none → FpOk (blkP X s3 H3 scope ce [it]) [] H' it := fun {σ' H' s'} K hn => by
    have g := fr3 it (by simp)
    refine ⟨hn, (K.ok.exf it (by simp)).1, K.ok.exfs it (by simp), .inl (by simp), fun x c e => (K.ok.exf it (by simp)).2 x c e, fun q hq => ?_⟩
    have hq : q ∈ X.pn := by simpa using hq
    exact g.1.2.2.2.2.2 q (List.mem_append_left _ hq)
  have wcb : WarmC (blkP X s3 H3 scope ce [it]) := wc
  have loop : codeAny (model X.prog X.w) X.A (.compLoop (.ListComp elt [⟨.Name y py, iter, [], 0⟩] scope pos) 0 (.ref it) (.ref D) ce) (compPost (model X.prog X.w) X.A X.xe none (EP X pins σ Q) (.ref D) s3.heap.objs.size) s4 := by
    refine compLoop_any (fun n s' => ∃ i H', n = xs.length - i ∧ i ≤ xs.length ∧ Inv (blkP X s3 H3 scope ce [it]) [] (wipe σ [iy]) H' s' ∧ s'.heap.IsTupleIter it a i ∧ H' it = none ∧ Pv i H') ?_ xs.length ⟨0, H3, rfl, Nat.zero_le _, J4, t4, ni, p0⟩
    rintro n s5 ⟨i, H5, en, li, J5, t5, n5, w5⟩
    have ha5 := stand i H5 w5
    obtain ⟨is5, rv5, p5, hz5⟩ := J5.tuple (SqT.of ha5)
    obtain ⟨f0, f1, f2, f3, f4, f5⟩ := stat J5 n5
    rcases Nat.lt_or_ge i xs.length with hlt | hge
    · have hx : xs[i]? = some xs[i] := List.getElem?_eq_getElem hlt
      obtain ⟨u, hu, ru⟩ := rv5.get hx
      refine wpAny_pyNext_tuple_item t5 (show s5.heap.IsTuple a is5.toArray from p5) (x := u) (by simpa using hu) fun h' t6 sb => ?_
      have J6 : Inv (blkP X s3 H3 scope ce [it]) [] (wipe σ [iy]) H5 { s5 with heap := h' } := J5.turned (t' := s5.toks) (fun b o hb e => (sb.2 b hb).trans e) f0 f1 f3 f4 f5
      have J6' := J6.pinned (fp := [it]) (fun b hb => by obtain rfl : b = it := by simpa using hb
                                                         exact stat J6 n5) (fun b hb => by obtain rfl : b = it := by simpa using hb
                                                                                           obtain ⟨o, e, c, d⟩ := t6
                                                                                           exact ⟨o, e, fun v z => by rw [d] at z; cases z⟩)
      obtain ⟨o6, g6, c6, d6⟩ := id t6
      refine go_of (s := { s5 with heap := h' }) g6 c6 d6 (by decide) ?_
      refine thnF (pg.run _ _ _ H5 xs[i] u (fun σ2 H2 => σ2 = (wipe σ [iy]).set iy (some xs[i]) ∧ H2 = H5) J6' ru ⟨rfl, rfl⟩) fun _ s8 ⟨σ8, H8, J8, q8⟩ => ?_
      obtain ⟨eσ, eH⟩ := q8
      subst eσ eH
      refine wpAny_tests_nil ?_
      show wpAny _ _ (eval elt ce) _ _ _
      refine thnF (pe.run _ s8 _ H8 _ J8 (turn i _ H8 hx w5)) fun z s10 ⟨yv, H10, J10, r10, acc, hD10, hz10, nx⟩ => ?_
      refine app_ok (X := blkP X s3 H3 scope ce [it]) J10 hD10 hz10 r10 fun s11 J11 => ⟨xs.length - (i + 1), by omega, i + 1, _, rfl, hlt, ?_, ?_, ?_, nx⟩
      · exact (J11.unpinned (pins := [])).weak (by rw [List.length_set]) fun j v e => by
          have nj := (wipe_some e).2
          rw [List.getElem?_set_ne (fun z => nj (by rw [z]; exact List.mem_singleton.mpr rfl))]
          exact e
      · have z := (J11.pin (it, o6) (List.mem_append_right _ (List.mem_append_right _ (mem_pinsAt (by simp) g6)))).1
        exact ⟨o6, z, c6, d6⟩
      · exact (J11.pin (it, o6) (List.mem_append_right _ (List.mem_append_right _ (mem_pinsAt (by simp) g6)))).2.1
    · obtain rfl : i = xs.length := Nat.le_antisymm li hge
      have lx : is5.toArray[xs.length]? = none := by
        have := rv5.length
        simp
        omega
      have fin : ∀ h', Heap.ExtBut it s5.heap h' → compPost (model X.prog X.w) X.A X.xe none (EP X pins σ Q) (.ref D) s3.heap.objs.size (.ok .next) { s5 with heap := h' } := fun h' eb => by
        have J6 : Inv (blkP X s3 H3 scope ce [it]) [] (wipe σ [iy]) H5 { s5 with heap := h' } := J5.turned (t' := s5.toks) (fun b o hb e => eb b o hb e) f0 f1 f3 f4 f5
        have J7 : Inv X pins σ H5 { s5 with heap := h' } := J3.call' (ch := [it]) J6.os J6.base J6.hok J6.bare fun b hb => ⟨(fr3 b hb).1.2.2.2.1, (fr3 b hb).1.2.1, (fr3 b hb).1.2.2.2.2.1, (fr3 b hb).1.2.2.2.2.2⟩
        have nC : H5 s3.heap.objs.size = none := by
          have z : H5 ce.locals = none := J6.free
          rw [cL] at z
          exact z
        obtain ⟨m, hn, _⟩ := J6.loc
        have hn : h'.Ns ce.locals m := hn
        rw [cL] at hn
        obtain ⟨g0, g1, g2, g3, g4, g5⟩ := J3.fpOk (Nat.le_refl _) nC
        exact ⟨m, hn, fun h'' sb => ⟨.ref D, H5, J7.turned (t' := s5.toks) (fun b o hb e => (sb.2 b hb).trans e) g0 g1 g3 g4 g5, rfl, done H5 w5⟩⟩
      rcases wcb with hd | ⟨pp, ⟨hh, v1, d1, c1⟩, hp⟩
      · exact wpAny_pyNext_tuple_end hd t5 (show s5.heap.IsTuple a is5.toArray from p5) lx fin
      · exact tupEnd_hot ⟨hh, pp.2, v1, (J5.pin pp (List.mem_append_left _ hp)).1, d1, c1⟩ t5 (show s5.heap.IsTuple a is5.toArray from p5) lx (f5 pp (List.mem_append_left _ hp)) fin
  exact codeAny_compStart_list loop (wpAny_pyIter_tupleiter t4 loop)
end Ef

set_option Elab.async false
set_option linter.all false
set_option maxRecDepth 100000
set_option maxHeartbeats 4000000
namespace Ef
open PySem PySem.Spec PyProof.Rows L2 He L2H HotX
/-! ### promises of defs that are called in warm contexts (nothing is being shown) -/
def WarmA (A : Around) (outer : List Env) (s : Shared) (H : Hp) (pl : List (Addr × Obj)) : Prop := (A.handled = none ∧ pl = []) ∨ ∃ p, Hot1 A p ∧ PinOk outer H s p ∧ pl = [p]
theorem WarmC.at {X : Cx} {pins : List (Addr × Obj)} {σ : L2.St} {H : Hp} {s : Shared} (c : WarmC X) (I : Inv X pins σ H s) : ∃ pl, WarmA X.A X.stack s H pl := by
  rcases c with hd | ⟨p, hot, hp⟩
  · exact ⟨[], .inl ⟨hd, rfl⟩⟩
  · have g := I.pin p (List.mem_append_left _ hp)
    exact ⟨[p], .inr ⟨p, hot, ⟨g.1, g.2.1, fun hm => (List.mem_cons.mp (I.stkSub p.1 hm)).elim g.2.2.1 g.2.2.2.1, g.2.2.2.2⟩, rfl⟩⟩
def E0 : XK := fun _ _ _ => False
def FnW (P : Program) (w : World) (K : PySem.W.Frag) (mg : Str → Option Value) (base : Heap) (k : Nat) (f : Addr) (sp : Sp) : Prop :=
  ∀ (A : Around) (outer : List Env) (s : Shared) (H : Hp) (us : List Value) (vs : List V) (Q : VK) (pl : List (Addr × Obj)), RoomH k A → A.guards = some [] → WarmA A outer s H pl → Env0 P w K mg base A outer s H → Vals vs us → sp vs H Q E0 →
    codeAny (model P w) A (.call (.ref f) ⟨us, []⟩) (CR CX0 outer P w H s Q E0) s
structure ClW (P : Program) (w : World) (K : PySem.W.Frag) (mg : Str → Option Value) (base : Heap) (k : Nat) (x : Str) (sp : Sp) : Prop where
  ex : ∃ f, FnW P w K mg base k f sp ∧ mg x = some (.ref f) ∧ PySem.W.keepIn K (.ref f) = true
/-- the body's context -/
abbrev cxW (P : Program) (w : World) (K : PySem.W.Frag) (mg : Str → Option Value) (base : Heap) (N : List Str) (q : Str) (st : Stmt) (f : Addr) (cdv : Value) (A : Around) (outer : List Env) (s : Shared) (H : Hp) (pl : List (Addr × Obj)) : Cx :=
  { cxOf CX0 P w K mg base N q (defScope st) f cdv A outer s H E0 with calm := false, pn := pl }
section
variable {P : Program} {w : World} {K : PySem.W.Frag} {mg : Str → Option Value} {base : Heap} {k : Nat} {x q : Str} {st : Stmt} {f : Addr} {fd : FuncData} {N ps : List Str} {sp : Sp}
theorem raw_ofW (F : FnP K x q st f fd) (S : FnScope N ps (defScope st)) (hb : BindN x q st ps) (len : ∀ vs H Q E, sp vs H Q E → vs.length = ps.length)
    (body : ∀ (cdv : Value) (A : Around) (outer : List Env) (s : Shared) (H : Hp) (vs : List V) (Q : VK) (pl : List (Addr × Obj)), RoomH k (A.deeper (envOfC q (defScope st) s.heap.objs.size f cdv)) → A.guards = some [] → WarmC (cxW P w K mg base N q st f cdv A outer s H pl) → sp vs H Q E0 →
      ∃ t, PSs (cxW P w K mg base N q st f cdv A outer s H pl) (defBody st) t ∧ t { nx := fun _ H' => Q .non H', rt := Q } (L2.start N vs) H) : FnW P w K mg base (k + 1) f sp := by
  intro A outer s H us vs Q pl hr hg wa e0 r hs
  obtain ⟨oc, od, dV, kV, doc, pm, an, cdv, ct, osl, rfl, lk, hcd, hD, hK⟩ := F.ex
  obtain ⟨_, rfl⟩ | ⟨e, _⟩ := hD
  rotate_left
  · exact absurd rfl e
  have hl := len _ _ _ _ hs
  have hlu : us.length = ps.length := by rw [← r.length]; exact hl
  have KX : K.In s.heap := e0.mod.kin.keeps fun b o e => (e0.bs b o e).1
  have lim : s.heap.NoLimit := e0.mod.nolimit.keeps fun b o e => (e0.bs b o e).1
  have kinds : ∀ y ∈ ps.zip us, (defScope st).names.lookup y.1 = some .local ∨ ((defScope st).names.lookup y.1 = some .cell ∧ ((cellsFrom (s.heap.objs.size + 1) (defScope st).names []).lookup y.1).isSome = true) := fun ⟨n, v⟩ hy =>
    (S.par n (List.of_mem_zip hy).1).elim (fun z => .inl z) fun z => .inr ⟨z, PySem.W.cellsFrom_some _ _ _ (.inl z)⟩
  refine codeAny_call_function hr.depth (KX _ _ lk) rfl S.co S.gen rfl (PySem.W.codeRec_of KX hcd) ?_
  rw [hb kV doc pm an cdv ct us hlu]
  refine wpAny_pure (wpAny_newFunctionEnv_cells S.kind kinds fun env he s1 x => ?_)
  subst he
  refine ⟨lim.keeps x.toInCall.keep, codeAny_func ?_⟩
  have both : Inv (cxW P w K mg base N q st f cdv A outer s H pl) [] (L2.start N vs) H s1 ∧ WarmC (cxW P w K mg base N q st f cdv A outer s H pl) := by
    rcases wa with ⟨hd, e⟩ | ⟨p, hot, hpin, e⟩
    · subst e
      have J : Inv (cxOf CX0 P w K mg base N q (defScope st) f cdv A outer s H E0) [] (L2.start N vs) H s1 := inv_start S hd e0 hl r x
      have j := J.ok
      exact ⟨⟨⟨j.mod, j.kind, j.glob, j.blt, j.above, j.inj, j.has, j.cab, fun _ => hd, j.frames, j.stk, j.exf, j.bs, j.bsz, j.noex, j.exfs, j.funs, j.frf⟩, J.os, J.bare, J.base, J.loc, J.cell, J.free, J.freeC, J.pin, J.hok, J.len⟩, .inl hd⟩
    · subst e
      have J : Inv (cxH CX0 P w K mg base N q (defScope st) f cdv A outer s H E0 p) [] (L2.start N vs) H s1 := inv_startH S hpin e0 hl r x
      exact ⟨J, .inr ⟨p, hot, List.mem_singleton.mpr rfl⟩⟩
  obtain ⟨I, wc⟩ := both
  obtain ⟨t, ht, hq⟩ := body cdv A outer s H vs Q pl (hr.deeper _) hg wc hs
  have fin : ∀ {s' : Shared} {σ' : L2.St} {H' : Hp} {v : V} {u : Value}, Inv (cxW P w K mg base N q st f cdv A outer s H pl) [] σ' H' s' → RelV v u → Q v H' → CE outer P w H s Q u s' := fun {s' σ' H' v u} J rv z => ⟨v, H', J.os, J.bare, J.base, J.hok, rv, z⟩
  refine wpAny_mono (ht.run [] s1 _ H _ I hq) (fun fl s' hz => ?_) fun e s' hz => hz
  cases fl with
  | next =>
    obtain ⟨σ', H', J, z⟩ := hz
    exact fin (v := V.non) (u := Value.none) J rfl z
  | ret u =>
    obtain ⟨v, σ', H', J, rv, z⟩ := hz
    exact fin J rv z
  | brk => exact False.elim hz.choose_spec.choose_spec.2
  | cont => exact False.elim hz.choose_spec.choose_spec.2
theorem ClW.of (g : mg x = some (.ref f)) (F : FunD K x q (defArgs st) (defBody st) (defScope st) [] [] f fd) (h : FnW P w K mg base k f sp) : ClW P w K mg base k x sp := ⟨⟨f, h, g, F.kp⟩⟩
end
section
variable {X : Cx} {k : Nat} {x : Str} {sp : Sp} {e : Expr} {es : List Expr} {t : TA} {p pos : Pos}
theorem run_w {pins : List (Addr × Obj)} {σ : L2.St} {H : Hp} {s : Shared} {Q : VK} {f : Addr} {us : List Value} {vs : List V} (F : FnW X.prog X.w X.K X.mg X.base k f sp) (hr : RoomH k X.A) (hgd : X.A.guards = some []) (wc : WarmC X) (I : Inv X pins σ H s) (r : Vals vs us) (h : sp vs H Q E0)
    {E : Value → Shared → Prop} : wpAny (model X.prog X.w) X.A (call (.ref f) us) (EP X pins σ Q) E s := by
  obtain ⟨pl, wa⟩ := wc.at I
  refine wpAny_call (codeAny_mono (F X.A X.stack s H us vs Q pl hr hgd wa I.env0 r h) fun r s' hq => ?_)
  cases r with
  | error e => exact False.elim hq
  | ok fl =>
    cases fl with
    | ret u => exact I.after hq
    | next => exact False.elim hq
    | brk => exact False.elim hq
    | cont => exact False.elim hq
/-- f(e, ..) -/
theorem pe_w (c : ClW X.prog X.w X.K X.mg X.base k x sp) (hr : RoomH k X.A) (hgd : X.A.guards = some []) (wc : WarmC X) (ha : PA X (e :: es) t) (hg : Gl X x := by rfl) (hd : (x == ("__debug__" : Str)) = false := by decide)
    (he : starEach (e :: es) X.env = (false, eval e X.env) :: starEach es X.env := by rfl) (hpl : (backTo pos (starEach es X.env)).any (·.1) = false := by rfl) : PE X (.Call (.Name x p) (e :: es) [] pos) (tF sp E0 t) := by
  obtain ⟨f, F, hm, hk⟩ := c.ex
  refine ⟨fun pins s σ H Q I h => ?_⟩
  refine wpAny_Call_Name_kw (ld_glob I hg hm ?_ hd)
  exact PySem.W.callWith_K (h₀ := X.base) I.ok.mod.kin hk (thn (ha.run pos pins s σ H _ I h) fun us s1 ⟨vs, H1, I1, r, z⟩ => ⟨I1.kIn, run_w F hr hgd wc I1 r z⟩) he hpl
theorem roomH_in1 {k : Nat} {A : Around} (r : RoomH (k + 1) A) : RoomH k A.in1 :=
  ⟨by have := r.dp; show A.depth + 3 * k + 5 < _; omega, by have := r.un; show A.units + 1 + 16 * k + 200 < _; omega⟩
/-- e.f, a property -/
theorem pe_pw {C p1 g : Addr} {m : Str} {o : Expr} {ta : TE} (c : Cls X.K C) (hp : PropOf X.K C m p1 g) (F : FnW X.prog X.w X.K X.mg X.base k g sp) (hr : RoomH (k + 1) X.A) (hgd : X.A.guards = some []) (wc : WarmC X) (he : PE X o ta)
    (hab : attributeBase o m X.env (eval o X.env) = eval o X.env := by rfl) : PE X (.Attribute o m pos) (tProp C sp [] E0 ta) := by
  refine ⟨fun pins s σ H Q I h => ?_⟩
  refine attr_of hab (thn (he.run pins s σ H _ I h) fun u s1 ⟨y, H1, I1, ry, a, dx, fs, ey, ea, z⟩ => ?_)
  subst ey
  obtain rfl : u = Value.ref a := ry
  obtain ⟨mA, O, _, _, _, _⟩ := ins_get I1.hok ea
  obtain ⟨od, J, _⟩ := O.look
  obtain ⟨rest, hrec⟩ := hp.rec_
  have I2 := I1.tok (s1.toks + 1)
  have cls : (PySem.W.clsIn X.K C).isSome = true := by
    obtain ⟨cd, hc, _⟩ := PySem.W.any_some c.hd
    rw [hc]; rfl
  obtain ⟨pl, wa⟩ := wc.at I2
  refine PySem.W.get_bind I1.kIn J (PySem.W.plainGet_of (c.get m)).1 (PySem.W.findObj_data cls hp.at_ hp.get hp.tak) (PySem.W.plainGet_of (c.get m)).2 (wpAny_call (PySem.W.prop_get (s := { s1 with toks := s1.toks + 1 }) I1.kIn hrec ?_))
  refine codeAny_mono (F X.A.in1 X.stack { s1 with toks := s1.toks + 1 } H1 [.ref a] [.ref a] Q pl (roomH_in1 hr) hgd wa I2.env0.in1 (.cons rfl .nil) z) fun r s' hq => ?_
  cases r with
  | error er => exact False.elim hq
  | ok fl =>
    cases fl with
    | ret u =>
      obtain ⟨v, H', I3, rv, q3⟩ := I2.after hq
      show wpAny _ _ (handedOut u) _ _ _
      rw [PySem.W.handedOut_of (handed_of rv)]
      exact wpAny_pure ⟨v, H', I3, rv, q3⟩
    | next => exact False.elim hq
    | brk => exact False.elim hq
    | cont => exact False.elim hq
end
end Ef

set_option Elab.async false
set_option linter.all false
set_option maxRecDepth 100000
set_option maxHeartbeats 4000000
namespace Ef
open PySem PySem.Spec PyProof.Rows L2 He
/-! ### isinstance -/
def Kd.ty : Kd → String
  | .non => "NoneType" | .bl => "bool" | .int => "int" | .str => "str" | .lst => "list" | .tup => "tuple" | .dct => "dict" | .tab => "?" | .song => "?"
def Kd.basic : Kd → Bool
  | .tab => false | .song => false | _ => true
/-- the built-in classes that are asked for -/
inductive Bc where
  | int | bool | str | tuple | dict | list
def Bc.nm : Bc → String
  | .int => "int" | .bool => "bool" | .str => "str" | .tuple => "tuple" | .dict => "dict" | .list => "list"
/-- isinstance(v, n), v of a built-in kind -/
def isKb : Kd → Bc → Bool
  | .bl, .bool => true | .bl, .int => true | .int, .int => true | .str, .str => true | .tup, .tuple => true | .dct, .dict => true | .lst, .list => true
  | _, _ => false
/-- what the deciders ask of the instances of an own class -/
structure InsOk (K : PySem.W.Frag) (C : Addr) : Prop where
  ha : PySem.W.findIn K (.ref C) "__class__" = some (some (.builtin "object.__class__"))
  hn : PySem.W.specialIn K (.builtin "object.__class__") "__get__" = some (some (.builtin "getset_descriptor.__get__"))
  htk : PySem.W.takesIn K (.builtin "object.__class__") = some true
  hm : PySem.W.mroIn K C (.type "object") = some true
theorem kit_basic (K : PySem.W.Frag) (k : Kd) (hk : k.basic = true) (n : Bc) : PySem.W.kitOne K (.type k.ty) (.type n.nm) = some (isKb k n) := by
  refine kit_ty ?_
  cases n <;> cases k <;> first | (exact absurd hk (by decide)) | decide +kernel
section
variable {X : Cx} {pins : List (Addr × Obj)} {σ : L2.St} {H : Hp} {s : Shared} {A : Around} {E : Value → Shared → Prop} {Q : Value → Shared → Prop} {c : Value} {b : Bool}
theorem isi_any {v : V} {u : Value} {k : Kd} (I : Inv X pins σ H s) (rx : RelV v u) (hk : KdAt X.K H v k) (hb : k.basic = true) (e : PySem.W.kitOne X.K (.type k.ty) c = some b) (h : ∀ tk, Q (.bool b) { s with toks := tk }) :
    wpAny (model X.prog X.w) A (call (.builtin "isinstance") [u, c]) Q E s := by
  cases k with
  | non => cases (show v = .non from hk); exact isinst_ok I rx .non e h
  | bl => obtain ⟨x, rfl⟩ := hk; exact isinst_ok I rx (.bl x) e h
  | int => obtain ⟨x, rfl⟩ := hk; exact isinst_ok I rx (.int x) e h
  | str => obtain ⟨x, rfl⟩ := hk; exact isinst_ok I rx (.str x) e h
  | lst => obtain ⟨a, xs, rfl, ha⟩ := hk; exact isinst_ok I rx (.lst ha) e h
  | tup => obtain ⟨a, xs, rfl, ha⟩ := hk; exact isinst_ok I rx (.tup ha) e h
  | dct =>
    obtain ⟨a, rfl, ha⟩ := hk
    rcases ha with ⟨kvs, ha⟩ | ⟨kvs, ha⟩ | ha
    · exact isinst_ok I rx (.dK ha) e h
    · exact isinst_ok I rx (.dT ha) e h
    · obtain rfl : u = Value.ref a := rx
      have z : ObjOk X.prog X.w H s.heap a (oddD a) := I.hok a _ ha
      obtain ⟨⟨_, es, n, h1, _⟩, _⟩ := z
      exact PySem.W.kia_one PySem.W.kitx_dict I.kIn ⟨_, h1, rfl⟩ e (fun z => nomatch z) h
  | tab => cases hb
  | song => cases hb
end
section
variable {X : Cx}
/-- isinstance(v, int | bool | str | tuple | dict | list) -/
def rIsB (K : PySem.W.Frag) : List V → Hp → VK → Prop := fun xs H Q => ∃ (v : V) (k : Kd) (n : Bc), xs = [v, .ty n.nm] ∧ KdAt K H v k ∧ k.basic = true ∧ Q (.bl (isKb k n)) H
theorem call_isB : CallR X (.builtin "isinstance") (rIsB X.K) := by
  intro pins s σ H xs us Q I r h
  obtain ⟨v, k, n, rfl, hk, hb, q⟩ := h
  obtain ⟨u, c, rfl, rv, rc⟩ := vals2 r
  obtain rfl : c = Value.type n.nm := rc
  exact isi_any I rv hk hb (kit_basic _ k hb n) fun tk => ⟨.bl _, H, I.tok _, rfl, q⟩
/-- isinstance(v, Table) -/
def rIsTab (K : PySem.W.Frag) : List V → Hp → VK → Prop := fun xs H Q => ∃ (v : V) (k : Kd), xs = [v, .ref (ga K "Table")] ∧ KdAt K H v k ∧ k ≠ .song ∧ Q (.bl (decide (k = .tab))) H
structure KitTab (K : PySem.W.Frag) : Prop where
  no : ∀ k : Kd, k.basic = true → PySem.W.kitOne K (.type k.ty) (.ref (ga K "Table")) = some false
  cl : Cls K (ga K "Table")
  ok : InsOk K (ga K "Table")
theorem kit_self {K : PySem.W.Frag} {C : Addr} : PySem.W.kitOne K (.ref C) (.ref C) = some true := by
  unfold PySem.W.kitOne
  rw [if_pos (by simp)]
theorem call_isTab (T : KitTab X.K) : CallR X (.builtin "isinstance") (rIsTab X.K) := by
  intro pins s σ H xs us Q I r h
  obtain ⟨v, k, rfl, hk, hs, q⟩ := h
  obtain ⟨u, c, rfl, rv, rc⟩ := vals2 r
  obtain rfl : c = Value.ref (ga X.K "Table") := rc
  by_cases hb : k.basic = true
  · have e : decide (k = .tab) = false := by cases k <;> first | rfl | cases hb
    rw [e] at q
    exact isi_any I rv hk hb (T.no k hb) fun tk => ⟨.bl _, H, I.tok _, rfl, q⟩
  · have e : k = .tab := by cases k <;> first | rfl | exact absurd rfl hb | exact absurd rfl hs
    subst e
    obtain ⟨a, dx, fs, rfl, ha⟩ := hk
    exact isinst_ok I rv (.ins ha T.cl T.ok.ha T.ok.hn T.ok.htk T.ok.hm) kit_self fun tk => ⟨.bl _, H, I.tok _, rfl, q⟩
/-- isinstance(v, Song), v a song -/
def rIsSong (K : PySem.W.Frag) : List V → Hp → VK → Prop := fun xs H Q => ∃ (v : V), xs = [v, .ref (ga K "Song")] ∧ KdAt K H v .song ∧ Q (.bl true) H
theorem call_isSong (cl : Cls X.K (ga X.K "Song")) (ok : InsOk X.K (ga X.K "Song")) : CallR X (.builtin "isinstance") (rIsSong X.K) := by
  intro pins s σ H xs us Q I r h
  obtain ⟨v, rfl, hk, q⟩ := h
  obtain ⟨u, c, rfl, rv, rc⟩ := vals2 r
  obtain rfl : c = Value.ref (ga X.K "Song") := rc
  obtain ⟨a, dx, fs, rfl, ha⟩ := hk
  exact isinst_ok I rv (.ins ha cl ok.ha ok.hn ok.htk ok.hm) kit_self fun tk => ⟨.bl _, H, I.tok _, rfl, q⟩
end
end Ef

set_option Elab.async false
set_option linter.all false
set_option maxRecDepth 100000
set_option maxHeartbeats 4000000
/-! own exceptions over IndexError, OverflowError, RuntimeError: made, their first field stored (what HandS.ExcInit says over ValueError) -/
namespace PySem
namespace EfX
open PySem.W PySem.Calls PyProof.Rows PySem.HandSPX
open Builtin Builtin.ObjectAttr
/-- what the written part says of such a class at C over the built-in class B -/
structure Oxb (K : Frag) (C : Addr) (B newId initId : String) (bm : List Value) : Prop where
  fb : ExcBaseFacts B newId initId bm
  lk : ∃ nm q N bs sn sub ab col dd k0 k1 k2 k3 k5, K.lookup C = some (excClassObj nm q C N bs bm true sn sub ab col dd k0 k1 k2 k3 k5 newId)
  pass : ∀ self, refuseLoop self "__setattr__" bm = pure ()
  obj : bm.contains (.type "object") = true
  sa : findIn K (.ref C) "__setattr__" = some (some (.builtin "object.__setattr__"))
  exC : subIn K (.ref C) (.type "BaseException") = some true
  tyC : typeIn K (.ref C) = some (.type "type")
  kC : keepIn K (.ref C) = true
section
variable {prog : Program} {w : World} {A : Around} {E : Value → Shared → Prop} {R : Result → Shared → Prop} {hp : Heap} {g : Array GenState} {d : Drawn} {t : Nat} {os : OsState}
theorem first_field {K : Frag} {B newId initId : String} {bm : List Value} {name : Str} {tk : Tok} {v : Value} {x C : Addr} {fv : Array Value} (T : Oxb K C B newId initId bm)
    (KX : K.In hp) (hx : hp.get? x = some { cls := .ref C, data := .fields fv }) (hno : findIn K (.ref C) name = some none)
    (fin : ∀ h2 tk2 dx, (∀ b o, b ≠ x → hp.get? b = some o → h2.get? b = some o) → hp.objs.size ≤ dx → dx ≠ x → h2.get? x = some { cls := .ref C, dict := some dx, data := .fields fv } →
      h2.Ns1 dx (fun y => if y = name then some v else none) → R (.ok (.ret .none)) ⟨h2, g, d, tk2, os⟩) :
    codeAny (model prog w) A (.call (.builtin "object.__setattr__") ⟨[.ref x, .str name tk, v], []⟩) R ⟨hp, g, d, t, os⟩ := by
  obtain ⟨nm, q, N, bs, sn, sub, ab, col, dd, k0, k1, k2, k3, k5, hC⟩ := T.lk
  have hcl : clsIn K C = some { name := nm, bases := bs, mro := .ref C :: bm, ns := N, qualname := q, hasDict := true, slotNames := sn, subclasses := sub, abstract := ab, collection := col, hasDel := false } := by
    unfold clsIn
    rw [hC] <;> rfl
  have at0 : InstAt hp x { cls := .ref C, data := .fields fv } C none := ⟨hx, rfl, rfl, trivial⟩
  have SF := F.store_object
  have has : (Value.ref C :: bm).contains (.type "object") = true := by
    rw [List.contains_cons, T.obj, Bool.or_true]
  have nxs : x ≠ hp.objs.size := Nat.ne_of_lt (Heap.lt_size hx)
  have isobj : Looks (model prog w) hp (isInstance (.ref x) (.type "object")) true := at0.type.andThen (looks_mroIn KX (by
    unfold mroIn
    rw [hcl, Option.bind_some]
    rw [if_neg (by simp)]
    rw [has]))
  refine codeAny_call_builtin SF.slot.plain SF.entry (@check_slot (model prog w) _ _ ⟨hp, g, d, t, os⟩ "object.__setattr__" "object" "__setattr__" (.ref x) [.str name tk, v] [] _ SF.kind SF.split isobj (SF.args (.ref x) (.str name tk) v) ?_)
  have lm : Looks (model prog w) hp (mroOf (.ref C)) (.ref C :: bm) := (looks_clsIn KX hcl).andThen .now
  have l3 : Looks (model prog w) hp (storeTaker? none) none := .now
  have lc := looks_clsIn (M := model prog w) KX hcl
  rw [osa_eq, refuse_eq]
  refine wpAny_bind (wpAny_bind (at0.type.at (wpAny_bind (lm.at ?_))))
  rw [refuseLoop_ref, T.pass]
  refine wpAny_pure (wpAny_bind (at0.type.at (wpAny_bind ((looks_findIn KX hno).at (wpAny_bind (l3.at ?_))))))
  show wpAny _ _ (storeInOwnDict (.ref x) (.ref C) (.str name tk) name v false) _ _ _
  unfold storeInOwnDict ownDictForStores
  repeat (first | with_reducible refine store_in_new ?_ ?_ | with_reducible refine wpAny_loadPart_at hx ?_ | with_reducible refine lc.at ?_ | wp_step)
  · exact ⟨_, #[], _, (Heap.get?_update_ne _ _ _ _ nxs.symm).trans (Heap.get?_push_at rfl rfl), rfl, fun e he => absurd he (by simp), fun _ => rfl⟩
  · intro h2 tk2 hn2 same
    have hx1 : (hp.push { cls := .type "dict", data := .dict #[] }).get? x = some { cls := .ref C, data := .fields fv } := Heap.get?_push_of_some _ hx
    refine fin h2 tk2 hp.objs.size (fun b o hb ho => ?_) (Nat.le_refl _) nxs.symm ((same.2 x nxs).trans (Heap.get?_update_self _ hx1 rfl)) hn2
    exact (same.2 b (Nat.ne_of_lt (Heap.lt_size ho))).trans ((Heap.get?_update_ne _ _ _ _ hb).trans (Heap.get?_push_of_some _ ho))
end
end EfX
end PySem

set_option Elab.async false
set_option linter.all false
set_option maxRecDepth 100000
set_option maxHeartbeats 4000000
namespace Ef
open PySem PySem.Spec PyProof.Rows L2 He PySem.EfX
section
variable {X : Cx} {pins : List (Addr × Obj)} {σ : L2.St} {H : Hp} {s : Shared} {a C : Addr} {f : Str} {y : V} {u : Value} {A : Around} {E : Value → Shared → Prop} {B newId initId : String} {bm : List Value}
/-- self.f = y, the first field -/
theorem fst_ok {Q : Unit → Shared → Prop} (T : Oxb X.K C B newId initId bm) (I : Inv X pins σ H s) (e : H a = some (exo a C none)) (hno : PySem.W.findIn X.K (.ref C) f = some none) (ry : RelV y u)
    (fin : ∀ dx s', H dx = none → dx ≠ a → Inv X pins σ (upd (upd H dx (exd dx [(f, y)])) a (exo a C (some dx))) s' → Q () s') : wpAny (model X.prog X.w) A (setAttr (.ref a) f u) Q E s := by
  obtain ⟨t1, ho⟩ := exo_at I.hok e
  obtain ⟨hp, g, d, t, os⟩ := s
  refine PySem.W.set_plain I.kIn (ox := { cls := .ref C, dict := none, data := .fields #[.ref t1, .none, .none, .none, .bool false, .none] }) (od := none) ⟨ho, rfl, rfl, trivial⟩ T.sa ?_
  refine first_field T I.kIn ho hno fun h2 tk2 dx kp dn dne hx hn => ?_
  have free : H dx = none := I.hok.fresh dn
  have ndx : ∀ {b : Addr} {o : Obj}, hp.get? b = some o → b ≠ dx := fun {b o} z => Nat.ne_of_lt (Nat.lt_of_lt_of_le (Heap.lt_size z) dn)
  have nea : ∀ {b : Addr}, H b = none → b ≠ a := fun {b} n z => by
    rw [z, e] at n
    cases n
  have two : ∀ {b : Addr}, b ≠ a → b ≠ dx → (upd (upd H dx (exd dx [(f, y)])) a (exo a C (some dx))) b = H b := fun {b} h1 h2 => by
    rw [upd_ne h1, upd_ne h2]
  have un : Un X.fs [] H (upd (upd H dx (exd dx [(f, y)])) a (exo a C (some dx))) hp h2 := by
    constructor
    · exact fun b o z n _ _ => kp b o (nea n) z
    · exact fun b o z n _ _ => ⟨o.slots, kp b o (nea n) z⟩
    · exact fun b o z n _ => (two (nea n) (ndx z)).trans n
    · intro b o z _
      by_cases hb : b = a
      · exact ⟨_, by rw [hb]; exact hx⟩
      · exact ⟨o, kp b o hb z⟩
    · exact fun b xs z => (two (at_ne e z exo_tup) (ne_of_none z free)).trans z
    · exact fun b o v z => (two (at_ne e z exo_frz) (ne_of_none z free)).trans z
    · exact fun b ps z => ⟨#[], ((two (at_ne e z exo_tbl) (ne_of_none z free)).trans z).trans (by simp)⟩
  refine fin dx _ free dne (I.un (t' := tk2) un fun b o z => ?_)
  by_cases hb : b = a
  · subst hb
    rw [upd_same] at z
    cases z
    exact exo_ok hx
  rw [upd_ne hb] at z
  by_cases hd : b = dx
  · subst hd
    rw [upd_same] at z
    cases z
    exact exd_ok hn (relO_put (fs := []) ry fun g => True.intro)
  rw [upd_ne hd] at z
  refine (I.hok b o z).stay (fun c v hc zz => kp c v ?_ zz) (fun c hc => (two (at_ne e hc exo_own) (ne_of_none hc free)).trans hc) fun c xs hc => (two (at_ne e hc exo_tup) (ne_of_none hc free)).trans hc
  rcases hc with rfl | hc
  · exact hb
  · exact at_ne e hc exo_own
/-- B.__init__(self, ..) -/
theorem binit_ok {us : List Value} {Q : Value → Shared → Prop} (T : Oxb X.K C B newId initId bm) (I : Inv X pins σ H s) (e : H a = some (exo a C none)) (hl : us.length ≤ sizeLine) (fin : ∀ s', Inv X pins σ H s' → Q .none s') :
    wpAny (model X.prog X.w) A (call (.builtin initId) (.ref a :: us)) Q E s := by
  obtain ⟨nm, q, N, bs, sn, sub, ab, col, dd, k0, k1, k2, k3, k5, hC⟩ := T.lk
  obtain ⟨t1, ho⟩ := exo_at I.hok e
  obtain ⟨hp, g, d, t, os⟩ := s
  refine wpAny_call (PySem.HandSPX.init_base T.fb (fun _ => rfl) (I.kIn _ _ hC) ho hl fun h2 t2 kp hx => ?_)
  have J := I.write (t' := t) (x := a) (e := a) (o := exo a C none) (by rw [e]; exact True.intro) (.inl rfl) kp ⟨_, hx⟩ (exo_ok hx)
  have same : upd H a (exo a C none) = H := funext fun b => by
    by_cases hb : b = a
    · rw [hb, upd_same, e]
    · exact upd_ne hb
  rw [same] at J
  exact fin _ J
end
/-! ### readings and rules -/
/-- B.__init__(self, ..) -/
def tBin (K : PySem.W.Frag) (B newId initId : String) (bm : List Value) (ta : TA) : TE := fun σ H Q => ta σ H fun vs H1 => ∃ (a C : Addr) (ws : List V), vs = .ref a :: ws ∧ ws.length ≤ 1000 ∧ Oxb K C B newId initId bm ∧ H1 a = some (exo a C none) ∧ Q .non H1
/-- self.f = e, the first field -/
def tFst (K : PySem.W.Frag) (f : Str) (to te : TE) : TS := fun D σ H => te σ H fun y H1 => to σ H1 fun x H2 => ∃ (a C : Addr) (B newId initId : String) (bm : List Value), x = .ref a ∧ Oxb K C B newId initId bm ∧ PySem.W.findIn K (.ref C) f = some none ∧
  H2 a = some (exo a C none) ∧ ∀ dx, H2 dx = none → dx ≠ a → D.nx σ (upd (upd H2 dx (exd dx [(f, y)])) a (exo a C (some dx)))
/-- what a built-in class's __init__ is found as -/
structure BinAt (K : PySem.W.Frag) (B : Str) (T initId : String) : Prop where
  boot : bootBuiltins B = some (.type T)
  ty : typeOf (.type T) = pure (.type "type")
  nst : Manifest.isStub T = false
  fnd : PySem.W.findCls K (.type T) (.type "type") "__init__" = some (.val (.builtin initId))
  hand : PySem.W.handedIn (.builtin initId) = true
  n1 : B ≠ "__name__"
  n2 : (B == ("__debug__" : Str)) = false
section
variable {X : Cx} {o e : Expr} {es : List Expr} {to te : TE} {ta : TA} {f B : Str} {p p' p1 p2 pos : Pos} {T newId initId : String} {bm : List Value}
theorem pe_bin {pl : Sem Bool} (b : BinAt X.K B T initId) (hg : Gl X B) (hm : X.mg B = none) (ha : PA X (e :: es) ta)
    (hc : eval (.Call (.Attribute (.Name B p1) "__init__" p2) (e :: es) [] pos) X.env = (do
      let ov ← eval (.Name B p1) X.env
      standAt p2.atName
      let (f, first) ← holding [ov] (getMethod ov "__init__" pl)
      callWith pos f first (backTo pos (starEach (e :: es) X.env)) (backToKw pos (keywordEach [] X.env))) := by rfl)
    (he : starEach (e :: es) X.env = (false, eval e X.env) :: starEach es X.env := by rfl) (hpl : (backTo pos (starEach es X.env)).any (·.1) = false := by rfl) :
    PE X (.Call (.Attribute (.Name B p1) "__init__" p2) (e :: es) [] pos) (tBin X.K T newId initId bm ta) := by
  refine ⟨fun pins s σ H Q I h => ?_⟩
  refine PySem.W.methodCall_KW (ld_blt I hg hm b.boot ?_ b.n1 b.n2) hc
  obtain ⟨m, fr⟩ := I.fr
  refine PySem.W.method_type fr I.ok.mod.kin b.ty b.nst b.fnd b.hand ?_
  show wpAny _ _ (callWith pos (Value.builtin initId) [] (backTo pos (starEach (e :: es) X.env)) []) _ _ _
  refine PyProof.Rows.callWith_method1 (thn (ha.run pos pins _ σ H _ (I.tok _) h) fun us s1 hh => ?_) he hpl
  obtain ⟨vs, H1, I1, r1, a, C, ws, ev, hl, T', ea, q⟩ := hh
  subst ev
  cases r1 with
  | @cons _ u0 _ ur ra rw' =>
    obtain rfl : u0 = Value.ref a := ra
    refine binit_ok T' I1 ea ?_ fun s2 J => ⟨.non, H1, J, rfl, q⟩
    rw [← Paired.length rw', sizeLine_eq]
    omega
theorem ps_fst (ho : PE X o to) (he : PE X e te) (hs : swapsWith e (some (.Attribute o f p')) pos.line X.env = pure false := by rfl) : PS X (.Assign [.Attribute o f p'] e pos) (tFst X.K f to te) := by
  refine ⟨fun pins s σ H D I h => ?_⟩
  refine plainObj_wpAny_Assign_Attribute (thn (he.run pins s σ H _ I h) fun v s1 ⟨y, H1, I1, r1, q1⟩ => thn (ho.run pins s1 σ H1 _ I1 q1) fun u s2 hh => ?_) hs
  obtain ⟨x, H2, I2, r2, a, C, B, n1, n2, bm, ex, T, hno, ea, q⟩ := hh
  subst ex
  obtain rfl : u = Value.ref a := r2
  exact fst_ok T I2 ea hno r1 fun dx s3 n ne J => ⟨σ, _, J, q dx n ne⟩
end
end Ef

set_option Elab.async false
set_option linter.all false
set_option maxRecDepth 100000
set_option maxHeartbeats 4000000
namespace Ef
open PySem PySem.Spec PyProof.Rows L2 He PySem.EfX
/-- __init__ of an own exception with one field -/
def pXin1 (C : Addr) (f : Str) (self v : V) (H : Hp) (Q : VK) (_ : XK) : Prop := ∃ a : Addr, self = .ref a ∧ H a = some (exo a C none) ∧ ∀ dx, H dx = none → dx ≠ a → Q .non (upd (upd H dx (exd dx [(f, v)])) a (exo a C (some dx)))
/-- .. without -/
def pXin0 (C : Addr) (self : V) (H : Hp) (Q : VK) (_ : XK) : Prop := ∃ a : Addr, self = .ref a ∧ H a = some (exo a C none) ∧ Q .non H
def tMk1 (C : Addr) (f : Str) (ta : TA) : L2.St → Hp → XK → Prop := fun σ H Q => ta σ H fun vs H1 => ∃ v, vs = [v] ∧ ∀ d, H1 d = none → Q (.ref C) (some d) (upd H1 d (.xd [(f, v)]))
def tMk0 (C : Addr) : L2.St → Hp → XK → Prop := fun _ H Q => Q (.ref C) none H
/-- what is known of such a class by its name -/
structure Xcl (P : Program) (w : World) (K : PySem.W.Frag) (mg : Str → Option Value) (base : Heap) (k : Nat) (x : Str) (C : Addr) (sp : Sp) : Prop where
  ex : ∃ B newId initId bm fI, Oxb K C B newId initId bm ∧ PySem.W.findIn K (.ref C) "__init__" = some (some (.ref fI)) ∧ PySem.W.typeIn K (.ref fI) = some (.type "function") ∧ FnR P w K mg base CX0 k fI sp ∧ mg x = some (.ref C)
section
variable {X : Cx} {x f : Str} {C : Addr} {k : Nat} {e : Expr} {ta : TA} {p pos : Pos}
/-- the two objects that a class's call lays -/
def two (hp : Heap) (us : List Value) (C : Addr) : Heap := (hp.push (PySem.W.kdv_tup us)).push (PySem.HandSPX.excO C hp.objs.size)
theorem two_old {hp : Heap} {us : List Value} {C b : Addr} {o : Obj} (e : hp.get? b = some o) : (two hp us C).get? b = some o := Heap.get?_push_of_some _ (Heap.get?_push_of_some _ e)
theorem two_new {hp : Heap} {us : List Value} {C : Addr} : (two hp us C).get? (hp.objs.size + 1) = some (PySem.HandSPX.excO C hp.objs.size) := by
  unfold two
  heap_get
theorem pmk1 (h : Xcl X.prog X.w X.K X.mg X.base k x C (sp2 (pXin1 C f))) (hr : Room (k + 1) X.A) (ha : PA X [e] ta) (hg : Gl X x := by rfl) (hdb : (x == ("__debug__" : Str)) = false := by decide)
    (he : starEach (e :: []) X.env = (false, eval e X.env) :: starEach [] X.env := by rfl) (hpl : (backTo pos (starEach [] X.env)).any (·.1) = false := by rfl) :
    L2N.PMk X (.Call (.Name x p) [e] [] pos) (tMk1 C f ta) := by
  obtain ⟨B, n1, n2, bm, fI, T, iC, tI, F, hm⟩ := h.ex
  intro pins s σ H Q I h
  obtain ⟨nm, q, N, bs, sn, sub, ab, col, dd, k0, k1, k2, k3, k5, hC⟩ := T.lk
  refine wpAny_Call_Name_kw (ld_glob I hg hm ?_ hdb)
  refine PySem.W.callWith_K (h₀ := X.base) I.ok.mod.kin T.kC (thn (ha.run pos pins s σ H _ I h) fun us s1 hh => ?_) he hpl
  obtain ⟨vs, H1, I1, r1, v, ev, q1⟩ := hh
  subst ev
  refine ⟨I1.kIn, ?_⟩
  show wpAny _ _ (call (.ref C) us) _ _ _
  obtain ⟨hp, g, dr, tk, os⟩ := s1
  have big : hp.objs.size ≤ hp.objs.size + 1 := Nat.le_succ _
  have free : H1 (hp.objs.size + 1) = none := I1.hok.fresh big
  have I2 : Inv X pins σ (upd H1 (hp.objs.size + 1) (exo (hp.objs.size + 1) C none)) ⟨two hp us C, g, dr, tk, os⟩ :=
    I1.laid (t' := tk) (a := hp.objs.size + 1) (o := exo (hp.objs.size + 1) C none) (h' := two hp us C) (fun b o z => two_old z) big (exo_ok two_new)
  have r2 : Vals (V.ref (hp.objs.size + 1) :: [v]) (Value.ref (hp.objs.size + 1) :: us) := .cons rfl r1
  have hus : us.length ≤ sizeLine := by
    rw [← Paired.length r1, sizeLine_eq]
    show 1 ≤ 16777216
    decide
  refine wpAny_call (PySem.HandSPX.call_own T.fb (fun _ => rfl) (I1.kIn _ _ hC) (PySem.W.looks_findIn I1.kIn iC) (fun self => PySem.W.bind_fn I1.kIn self tI) hus
    (codeAny_mono (F _ X.stack _ _ _ _ (fun v' H2 => v' = V.non ∧ ∃ d, H1 d = none ∧ d ≠ hp.objs.size + 1 ∧ H2 = upd (upd (upd H1 (hp.objs.size + 1) (exo (hp.objs.size + 1) C none)) d (exd d [(f, v)])) (hp.objs.size + 1) (exo (hp.objs.size + 1) C (some d))) (fun _ _ _ => False)
      (hr.make C us []) (I2.env0.make C us []) r2 ⟨_, _, rfl, _, rfl, upd_same, fun dx n ne => ⟨rfl, dx, by rw [upd_ne ne] at n; exact n, ne, rfl⟩⟩) fun r s2 hq => ?_))
  cases r with
  | error er => exact False.elim hq
  | ok fl =>
    cases fl with
    | next => exact False.elim hq
    | brk => exact False.elim hq
    | cont => exact False.elim hq
    | ret u =>
      obtain ⟨v', H2, os2, bare2, un2, hok2, rv, ev, d, hd, dne, eH⟩ := hq
      subst ev
      obtain ⟨h2, g2, d2, t2, os'⟩ := s2
      have ea : H2 (hp.objs.size + 1) = some (exo (hp.objs.size + 1) C (some d)) := by rw [eH, upd_same]
      have ed : H2 d = some (exd d [(f, v)]) := by rw [eH, upd_ne dne, upd_same]
      have eq : upd (del H2 (hp.objs.size + 1)) d (.xd [(f, v)]) = upd H1 d (.xd [(f, v)]) := funext fun b => by
        by_cases hb : b = d
        · rw [hb, upd_same, upd_same]
        · rw [upd_ne hb, upd_ne hb]
          by_cases hb2 : b = hp.objs.size + 1
          · rw [hb2, del_same, free]
          · rw [del_ne hb2, eH, upd_ne hb2, upd_ne hb, upd_ne hb2]
      obtain ⟨t0, G, J, kG, ge, hoe, na⟩ := mk_end0 (d2 := d2) (t2 := t2) I1 big (fun b o z => two_old z) un2 hok2 os2 bare2 ea ed hd
      exact ⟨rv, hp.objs.size + 1, _, _, ⟨G, g2, d2, t2, os'⟩, _, .ref C, some d, rfl, J, kG, ge, hoe, ⟨rfl, rfl, fun vs hv => by cases hv; rfl⟩, rfl, rfl, na, rfl, bare2, raises_own T.exC T.tyC, (by rw [eq]; exact q1 d hd)⟩
/-- an exception without a dict is let go -/
theorem mk_endN {pins : List (Addr × Obj)} {σ : L2.St} {H1 : Hp} {Q : XK} {hp hp2 h2 : Heap} {g1 g2 : Array GenState} {d1 d2 : Drawn} {t1 t2 : Nat} {os1 os2 : OsState} {a : Addr} (T : Raises X (.ref C)) (I1 : Inv X pins σ H1 ⟨hp, g1, d1, t1, os1⟩)
    (ha : hp.objs.size ≤ a) (k : ∀ b o, hp.get? b = some o → hp2.get? b = some o) (un : Un (frs X.stack) [] (upd H1 a (exo a C none)) (upd H1 a (exo a C none)) hp2 h2) (hok : HOk X.prog X.w (upd H1 a (exo a C none)) h2) (ho : os2 = os1) (hb : AllBare g2)
    (q : Q (.ref C) none H1) : MkP X pins σ Q (.ref a) ⟨h2, g2, d2, t2, os2⟩ := by
  obtain ⟨t0, hoe⟩ := exo_at hok upd_same
  have na : H1 a = none := I1.hok.fresh ha
  obtain ⟨G, gs, gn⟩ := restrict h2 fun b => decide (b ≠ a)
  have keepG : ∀ b, b ≠ a → G.get? b = h2.get? b := fun b hb => gs b (decide_eq_true hb)
  have gone : G.get? a = none := gn a (by simp)
  have old : ∀ {b : Addr} {o : Obj}, hp.get? b = some o → b ≠ a := fun {b o} z => Nat.ne_of_lt (Nat.lt_of_lt_of_le (Heap.lt_size z) ha)
  have there : ∀ {b : Addr} {o : HO}, H1 b = some o → b ≠ a := fun {b o} z => ne_of_none z na
  have up : ∀ {b : Addr}, b ≠ a → upd H1 a (exo a C none) b = H1 b := fun {b} hb => upd_ne hb
  have U : Un (frs X.stack) [] H1 H1 hp G := by
    constructor
    · intro b o z n hf hx
      rw [keepG b (old z)]
      exact un.keep b o (k b o z) ((up (old z)).trans n) hf hx
    · intro b o z n hf hx
      rw [keepG b (old z)]
      exact un.slot b o (k b o z) ((up (old z)).trans n) hf hx
    · exact fun b o z n hx => n
    · intro b o z hx
      rw [keepG b (old z)]
      exact un.there b o (k b o z) hx
    · exact fun b xs z => z
    · exact fun b o v z => z
    · exact fun b ps z => ⟨#[], z.trans (by simp)⟩
  have hokG : HOk X.prog X.w H1 G := fun b o z => by
    have hba := there z
    refine (hok b o ((up hba).trans z)).stay (fun c v hc y => ?_) (fun c hc => ?_) fun c xs hc => ?_
    · have hca : c ≠ a := by
        rcases hc with rfl | hc
        · exact hba
        · exact at_ne upd_same hc exo_own
      rw [keepG c hca]
      exact y
    · exact (up (at_ne upd_same hc exo_own)).symm.trans hc
    · exact (up (at_ne upd_same hc exo_tup)).symm.trans hc
  have J : Inv X pins σ H1 ⟨G, g2, d2, t2, os2⟩ := I1.call' (ch := []) ho U hokG hb (fun b z => absurd z (by simp))
  refine ⟨a, _, _, ⟨G, g2, d2, t2, os2⟩, _, .ref C, none, rfl, J, fun b o z => ?_, gone, hoe, ⟨rfl, rfl⟩, rfl, rfl, na, rfl, hb, T, q⟩
  by_cases hba : b = a
  · rw [hba] at z
    exact absurd (gone.symm.trans z) (by simp)
  · exact (keepG b hba).symm.trans z
theorem pmk0 (h : Xcl X.prog X.w X.K X.mg X.base k x C (sp1 (pXin0 C))) (hr : Room (k + 1) X.A) (hg : Gl X x := by rfl) (hdb : (x == ("__debug__" : Str)) = false := by decide) :
    PMk X (.Call (.Name x p) [] [] pos) (tMk0 C) := by
  obtain ⟨B, n1, n2, bm, fI, T, iC, tI, F, hm⟩ := h.ex
  intro pins s σ H Q I h
  obtain ⟨nm, q, N, bs, sn, sub, ab, col, dd, k0, k1, k2, k3, k5, hC⟩ := T.lk
  refine wpAny_Call_Name_kw (ld_glob I hg hm ?_ hdb)
  refine PySem.W.callWith_K0 I.kIn T.kC ?_
  obtain ⟨hp, g, dr, tk, os⟩ := s
  have big : hp.objs.size ≤ hp.objs.size + 1 := Nat.le_succ _
  have I2 : Inv X pins σ (upd H (hp.objs.size + 1) (exo (hp.objs.size + 1) C none)) ⟨two hp [] C, g, dr, tk, os⟩ :=
    I.laid (t' := tk) (a := hp.objs.size + 1) (o := exo (hp.objs.size + 1) C none) (h' := two hp [] C) (fun b o z => two_old z) big (exo_ok two_new)
  refine wpAny_call (PySem.HandSPX.call_own T.fb (fun _ => rfl) (I.kIn _ _ hC) (PySem.W.looks_findIn I.kIn iC) (fun self => PySem.W.bind_fn I.kIn self tI) (by rw [sizeLine_eq]; decide)
    (codeAny_mono (F _ X.stack _ _ [.ref (hp.objs.size + 1)] [.ref (hp.objs.size + 1)] (fun v' H2 => v' = V.non ∧ H2 = upd H (hp.objs.size + 1) (exo (hp.objs.size + 1) C none)) (fun _ _ _ => False)
      (hr.make C [] []) (I2.env0.make C [] []) (.cons rfl .nil) ⟨_, rfl, _, rfl, upd_same, rfl, rfl⟩) fun r s2 hq => ?_))
  cases r with
  | error er => exact False.elim hq
  | ok fl =>
    cases fl with
    | next => exact False.elim hq
    | brk => exact False.elim hq
    | cont => exact False.elim hq
    | ret u =>
      obtain ⟨v', H2, os2, bare2, un2, hok2, rv, ev, eH⟩ := hq
      subst ev eH
      obtain ⟨h2, g2, d2, t2, os'⟩ := s2
      exact ⟨rv, mk_endN (raises_own T.exC T.tyC) I big (fun b o z => two_old z) un2 hok2 os2 bare2 h⟩
end
end Ef

set_option Elab.async false
set_option linter.all false
set_option maxRecDepth 100000
set_option maxHeartbeats 4000000
namespace Ef
open PySem PySem.Spec PyProof.Rows L2 He
/-- what the walk asks of the top -/
structure Top (K : PySem.W.Frag) (mg : Str → Option Value) : Prop where
  d_is_integer : ∃ fd, FunD K "is_integer" "is_integer" (defArgs s_is_integer) (defBody s_is_integer) (defScope s_is_integer) [.non, .non] [] (ga K "is_integer") fd
  g_is_integer : mg "is_integer" = some (.ref (ga K "is_integer"))
  d_is_list : ∃ fd, FunD K "is_list" "is_list" (defArgs s_is_list) (defBody s_is_list) (defScope s_is_list) [] [] (ga K "is_list") fd
  g_is_list : mg "is_list" = some (.ref (ga K "is_list"))
  d_is_price : ∃ fd, FunD K "is_price" "is_price" (defArgs s_is_price) (defBody s_is_price) (defScope s_is_price) [] [] (ga K "is_price") fd
  g_is_price : mg "is_price" = some (.ref (ga K "is_price"))
  d_InvalidEcho_init : ∃ fd, FunD K "__init__" "InvalidEcho.__init__" (defArgs s_InvalidEcho_init) (defBody s_InvalidEcho_init) (defScope s_InvalidEcho_init) [] [] (ma K (ga K "InvalidEcho") "__init__") fd
  d_InvalidWishes_init : ∃ fd, FunD K "__init__" "InvalidWishes.__init__" (defArgs s_InvalidWishes_init) (defBody s_InvalidWishes_init) (defScope s_InvalidWishes_init) [] [] (ma K (ga K "InvalidWishes") "__init__") fd
  d_InvalidPlace_init : ∃ fd, FunD K "__init__" "InvalidPlace.__init__" (defArgs s_InvalidPlace_init) (defBody s_InvalidPlace_init) (defScope s_InvalidPlace_init) [] [] (ma K (ga K "InvalidPlace") "__init__") fd
  d_InvalidNumber_init : ∃ fd, FunD K "__init__" "InvalidNumber.__init__" (defArgs s_InvalidNumber_init) (defBody s_InvalidNumber_init) (defScope s_InvalidNumber_init) [] [] (ma K (ga K "InvalidNumber") "__init__") fd
  d_InvalidDeed_init : ∃ fd, FunD K "__init__" "InvalidDeed.__init__" (defArgs s_InvalidDeed_init) (defBody s_InvalidDeed_init) (defScope s_InvalidDeed_init) [] [] (ma K (ga K "InvalidDeed") "__init__") fd
  d_NoEcho_init : ∃ fd, FunD K "__init__" "NoEcho.__init__" (defArgs s_NoEcho_init) (defBody s_NoEcho_init) (defScope s_NoEcho_init) [] [] (ma K (ga K "NoEcho") "__init__") fd
  d_TooLong_init : ∃ fd, FunD K "__init__" "TooLong.__init__" (defArgs s_TooLong_init) (defBody s_TooLong_init) (defScope s_TooLong_init) [] [] (ma K (ga K "TooLong") "__init__") fd
  d_TooFar_init : ∃ fd, FunD K "__init__" "TooFar.__init__" (defArgs s_TooFar_init) (defBody s_TooFar_init) (defScope s_TooFar_init) [] [] (ma K (ga K "TooFar") "__init__") fd
  d_NothingToUndo_init : ∃ fd, FunD K "__init__" "NothingToUndo.__init__" (defArgs s_NothingToUndo_init) (defBody s_NothingToUndo_init) (defScope s_NothingToUndo_init) [] [] (ma K (ga K "NothingToUndo") "__init__") fd
  d_NothingToRedo_init : ∃ fd, FunD K "__init__" "NothingToRedo.__init__" (defArgs s_NothingToRedo_init) (defBody s_NothingToRedo_init) (defScope s_NothingToRedo_init) [] [] (ma K (ga K "NothingToRedo") "__init__") fd
  d_are_rows : ∃ fd, FunD K "are_rows" "are_rows" (defArgs s_are_rows) (defBody s_are_rows) (defScope s_are_rows) [] [] (ga K "are_rows") fd
  g_are_rows : mg "are_rows" = some (.ref (ga K "are_rows"))
  d_need_letters : ∃ fd, FunD K "need_letters" "need_letters" (defArgs s_need_letters) (defBody s_need_letters) (defScope s_need_letters) [] [] (ga K "need_letters") fd
  g_need_letters : mg "need_letters" = some (.ref (ga K "need_letters"))
  d_Table_init : ∃ fd, FunD K "__init__" "Table.__init__" (defArgs s_Table_init) (defBody s_Table_init) (defScope s_Table_init) [] [] (ma K (ga K "Table") "__init__") fd
  d_Table_rows : ∃ fd, FunD K "rows" "Table.rows" (defArgs s_Table_rows) (defBody s_Table_rows) (defScope s_Table_rows) [] [] (pgt K (ga K "Table") "rows") fd
  p_Table_rows : PropOf K (ga K "Table") "rows" (ma K (ga K "Table") "rows") (pgt K (ga K "Table") "rows")
  d_Table_letters : ∃ fd, FunD K "letters" "Table.letters" (defArgs s_Table_letters) (defBody s_Table_letters) (defScope s_Table_letters) [] [] (pgt K (ga K "Table") "letters") fd
  p_Table_letters : PropOf K (ga K "Table") "letters" (ma K (ga K "Table") "letters") (pgt K (ga K "Table") "letters")
  d_Table_text : ∃ fd, FunD K "text" "Table.text" (defArgs s_Table_text) (defBody s_Table_text) (defScope s_Table_text) [] [] (pgt K (ga K "Table") "text") fd
  p_Table_text : PropOf K (ga K "Table") "text" (ma K (ga K "Table") "text") (pgt K (ga K "Table") "text")
  d_is_echo : ∃ fd, FunD K "is_echo" "is_echo" (defArgs s_is_echo) (defBody s_is_echo) (defScope s_is_echo) [] [] (ga K "is_echo") fd
  g_is_echo : mg "is_echo" = some (.ref (ga K "is_echo"))
  d_need_echoes : ∃ fd, FunD K "need_echoes" "need_echoes" (defArgs s_need_echoes) (defBody s_need_echoes) (defScope s_need_echoes) [] [] (ga K "need_echoes") fd
  g_need_echoes : mg "need_echoes" = some (.ref (ga K "need_echoes"))
  d_Song_init : ∃ fd, FunD K "__init__" "Song.__init__" (defArgs s_Song_init) (defBody s_Song_init) (defScope s_Song_init) [] [] (ma K (ga K "Song") "__init__") fd
  d_Song_letters : ∃ fd, FunD K "letters" "Song.letters" (defArgs s_Song_letters) (defBody s_Song_letters) (defScope s_Song_letters) [] [] (pgt K (ga K "Song") "letters") fd
  p_Song_letters : PropOf K (ga K "Song") "letters" (ma K (ga K "Song") "letters") (pgt K (ga K "Song") "letters")
  d_Song_length : ∃ fd, FunD K "length" "Song.length" (defArgs s_Song_length) (defBody s_Song_length) (defScope s_Song_length) [] [] (pgt K (ga K "Song") "length") fd
  p_Song_length : PropOf K (ga K "Song") "length" (ma K (ga K "Song") "length") (pgt K (ga K "Song") "length")
  d_Song_is_near : ∃ fd, FunD K "is_near" "Song.is_near" (defArgs s_Song_is_near) (defBody s_Song_is_near) (defScope s_Song_is_near) [] [] (pgt K (ga K "Song") "is_near") fd
  p_Song_is_near : PropOf K (ga K "Song") "is_near" (ma K (ga K "Song") "is_near") (pgt K (ga K "Song") "is_near")
  d_Song_text : ∃ fd, FunD K "text" "Song.text" (defArgs s_Song_text) (defBody s_Song_text) (defScope s_Song_text) [] [] (pgt K (ga K "Song") "text") fd
  p_Song_text : PropOf K (ga K "Song") "text" (ma K (ga K "Song") "text") (pgt K (ga K "Song") "text")
  d_Song_with_length : ∃ fd, FunD K "with_length" "Song.with_length" (defArgs s_Song_with_length) (defBody s_Song_with_length) (defScope s_Song_with_length) [] [] (ma K (ga K "Song") "with_length") fd
  m_Song_with_length : Meth K (ga K "Song") "with_length" (ma K (ga K "Song") "with_length")
  d_Song_with_echo : ∃ fd, FunD K "with_echo" "Song.with_echo" (defArgs s_Song_with_echo) (defBody s_Song_with_echo) (defScope s_Song_with_echo) [] [] (ma K (ga K "Song") "with_echo") fd
  m_Song_with_echo : Meth K (ga K "Song") "with_echo" (ma K (ga K "Song") "with_echo")
  d_Song_without_echo : ∃ fd, FunD K "without_echo" "Song.without_echo" (defArgs s_Song_without_echo) (defBody s_Song_without_echo) (defScope s_Song_without_echo) [] [] (ma K (ga K "Song") "without_echo") fd
  m_Song_without_echo : Meth K (ga K "Song") "without_echo" (ma K (ga K "Song") "without_echo")
  d_need_song : ∃ fd, FunD K "need_song" "need_song" (defArgs s_need_song) (defBody s_need_song) (defScope s_need_song) [] [] (ga K "need_song") fd
  g_need_song : mg "need_song" = some (.ref (ga K "need_song"))
  d_need_near : ∃ fd, FunD K "need_near" "need_near" (defArgs s_need_near) (defBody s_need_near) (defScope s_need_near) [] [] (ga K "need_near") fd
  g_need_near : mg "need_near" = some (.ref (ga K "need_near"))
  d_is_place : ∃ fd, FunD K "is_place" "is_place" (defArgs s_is_place) (defBody s_is_place) (defScope s_is_place) [] [] (ga K "is_place") fd
  g_is_place : mg "is_place" = some (.ref (ga K "is_place"))
  d_need_place : ∃ fd, FunD K "need_place" "need_place" (defArgs s_need_place) (defBody s_need_place) (defScope s_need_place) [] [] (ga K "need_place") fd
  g_need_place : mg "need_place" = some (.ref (ga K "need_place"))
  d_are_prices : ∃ fd, FunD K "are_prices" "are_prices" (defArgs s_are_prices) (defBody s_are_prices) (defScope s_are_prices) [] [] (ga K "are_prices") fd
  g_are_prices : mg "are_prices" = some (.ref (ga K "are_prices"))
  d_is_deed : ∃ fd, FunD K "is_deed" "is_deed" (defArgs s_is_deed) (defBody s_is_deed) (defScope s_is_deed) [] [] (ga K "is_deed") fd
  g_is_deed : mg "is_deed" = some (.ref (ga K "is_deed"))
  d_with_wish : ∃ fd, FunD K "with_wish" "with_wish" (defArgs s_with_wish) (defBody s_with_wish) (defScope s_with_wish) [] [] (ga K "with_wish") fd
  g_with_wish : mg "with_wish" = some (.ref (ga K "with_wish"))
  d_without_wish : ∃ fd, FunD K "without_wish" "without_wish" (defArgs s_without_wish) (defBody s_without_wish) (defScope s_without_wish) [] [] (ga K "without_wish") fd
  g_without_wish : mg "without_wish" = some (.ref (ga K "without_wish"))
  d_lengthened : ∃ fd, FunD K "lengthened" "lengthened" (defArgs s_lengthened) (defBody s_lengthened) (defScope s_lengthened) [] [] (ga K "lengthened") fd
  g_lengthened : mg "lengthened" = some (.ref (ga K "lengthened"))
  d_state_after : ∃ fd, FunD K "state_after" "state_after" (defArgs s_state_after) (defBody s_state_after) (defScope s_state_after) [] [] (ga K "state_after") fd
  g_state_after : mg "state_after" = some (.ref (ga K "state_after"))
  d_Book_init : ∃ fd, FunD K "__init__" "Book.__init__" (defArgs s_Book_init) (defBody s_Book_init) (defScope s_Book_init) [] [] (ma K (ga K "Book") "__init__") fd
  d_Book_song : ∃ fd, FunD K "song" "Book.song" (defArgs s_Book_song) (defBody s_Book_song) (defScope s_Book_song) [] [] (pgt K (ga K "Book") "song") fd
  p_Book_song : PropOf K (ga K "Book") "song" (ma K (ga K "Book") "song") (pgt K (ga K "Book") "song")
  d_Book_wishes : ∃ fd, FunD K "wishes" "Book.wishes" (defArgs s_Book_wishes) (defBody s_Book_wishes) (defScope s_Book_wishes) [] [] (pgt K (ga K "Book") "wishes") fd
  p_Book_wishes : PropOf K (ga K "Book") "wishes" (ma K (ga K "Book") "wishes") (pgt K (ga K "Book") "wishes")
  d_Book_moment : ∃ fd, FunD K "moment" "Book.moment" (defArgs s_Book_moment) (defBody s_Book_moment) (defScope s_Book_moment) [] [] (pgt K (ga K "Book") "moment") fd
  p_Book_moment : PropOf K (ga K "Book") "moment" (ma K (ga K "Book") "moment") (pgt K (ga K "Book") "moment")
  d_Book_go_on : ∃ fd, FunD K "go_on" "Book.go_on" (defArgs s_Book_go_on) (defBody s_Book_go_on) (defScope s_Book_go_on) [] [] (ma K (ga K "Book") "go_on") fd
  m_Book_go_on : Meth K (ga K "Book") "go_on" (ma K (ga K "Book") "go_on")
  d_Book_do : ∃ fd, FunD K "do" "Book.do" (defArgs s_Book_do) (defBody s_Book_do) (defScope s_Book_do) [] [] (ma K (ga K "Book") "do") fd
  m_Book_do : Meth K (ga K "Book") "do" (ma K (ga K "Book") "do")
  d_Book_state_behind : ∃ fd, FunD K "state_behind" "Book.state_behind" (defArgs s_Book_state_behind) (defBody s_Book_state_behind) (defScope s_Book_state_behind) [] [] (ma K (ga K "Book") "state_behind") fd
  m_Book_state_behind : Meth K (ga K "Book") "state_behind" (ma K (ga K "Book") "state_behind")
  d_Book_run : ∃ fd, FunD K "run" "Book.run" (defArgs s_Book_run) (defBody s_Book_run) (defScope s_Book_run) [] [] (ma K (ga K "Book") "run") fd
  m_Book_run : Meth K (ga K "Book") "run" (ma K (ga K "Book") "run")
  d_Book_undo : ∃ fd, FunD K "undo" "Book.undo" (defArgs s_Book_undo) (defBody s_Book_undo) (defScope s_Book_undo) [] [] (ma K (ga K "Book") "undo") fd
  m_Book_undo : Meth K (ga K "Book") "undo" (ma K (ga K "Book") "undo")
  d_Book_redo : ∃ fd, FunD K "redo" "Book.redo" (defArgs s_Book_redo) (defBody s_Book_redo) (defScope s_Book_redo) [] [] (ma K (ga K "Book") "redo") fd
  m_Book_redo : Meth K (ga K "Book") "redo" (ma K (ga K "Book") "redo")
  d_l_pen : ∃ fd, FunD K "_law_pen" "_law_pen" (defArgs s_l_pen) (defBody s_l_pen) (defScope s_l_pen) [] [] (ga K "_law_pen") fd
  g_l_pen : mg "_law_pen" = some (.ref (ga K "_law_pen"))
  d_l_draw : ∃ fd, FunD K "_law_draw" "_law_draw" (defArgs s_l_draw) (defBody s_l_draw) (defScope s_l_draw) [] [] (ga K "_law_draw") fd
  g_l_draw : mg "_law_draw" = some (.ref (ga K "_law_draw"))
  d_l_pick : ∃ fd, FunD K "_law_pick" "_law_pick" (defArgs s_l_pick) (defBody s_l_pick) (defScope s_l_pick) [] [] (ga K "_law_pick") fd
  g_l_pick : mg "_law_pick" = some (.ref (ga K "_law_pick"))
  d_l_rows : ∃ fd, FunD K "_law_rows" "_law_rows" (defArgs s_l_rows) (defBody s_l_rows) (defScope s_l_rows) [] [] (ga K "_law_rows") fd
  g_l_rows : mg "_law_rows" = some (.ref (ga K "_law_rows"))
  d_l_delays : ∃ fd, FunD K "_law_delays" "_law_delays" (defArgs s_l_delays) (defBody s_l_delays) (defScope s_l_delays) [] [] (ga K "_law_delays") fd
  g_l_delays : mg "_law_delays" = some (.ref (ga K "_law_delays"))
  d_l_song : ∃ fd, FunD K "_law_song" "_law_song" (defArgs s_l_song) (defBody s_l_song) (defScope s_l_song) [] [] (ga K "_law_song") fd
  g_l_song : mg "_law_song" = some (.ref (ga K "_law_song"))
  d_l_long_song : ∃ fd, FunD K "_law_long_song" "_law_long_song" (defArgs s_l_long_song) (defBody s_l_long_song) (defScope s_l_long_song) [] [] (ga K "_law_long_song") fd
  g_l_long_song : mg "_law_long_song" = some (.ref (ga K "_law_long_song"))
  d_l_made : ∃ fd, FunD K "_law_made" "_law_made" (defArgs s_l_made) (defBody s_l_made) (defScope s_l_made) [] [] (ga K "_law_made") fd
  g_l_made : mg "_law_made" = some (.ref (ga K "_law_made"))
  d_l_is_integer : ∃ fd, FunD K "_law_is_integer" "_law_is_integer" (defArgs s_l_is_integer) (defBody s_l_is_integer) (defScope s_l_is_integer) [] [] (ga K "_law_is_integer") fd
  g_l_is_integer : mg "_law_is_integer" = some (.ref (ga K "_law_is_integer"))
  d_l_odd : ∃ fd, FunD K "_law_odd" "_law_odd" (defArgs s_l_odd) (defBody s_l_odd) (defScope s_l_odd) [] [] (ga K "_law_odd") fd
  g_l_odd : mg "_law_odd" = some (.ref (ga K "_law_odd"))
  d_l_are_wishes : ∃ fd, FunD K "_law_are_wishes" "_law_are_wishes" (defArgs s_l_are_wishes) (defBody s_l_are_wishes) (defScope s_l_are_wishes) [] [] (ga K "_law_are_wishes") fd
  g_l_are_wishes : mg "_law_are_wishes" = some (.ref (ga K "_law_are_wishes"))
  d_l_plain : ∃ fd, FunD K "_law_plain" "_law_plain" (defArgs s_l_plain) (defBody s_l_plain) (defScope s_l_plain) [] [] (ga K "_law_plain") fd
  g_l_plain : mg "_law_plain" = some (.ref (ga K "_law_plain"))
  d_l_song_text : ∃ fd, FunD K "_law_song_text" "_law_song_text" (defArgs s_l_song_text) (defBody s_l_song_text) (defScope s_l_song_text) [] [] (ga K "_law_song_text") fd
  g_l_song_text : mg "_law_song_text" = some (.ref (ga K "_law_song_text"))
  d_l_table_text : ∃ fd, FunD K "_law_table_text" "_law_table_text" (defArgs s_l_table_text) (defBody s_l_table_text) (defScope s_l_table_text) [] [] (ga K "_law_table_text") fd
  g_l_table_text : mg "_law_table_text" = some (.ref (ga K "_law_table_text"))
  d_l_with_echoes : ∃ fd, FunD K "_law_with_echoes" "_law_with_echoes" (defArgs s_l_with_echoes) (defBody s_l_with_echoes) (defScope s_l_with_echoes) [] [] (ga K "_law_with_echoes") fd
  g_l_with_echoes : mg "_law_with_echoes" = some (.ref (ga K "_law_with_echoes"))
  d_l_behind : ∃ fd, FunD K "_law_behind" "_law_behind" (defArgs s_l_behind) (defBody s_l_behind) (defScope s_l_behind) [] [] (ga K "_law_behind") fd
  g_l_behind : mg "_law_behind" = some (.ref (ga K "_law_behind"))
  d_l_lengthened : ∃ fd, FunD K "_law_lengthened" "_law_lengthened" (defArgs s_l_lengthened) (defBody s_l_lengthened) (defScope s_l_lengthened) [] [] (ga K "_law_lengthened") fd
  g_l_lengthened : mg "_law_lengthened" = some (.ref (ga K "_law_lengthened"))
  d_l_refused : ∃ fd, FunD K "_law_refused" "_law_refused" (defArgs s_l_refused) (defBody s_l_refused) (defScope s_l_refused) [] [] (ga K "_law_refused") fd
  g_l_refused : mg "_law_refused" = some (.ref (ga K "_law_refused"))
  d_l_prices : ∃ fd, FunD K "_law_prices" "_law_prices" (defArgs s_l_prices) (defBody s_l_prices) (defScope s_l_prices) [] [] (ga K "_law_prices") fd
  g_l_prices : mg "_law_prices" = some (.ref (ga K "_law_prices"))
  d_l_deed : ∃ fd, FunD K "_law_deed" "_law_deed" (defArgs s_l_deed) (defBody s_l_deed) (defScope s_l_deed) [] [] (ga K "_law_deed") fd
  g_l_deed : mg "_law_deed" = some (.ref (ga K "_law_deed"))
  d_l_odd_deed : ∃ fd, FunD K "_law_odd_deed" "_law_odd_deed" (defArgs s_l_odd_deed) (defBody s_l_odd_deed) (defScope s_l_odd_deed) [] [] (ga K "_law_odd_deed") fd
  g_l_odd_deed : mg "_law_odd_deed" = some (.ref (ga K "_law_odd_deed"))
  d_l_is_book : ∃ fd, FunD K "_law_is_book" "_law_is_book" (defArgs s_l_is_book) (defBody s_l_is_book) (defScope s_l_is_book) [] [] (ga K "_law_is_book") fd
  g_l_is_book : mg "_law_is_book" = some (.ref (ga K "_law_is_book"))
  d_l_moved : ∃ fd, FunD K "_law_moved" "_law_moved" (defArgs s_l_moved) (defBody s_l_moved) (defScope s_l_moved) [] [] (ga K "_law_moved") fd
  g_l_moved : mg "_law_moved" = some (.ref (ga K "_law_moved"))
  d_l_run_right : ∃ fd, FunD K "_law_run_right" "_law_run_right" (defArgs s_l_run_right) (defBody s_l_run_right) (defScope s_l_run_right) [] [] (ga K "_law_run_right") fd
  g_l_run_right : mg "_law_run_right" = some (.ref (ga K "_law_run_right"))
  d_l_void_right : ∃ fd, FunD K "_law_void_right" "_law_void_right" (defArgs s_l_void_right) (defBody s_l_void_right) (defScope s_l_void_right) [] [] (ga K "_law_void_right") fd
  g_l_void_right : mg "_law_void_right" = some (.ref (ga K "_law_void_right"))
  d_law : ∃ fd, FunD K "law" "law" (defArgs s_law) (defBody s_law) (defScope s_law) [] [] (ga K "law") fd
  g_law : mg "law" = some (.ref (ga K "law"))
  c_Table : Cls K (ga K "Table")
  k_Table : Mk K (ga K "Table") (ma K (ga K "Table") "__init__")
  g_Table : mg "Table" = some (.ref (ga K "Table"))
  c_Song : Cls K (ga K "Song")
  k_Song : Mk K (ga K "Song") (ma K (ga K "Song") "__init__")
  g_Song : mg "Song" = some (.ref (ga K "Song"))
  c_Book : Cls K (ga K "Book")
  k_Book : Mk K (ga K "Book") (ma K (ga K "Book") "__init__")
  g_Book : mg "Book" = some (.ref (ga K "Book"))
  n_Table_entries : NoAttr K (ga K "Table") "entries"
  n_Song_alphabet : NoAttr K (ga K "Song") "alphabet"
  n_Song_size : NoAttr K (ga K "Song") "size"
  n_Song_voices : NoAttr K (ga K "Song") "voices"
  n_Book_state : NoAttr K (ga K "Book") "state"
  n_Book_past : NoAttr K (ga K "Book") "past"
  n_Book_later : NoAttr K (ga K "Book") "later"
  v_MAX_LETTERS : ∃ u, mg "MAX_LETTERS" = some u ∧ RelV (.int 5) u
  v_FARTHEST : ∃ u, mg "FARTHEST" = some u ∧ RelV (.int 1000000000000000000000000000000) u
  v_GREATEST : ∃ u, mg "GREATEST" = some u ∧ RelV (.int 1000000000000000000000000000000) u
  v_MAX_ECHOES : ∃ u, mg "MAX_ECHOES" = some u ∧ RelV (.int 2) u
  v_BARRED : ∃ u, mg "BARRED" = some u ∧ RelV (.str "-") u
  v_BETWEEN_ROWS : ∃ u, mg "BETWEEN_ROWS" = some u ∧ RelV (.str " / ") u
  b_isinstance : mg "isinstance" = none
  b_len : mg "len" = none
  b_all : mg "all" = none
  b_sum : mg "sum" = none
  b_tuple : mg "tuple" = none
  b_list : mg "list" = none
  b_int : mg "int" = none
  b_str : mg "str" = none
  b_bool : mg "bool" = none
  b_dict : mg "dict" = none
  b_sorted : mg "sorted" = none
  b_enumerate : mg "enumerate" = none
  b_range : mg "range" = none
  b_abs : mg "abs" = none
  b_max : mg "max" = none
  b_min : mg "min" = none
  b_repr : mg "repr" = none
  b_ValueError : mg "ValueError" = none
  b_IndexError : mg "IndexError" = none
  b_OverflowError : mg "OverflowError" = none
  b_RuntimeError : mg "RuntimeError" = none
  x_InvalidEcho : PySem.EfX.Oxb K (ga K "InvalidEcho") "ValueError" "ValueError.__new__" "ValueError.__init__" [.type "ValueError", .type "Exception", .type "BaseException", .type "object"]
  xi_InvalidEcho : PySem.W.findIn K (.ref (ga K "InvalidEcho")) "__init__" = some (some (.ref (ma K (ga K "InvalidEcho") "__init__")))
  xt_InvalidEcho : PySem.W.typeIn K (.ref (ma K (ga K "InvalidEcho") "__init__")) = some (.type "function")
  xg_InvalidEcho : mg "InvalidEcho" = some (.ref (ga K "InvalidEcho"))
  xf_InvalidEcho : PySem.W.findIn K (.ref (ga K "InvalidEcho")) "value" = some none
  x_InvalidWishes : PySem.EfX.Oxb K (ga K "InvalidWishes") "ValueError" "ValueError.__new__" "ValueError.__init__" [.type "ValueError", .type "Exception", .type "BaseException", .type "object"]
  xi_InvalidWishes : PySem.W.findIn K (.ref (ga K "InvalidWishes")) "__init__" = some (some (.ref (ma K (ga K "InvalidWishes") "__init__")))
  xt_InvalidWishes : PySem.W.typeIn K (.ref (ma K (ga K "InvalidWishes") "__init__")) = some (.type "function")
  xg_InvalidWishes : mg "InvalidWishes" = some (.ref (ga K "InvalidWishes"))
  xf_InvalidWishes : PySem.W.findIn K (.ref (ga K "InvalidWishes")) "value" = some none
  x_InvalidPlace : PySem.EfX.Oxb K (ga K "InvalidPlace") "ValueError" "ValueError.__new__" "ValueError.__init__" [.type "ValueError", .type "Exception", .type "BaseException", .type "object"]
  xi_InvalidPlace : PySem.W.findIn K (.ref (ga K "InvalidPlace")) "__init__" = some (some (.ref (ma K (ga K "InvalidPlace") "__init__")))
  xt_InvalidPlace : PySem.W.typeIn K (.ref (ma K (ga K "InvalidPlace") "__init__")) = some (.type "function")
  xg_InvalidPlace : mg "InvalidPlace" = some (.ref (ga K "InvalidPlace"))
  xf_InvalidPlace : PySem.W.findIn K (.ref (ga K "InvalidPlace")) "value" = some none
  x_InvalidNumber : PySem.EfX.Oxb K (ga K "InvalidNumber") "ValueError" "ValueError.__new__" "ValueError.__init__" [.type "ValueError", .type "Exception", .type "BaseException", .type "object"]
  xi_InvalidNumber : PySem.W.findIn K (.ref (ga K "InvalidNumber")) "__init__" = some (some (.ref (ma K (ga K "InvalidNumber") "__init__")))
  xt_InvalidNumber : PySem.W.typeIn K (.ref (ma K (ga K "InvalidNumber") "__init__")) = some (.type "function")
  xg_InvalidNumber : mg "InvalidNumber" = some (.ref (ga K "InvalidNumber"))
  xf_InvalidNumber : PySem.W.findIn K (.ref (ga K "InvalidNumber")) "value" = some none
  x_NoEcho : PySem.EfX.Oxb K (ga K "NoEcho") "IndexError" "IndexError.__new__" "IndexError.__init__" [.type "IndexError", .type "LookupError", .type "Exception", .type "BaseException", .type "object"]
  xi_NoEcho : PySem.W.findIn K (.ref (ga K "NoEcho")) "__init__" = some (some (.ref (ma K (ga K "NoEcho") "__init__")))
  xt_NoEcho : PySem.W.typeIn K (.ref (ma K (ga K "NoEcho") "__init__")) = some (.type "function")
  xg_NoEcho : mg "NoEcho" = some (.ref (ga K "NoEcho"))
  xf_NoEcho : PySem.W.findIn K (.ref (ga K "NoEcho")) "index" = some none
  x_TooLong : PySem.EfX.Oxb K (ga K "TooLong") "OverflowError" "OverflowError.__new__" "OverflowError.__init__" [.type "OverflowError", .type "ArithmeticError", .type "Exception", .type "BaseException", .type "object"]
  xi_TooLong : PySem.W.findIn K (.ref (ga K "TooLong")) "__init__" = some (some (.ref (ma K (ga K "TooLong") "__init__")))
  xt_TooLong : PySem.W.typeIn K (.ref (ma K (ga K "TooLong") "__init__")) = some (.type "function")
  xg_TooLong : mg "TooLong" = some (.ref (ga K "TooLong"))
  xf_TooLong : PySem.W.findIn K (.ref (ga K "TooLong")) "limit" = some none
  x_TooFar : PySem.EfX.Oxb K (ga K "TooFar") "OverflowError" "OverflowError.__new__" "OverflowError.__init__" [.type "OverflowError", .type "ArithmeticError", .type "Exception", .type "BaseException", .type "object"]
  xi_TooFar : PySem.W.findIn K (.ref (ga K "TooFar")) "__init__" = some (some (.ref (ma K (ga K "TooFar") "__init__")))
  xt_TooFar : PySem.W.typeIn K (.ref (ma K (ga K "TooFar") "__init__")) = some (.type "function")
  xg_TooFar : mg "TooFar" = some (.ref (ga K "TooFar"))
  xf_TooFar : PySem.W.findIn K (.ref (ga K "TooFar")) "limit" = some none
  x_NothingToUndo : PySem.EfX.Oxb K (ga K "NothingToUndo") "RuntimeError" "RuntimeError.__new__" "RuntimeError.__init__" [.type "RuntimeError", .type "Exception", .type "BaseException", .type "object"]
  xi_NothingToUndo : PySem.W.findIn K (.ref (ga K "NothingToUndo")) "__init__" = some (some (.ref (ma K (ga K "NothingToUndo") "__init__")))
  xt_NothingToUndo : PySem.W.typeIn K (.ref (ma K (ga K "NothingToUndo") "__init__")) = some (.type "function")
  xg_NothingToUndo : mg "NothingToUndo" = some (.ref (ga K "NothingToUndo"))
  x_NothingToRedo : PySem.EfX.Oxb K (ga K "NothingToRedo") "RuntimeError" "RuntimeError.__new__" "RuntimeError.__init__" [.type "RuntimeError", .type "Exception", .type "BaseException", .type "object"]
  xi_NothingToRedo : PySem.W.findIn K (.ref (ga K "NothingToRedo")) "__init__" = some (some (.ref (ma K (ga K "NothingToRedo") "__init__")))
  xt_NothingToRedo : PySem.W.typeIn K (.ref (ma K (ga K "NothingToRedo") "__init__")) = some (.type "function")
  xg_NothingToRedo : mg "NothingToRedo" = some (.ref (ga K "NothingToRedo"))
  bi_ValueError : BinAt K "ValueError" "ValueError" "ValueError.__init__"
  bi_IndexError : BinAt K "IndexError" "IndexError" "IndexError.__init__"
  bi_OverflowError : BinAt K "OverflowError" "OverflowError" "OverflowError.__init__"
  bi_RuntimeError : BinAt K "RuntimeError" "RuntimeError" "RuntimeError.__init__"
  kt : KitTab K
  i_Song : InsOk K (ga K "Song")
end Ef

set_option Elab.async false
set_option linter.all false
set_option maxRecDepth 100000
set_option maxHeartbeats 4000000
namespace Ef
open PySem PySem.Spec PyProof.Rows L2 He
/-! ### the errors' own __init__ -/
section
variable {P : Program} {w : World} {K : PySem.W.Frag} {mg : Str → Option Value} {base : Heap}
theorem bnd_InvalidEcho : BindN "__init__" "InvalidEcho.__init__" s_InvalidEcho_init ["self", "value"] := fun _ _ _ _ _ _ us hl => match us, hl with | [_, _], _ => rfl
theorem sc_InvalidEcho : FnScope ["self", "value"] ["self", "value"] (defScope s_InvalidEcho_init) := ⟨rfl, rfl, rfl, by decide +kernel, rfl, by decide +kernel, by decide +kernel⟩
theorem xcl_InvalidEcho (T : Top K mg) : Xcl P w K mg base 1 "InvalidEcho" (ga K "InvalidEcho") (sp2 (pXin1 (ga K "InvalidEcho") "value")) := by
  obtain ⟨fd, F⟩ := T.d_InvalidEcho_init
  refine ⟨⟨_, _, _, _, _, T.x_InvalidEcho, T.xi_InvalidEcho, T.xt_InvalidEcho, fnN2 F sc_InvalidEcho bnd_InvalidEcho fun cdv A outer s H a v Q E hr h => ?_, T.xg_InvalidEcho⟩⟩
  obtain ⟨e, rfl, he, q⟩ := h
  refine ⟨_, pss_cons (ps_expr (pe_bin (newId := "ValueError.__new__") (bm := [.type "ValueError", .type "Exception", .type "BaseException", .type "object"]) T.bi_ValueError rfl T.b_ValueError (pa_cons (pv 0) (pa_cons pe_str pa_nil)))) (pss_one (ps_fst (pv 0) (pv 1))), ?_⟩
  exact ⟨_, rfl, e, _, _, rfl, (by decide), T.x_InvalidEcho, he, _, rfl, _, rfl, e, _, _, _, _, _, rfl, T.x_InvalidEcho, T.xf_InvalidEcho, he, q⟩
theorem bnd_InvalidWishes : BindN "__init__" "InvalidWishes.__init__" s_InvalidWishes_init ["self", "value"] := fun _ _ _ _ _ _ us hl => match us, hl with | [_, _], _ => rfl
theorem sc_InvalidWishes : FnScope ["self", "value"] ["self", "value"] (defScope s_InvalidWishes_init) := ⟨rfl, rfl, rfl, by decide +kernel, rfl, by decide +kernel, by decide +kernel⟩
theorem xcl_InvalidWishes (T : Top K mg) : Xcl P w K mg base 1 "InvalidWishes" (ga K "InvalidWishes") (sp2 (pXin1 (ga K "InvalidWishes") "value")) := by
  obtain ⟨fd, F⟩ := T.d_InvalidWishes_init
  refine ⟨⟨_, _, _, _, _, T.x_InvalidWishes, T.xi_InvalidWishes, T.xt_InvalidWishes, fnN2 F sc_InvalidWishes bnd_InvalidWishes fun cdv A outer s H a v Q E hr h => ?_, T.xg_InvalidWishes⟩⟩
  obtain ⟨e, rfl, he, q⟩ := h
  refine ⟨_, pss_cons (ps_expr (pe_bin (newId := "ValueError.__new__") (bm := [.type "ValueError", .type "Exception", .type "BaseException", .type "object"]) T.bi_ValueError rfl T.b_ValueError (pa_cons (pv 0) (pa_cons pe_str pa_nil)))) (pss_one (ps_fst (pv 0) (pv 1))), ?_⟩
  exact ⟨_, rfl, e, _, _, rfl, (by decide), T.x_InvalidWishes, he, _, rfl, _, rfl, e, _, _, _, _, _, rfl, T.x_InvalidWishes, T.xf_InvalidWishes, he, q⟩
theorem bnd_InvalidPlace : BindN "__init__" "InvalidPlace.__init__" s_InvalidPlace_init ["self", "value"] := fun _ _ _ _ _ _ us hl => match us, hl with | [_, _], _ => rfl
theorem sc_InvalidPlace : FnScope ["self", "value"] ["self", "value"] (defScope s_InvalidPlace_init) := ⟨rfl, rfl, rfl, by decide +kernel, rfl, by decide +kernel, by decide +kernel⟩
theorem xcl_InvalidPlace (T : Top K mg) : Xcl P w K mg base 1 "InvalidPlace" (ga K "InvalidPlace") (sp2 (pXin1 (ga K "InvalidPlace") "value")) := by
  obtain ⟨fd, F⟩ := T.d_InvalidPlace_init
  refine ⟨⟨_, _, _, _, _, T.x_InvalidPlace, T.xi_InvalidPlace, T.xt_InvalidPlace, fnN2 F sc_InvalidPlace bnd_InvalidPlace fun cdv A outer s H a v Q E hr h => ?_, T.xg_InvalidPlace⟩⟩
  obtain ⟨e, rfl, he, q⟩ := h
  refine ⟨_, pss_cons (ps_expr (pe_bin (newId := "ValueError.__new__") (bm := [.type "ValueError", .type "Exception", .type "BaseException", .type "object"]) T.bi_ValueError rfl T.b_ValueError (pa_cons (pv 0) (pa_cons pe_str pa_nil)))) (pss_one (ps_fst (pv 0) (pv 1))), ?_⟩
  exact ⟨_, rfl, e, _, _, rfl, (by decide), T.x_InvalidPlace, he, _, rfl, _, rfl, e, _, _, _, _, _, rfl, T.x_InvalidPlace, T.xf_InvalidPlace, he, q⟩
theorem bnd_InvalidNumber : BindN "__init__" "InvalidNumber.__init__" s_InvalidNumber_init ["self", "value"] := fun _ _ _ _ _ _ us hl => match us, hl with | [_, _], _ => rfl
theorem sc_InvalidNumber : FnScope ["self", "value"] ["self", "value"] (defScope s_InvalidNumber_init) := ⟨rfl, rfl, rfl, by decide +kernel, rfl, by decide +kernel, by decide +kernel⟩
theorem xcl_InvalidNumber (T : Top K mg) : Xcl P w K mg base 1 "InvalidNumber" (ga K "InvalidNumber") (sp2 (pXin1 (ga K "InvalidNumber") "value")) := by
  obtain ⟨fd, F⟩ := T.d_InvalidNumber_init
  refine ⟨⟨_, _, _, _, _, T.x_InvalidNumber, T.xi_InvalidNumber, T.xt_InvalidNumber, fnN2 F sc_InvalidNumber bnd_InvalidNumber fun cdv A outer s H a v Q E hr h => ?_, T.xg_InvalidNumber⟩⟩
  obtain ⟨e, rfl, he, q⟩ := h
  refine ⟨_, pss_cons (ps_expr (pe_bin (newId := "ValueError.__new__") (bm := [.type "ValueError", .type "Exception", .type "BaseException", .type "object"]) T.bi_ValueError rfl T.b_ValueError (pa_cons (pv 0) (pa_cons pe_str pa_nil)))) (pss_one (ps_fst (pv 0) (pv 1))), ?_⟩
  exact ⟨_, rfl, e, _, _, rfl, (by decide), T.x_InvalidNumber, he, _, rfl, _, rfl, e, _, _, _, _, _, rfl, T.x_InvalidNumber, T.xf_InvalidNumber, he, q⟩
theorem bnd_NoEcho : BindN "__init__" "NoEcho.__init__" s_NoEcho_init ["self", "index"] := fun _ _ _ _ _ _ us hl => match us, hl with | [_, _], _ => rfl
theorem sc_NoEcho : FnScope ["self", "index"] ["self", "index"] (defScope s_NoEcho_init) := ⟨rfl, rfl, rfl, by decide +kernel, rfl, by decide +kernel, by decide +kernel⟩
theorem xcl_NoEcho (T : Top K mg) : Xcl P w K mg base 1 "NoEcho" (ga K "NoEcho") (sp2 (pXin1 (ga K "NoEcho") "index")) := by
  obtain ⟨fd, F⟩ := T.d_NoEcho_init
  refine ⟨⟨_, _, _, _, _, T.x_NoEcho, T.xi_NoEcho, T.xt_NoEcho, fnN2 F sc_NoEcho bnd_NoEcho fun cdv A outer s H a v Q E hr h => ?_, T.xg_NoEcho⟩⟩
  obtain ⟨e, rfl, he, q⟩ := h
  refine ⟨_, pss_cons (ps_expr (pe_bin (newId := "IndexError.__new__") (bm := [.type "IndexError", .type "LookupError", .type "Exception", .type "BaseException", .type "object"]) T.bi_IndexError rfl T.b_IndexError (pa_cons (pv 0) (pa_cons pe_str pa_nil)))) (pss_one (ps_fst (pv 0) (pv 1))), ?_⟩
  exact ⟨_, rfl, e, _, _, rfl, (by decide), T.x_NoEcho, he, _, rfl, _, rfl, e, _, _, _, _, _, rfl, T.x_NoEcho, T.xf_NoEcho, he, q⟩
theorem bnd_TooLong : BindN "__init__" "TooLong.__init__" s_TooLong_init ["self", "limit"] := fun _ _ _ _ _ _ us hl => match us, hl with | [_, _], _ => rfl
theorem sc_TooLong : FnScope ["self", "limit"] ["self", "limit"] (defScope s_TooLong_init) := ⟨rfl, rfl, rfl, by decide +kernel, rfl, by decide +kernel, by decide +kernel⟩
theorem xcl_TooLong (T : Top K mg) : Xcl P w K mg base 1 "TooLong" (ga K "TooLong") (sp2 (pXin1 (ga K "TooLong") "limit")) := by
  obtain ⟨fd, F⟩ := T.d_TooLong_init
  refine ⟨⟨_, _, _, _, _, T.x_TooLong, T.xi_TooLong, T.xt_TooLong, fnN2 F sc_TooLong bnd_TooLong fun cdv A outer s H a v Q E hr h => ?_, T.xg_TooLong⟩⟩
  obtain ⟨e, rfl, he, q⟩ := h
  refine ⟨_, pss_cons (ps_expr (pe_bin (newId := "OverflowError.__new__") (bm := [.type "OverflowError", .type "ArithmeticError", .type "Exception", .type "BaseException", .type "object"]) T.bi_OverflowError rfl T.b_OverflowError (pa_cons (pv 0) (pa_cons pe_str pa_nil)))) (pss_one (ps_fst (pv 0) (pv 1))), ?_⟩
  exact ⟨_, rfl, e, _, _, rfl, (by decide), T.x_TooLong, he, _, rfl, _, rfl, e, _, _, _, _, _, rfl, T.x_TooLong, T.xf_TooLong, he, q⟩
theorem bnd_TooFar : BindN "__init__" "TooFar.__init__" s_TooFar_init ["self", "limit"] := fun _ _ _ _ _ _ us hl => match us, hl with | [_, _], _ => rfl
theorem sc_TooFar : FnScope ["self", "limit"] ["self", "limit"] (defScope s_TooFar_init) := ⟨rfl, rfl, rfl, by decide +kernel, rfl, by decide +kernel, by decide +kernel⟩
theorem xcl_TooFar (T : Top K mg) : Xcl P w K mg base 1 "TooFar" (ga K "TooFar") (sp2 (pXin1 (ga K "TooFar") "limit")) := by
  obtain ⟨fd, F⟩ := T.d_TooFar_init
  refine ⟨⟨_, _, _, _, _, T.x_TooFar, T.xi_TooFar, T.xt_TooFar, fnN2 F sc_TooFar bnd_TooFar fun cdv A outer s H a v Q E hr h => ?_, T.xg_TooFar⟩⟩
  obtain ⟨e, rfl, he, q⟩ := h
  refine ⟨_, pss_cons (ps_expr (pe_bin (newId := "OverflowError.__new__") (bm := [.type "OverflowError", .type "ArithmeticError", .type "Exception", .type "BaseException", .type "object"]) T.bi_OverflowError rfl T.b_OverflowError (pa_cons (pv 0) (pa_cons pe_str pa_nil)))) (pss_one (ps_fst (pv 0) (pv 1))), ?_⟩
  exact ⟨_, rfl, e, _, _, rfl, (by decide), T.x_TooFar, he, _, rfl, _, rfl, e, _, _, _, _, _, rfl, T.x_TooFar, T.xf_TooFar, he, q⟩
theorem bnd_NothingToUndo : BindN "__init__" "NothingToUndo.__init__" s_NothingToUndo_init ["self"] := fun _ _ _ _ _ _ us hl => match us, hl with | [_], _ => rfl
theorem sc_NothingToUndo : FnScope ["self"] ["self"] (defScope s_NothingToUndo_init) := ⟨rfl, rfl, rfl, by decide +kernel, rfl, by decide +kernel, by decide +kernel⟩
theorem xcl_NothingToUndo (T : Top K mg) : Xcl P w K mg base 1 "NothingToUndo" (ga K "NothingToUndo") (sp1 (pXin0 (ga K "NothingToUndo"))) := by
  obtain ⟨fd, F⟩ := T.d_NothingToUndo_init
  refine ⟨⟨_, _, _, _, _, T.x_NothingToUndo, T.xi_NothingToUndo, T.xt_NothingToUndo, fnN1 F sc_NothingToUndo bnd_NothingToUndo fun cdv A outer s H a Q E hr h => ?_, T.xg_NothingToUndo⟩⟩
  obtain ⟨e, rfl, he, q⟩ := h
  refine ⟨_, pss_one (ps_expr (pe_bin (newId := "RuntimeError.__new__") (bm := [.type "RuntimeError", .type "Exception", .type "BaseException", .type "object"]) T.bi_RuntimeError rfl T.b_RuntimeError (pa_cons (pv 0) (pa_cons pe_str pa_nil)))), ?_⟩
  exact ⟨_, rfl, e, _, _, rfl, (by decide), T.x_NothingToUndo, he, q⟩
theorem bnd_NothingToRedo : BindN "__init__" "NothingToRedo.__init__" s_NothingToRedo_init ["self"] := fun _ _ _ _ _ _ us hl => match us, hl with | [_], _ => rfl
theorem sc_NothingToRedo : FnScope ["self"] ["self"] (defScope s_NothingToRedo_init) := ⟨rfl, rfl, rfl, by decide +kernel, rfl, by decide +kernel, by decide +kernel⟩
theorem xcl_NothingToRedo (T : Top K mg) : Xcl P w K mg base 1 "NothingToRedo" (ga K "NothingToRedo") (sp1 (pXin0 (ga K "NothingToRedo"))) := by
  obtain ⟨fd, F⟩ := T.d_NothingToRedo_init
  refine ⟨⟨_, _, _, _, _, T.x_NothingToRedo, T.xi_NothingToRedo, T.xt_NothingToRedo, fnN1 F sc_NothingToRedo bnd_NothingToRedo fun cdv A outer s H a Q E hr h => ?_, T.xg_NothingToRedo⟩⟩
  obtain ⟨e, rfl, he, q⟩ := h
  refine ⟨_, pss_one (ps_expr (pe_bin (newId := "RuntimeError.__new__") (bm := [.type "RuntimeError", .type "Exception", .type "BaseException", .type "object"]) T.bi_RuntimeError rfl T.b_RuntimeError (pa_cons (pv 0) (pa_cons pe_str pa_nil)))), ?_⟩
  exact ⟨_, rfl, e, _, _, rfl, (by decide), T.x_NothingToRedo, he, q⟩
end
end Ef

set_option Elab.async false
set_option linter.all false
set_option maxRecDepth 100000
set_option maxHeartbeats 4000000
namespace Ef
open PySem PySem.Spec PyProof.Rows L2 He
/-! ### values that repr shows: b: it may stand in a dict (then no list of it is sys.modules) -/
def keyD : Key → PyData
  | .inl i => .int i
  | .inr x => .str x
mutual
inductive Shw : Bool → Hp → V → PyData → Prop
  | non {b : Bool} {H : Hp} : Shw b H .non .none
  | bl {b : Bool} {H : Hp} (x : Bool) : Shw b H (.bl x) (.bool x)
  | int {b : Bool} {H : Hp} (i : Int) : Shw b H (.int i) (.int i)
  | str {b : Bool} {H : Hp} (x : Str) : Shw b H (.str x) (.str x)
  | lst {b : Bool} {H : Hp} {a : Addr} {xs : List V} {ds : List PyData} (h : H a = some (.lst xs)) (n : b = true → a ≠ sysModules) (r : ShwL b H xs ds) : Shw b H (.ref a) (.list ds)
  | tup {b : Bool} {H : Hp} {a : Addr} {xs : List V} {ds : List PyData} (h : H a = some (.tup xs)) (r : ShwL b H xs ds) : Shw b H (.ref a) (.tuple ds)
  | dK {H : Hp} {a : Addr} {kvs : List (Key × V)} {ds : List PyData} (h : H a = some (.dK kvs)) (r : ShwL true H (kvs.map (·.2)) ds) : Shw true H (.ref a) (.dict ((kvs.map fun p => keyD p.1).zip ds))
  | dP {H : Hp} {a : Addr} (h : H a = some (.dT [([.inl 0, .inl 0], .int 0)])) : Shw true H (.ref a) (.dict [(.tuple [.int 0, .int 0], .int 0)])
  | odd {H : Hp} {a : Addr} (h : H a = some (oddD a)) : Shw true H (.ref a) (.dict [(.bool true, .int 0)])
inductive ShwL : Bool → Hp → List V → List PyData → Prop
  | nil {b : Bool} {H : Hp} : ShwL b H [] []
  | cons {b : Bool} {H : Hp} {x : V} {xs : List V} {d : PyData} {ds : List PyData} (h : Shw b H x d) (r : ShwL b H xs ds) : ShwL b H (x :: xs) (d :: ds)
end
theorem Shw.kd {K : PySem.W.Frag} {b : Bool} {H : Hp} {v : V} {d : PyData} (h : Shw b H v d) : ∃ k, KdAt K H v k ∧ k.basic = true := by
  cases h with
  | non => exact ⟨.non, rfl, rfl⟩
  | bl x => exact ⟨.bl, ⟨x, rfl⟩, rfl⟩
  | int i => exact ⟨.int, ⟨i, rfl⟩, rfl⟩
  | str x => exact ⟨.str, ⟨x, rfl⟩, rfl⟩
  | lst h _ _ => exact ⟨.lst, ⟨_, _, rfl, h⟩, rfl⟩
  | tup h _ => exact ⟨.tup, ⟨_, _, rfl, h⟩, rfl⟩
  | dK h _ => exact ⟨.dct, ⟨_, rfl, .inl ⟨_, h⟩⟩, rfl⟩
  | dP h => exact ⟨.dct, ⟨_, rfl, .inr (.inl ⟨_, h⟩)⟩, rfl⟩
  | odd h => exact ⟨.dct, ⟨_, rfl, .inr (.inr h)⟩, rfl⟩
theorem ShwL.length {b : Bool} {H : Hp} : ∀ {xs : List V} {ds : List PyData}, ShwL b H xs ds → xs.length = ds.length
  | _, _, .nil => rfl
  | _, _, .cons _ r => by rw [List.length_cons, List.length_cons, r.length]
theorem ShwL.get {b : Bool} {H : Hp} : ∀ {xs : List V} {ds : List PyData}, ShwL b H xs ds → ∀ x ∈ xs, ∃ d, Shw b H x d
  | _, _, .nil, x, hx => by cases hx
  | _, _, .cons h r, x, hx => by
    rcases List.mem_cons.mp hx with rfl | hx
    · exact ⟨_, h⟩
    · exact r.get x hx
/-- a dict that the pen is not -/
def shwO : HO → Bool
  | .dK kvs => kvs.all fun p => match p.1 with | .inr x => !decide (x = "cells") | _ => true
  | _ => true
mutual
theorem Shw.same {b : Bool} {H H1 : Hp} (k : Same H H1) : ∀ {v : V} {d : PyData}, Shw b H v d → Shw b H1 v d
  | _, _, .non => .non
  | _, _, .bl x => .bl x
  | _, _, .int i => .int i
  | _, _, .str x => .str x
  | _, _, .lst h n r => .lst (k _ _ h) n (ShwL.same k r)
  | _, _, .tup h r => .tup (k _ _ h) (ShwL.same k r)
  | _, _, .dK h r => .dK (k _ _ h) (ShwL.same k r)
  | _, _, .dP h => .dP (k _ _ h)
  | _, _, .odd h => .odd (k _ _ h)
theorem ShwL.same {b : Bool} {H H1 : Hp} (k : Same H H1) : ∀ {xs : List V} {ds : List PyData}, ShwL b H xs ds → ShwL b H1 xs ds
  | _, _, .nil => .nil
  | _, _, .cons h r => .cons (Shw.same k h) (ShwL.same k r)
end
/-! ### such a value in the heap -/
theorem pairs_reads {P : Program} {w : World} {h : Heap} : ∀ {es : List DictEntry} {kvs : List (Key × Value)}, Pairs (mixKind P w) es kvs →
    es.map (·.val) = kvs.map (·.2) ∧ ReadsAll h (es.map (·.key)) (kvs.map fun p => keyD p.1) []
  | _, _, .nil => ⟨rfl, .nil⟩
  | _, _, .cons (e := e) (kv := kv) hk hv r => by
    obtain ⟨h1, h2⟩ := pairs_reads (h := h) r
    refine ⟨by rw [List.map_cons, List.map_cons, h1, hv], ?_⟩
    rw [List.map_cons, List.map_cons]
    have one : Reads h e.key (keyD kv.1) [] := by
      rcases keyIs_shape (k := kv.1) (v := e.key) hk with ⟨i, t, e1, e2⟩ | ⟨x, t, e1, e2⟩
      · rw [e1, e2]
        exact .int i t
      · rw [e1, e2]
        exact .str x t
    exact .cons (as := []) (bs := []) one h2
theorem kv_vals {κ : Type} : ∀ {kvs : List (κ × V)} {vs : List (κ × Value)}, KV kvs vs → kvs.map (·.1) = vs.map (·.1) ∧ Vals (kvs.map (·.2)) (vs.map (·.2))
  | _, _, .nil => ⟨rfl, .nil⟩
  | _, _, .cons h r => by
    obtain ⟨h1, h2⟩ := kv_vals r
    exact ⟨by rw [List.map_cons, List.map_cons, h1, h.1], .cons h.2 h2⟩
theorem zip_fst {α β : Type} : ∀ {l : List α} {m : List β}, l.length = m.length → (l.zip m).map (·.1) = l
  | [], _, _ => rfl
  | a :: l, b :: m, h => by
    rw [List.zip_cons_cons, List.map_cons, zip_fst (by simpa using h)]
theorem zip_snd {α β : Type} : ∀ {l : List α} {m : List β}, l.length = m.length → (l.zip m).map (·.2) = m
  | [], [], _ => rfl
  | a :: l, b :: m, h => by
    rw [List.zip_cons_cons, List.map_cons, zip_snd (by simpa using h)]
mutual
theorem Shw.reads {P : Program} {w : World} {H : Hp} {h : Heap} (ok : HOk P w H h) : ∀ {b : Bool} {v : V} {d : PyData} {u : Value}, Shw b H v d → RelV v u → ∃ as, Reads h u d as ∧ (b = true → sysModules ∉ as) ∧ (b = false → d.hasDict = false)
  | b, _, _, u, .non, r => by
    obtain rfl : u = Value.none := r
    exact ⟨[], .none, by simp, fun _ => by simp only [PyData.hasDict]⟩
  | b, _, _, u, .bl x, r => by
    obtain rfl : u = Value.bool x := r
    exact ⟨[], .bool x, by simp, fun _ => by simp only [PyData.hasDict]⟩
  | b, _, _, u, .int i, r => by
    obtain ⟨t, rfl⟩ : ∃ t, u = Value.int i t := r
    exact ⟨[], .int i t, by simp, fun _ => by simp only [PyData.hasDict]⟩
  | b, _, _, u, .str x, r => by
    obtain ⟨t, rfl⟩ : ∃ t, u = Value.str x t := r
    exact ⟨[], .str x t, by simp, fun _ => by simp only [PyData.hasDict]⟩
  | b, .ref a, _, u, .lst e n rl, r => by
    obtain rfl : u = Value.ref a := r
    obtain ⟨_, its, m, rv, ho⟩ := (show ObjOk P w H h a (.lst _) from ok a _ e)
    obtain ⟨as, h1, h2, h3⟩ := ShwL.reads ok rl rv
    refine ⟨a :: as, .list ho rfl rfl (by simpa using h1), fun hb hm => ?_, fun hb => by simp only [PyData.hasDict]; exact h3 hb⟩
    rcases List.mem_cons.mp hm with z | z
    · exact n hb z.symm
    · exact h2 hb z
  | b, .ref a, _, u, .tup e rl, r => by
    obtain rfl : u = Value.ref a := r
    obtain ⟨_, its, rv, o, ho, hc, m, hd⟩ := (show ObjOk P w H h a (.tup _) from ok a _ e)
    obtain ⟨as, h1, h2, h3⟩ := ShwL.reads ok rl rv
    exact ⟨as, .tuple ho hc hd (by simpa using h1), h2, fun hb => by simp only [PyData.hasDict]; exact h3 hb⟩
  | _, .ref a, _, u, .dK e rl, r => by
    obtain rfl : u = Value.ref a := r
    obtain ⟨_, hs, vs, kv, o, es, ep, ho, hx, hd, _, hp, _⟩ := (show ObjOk P w H h a (.dK _) from ok a _ e)
    obtain ⟨k1, k2⟩ := kv_vals kv
    obtain ⟨p1, p2⟩ := pairs_reads (h := h) hp
    obtain ⟨as, h1, h2, h3⟩ := ShwL.reads ok rl k2
    have hl := rl.length
    rw [List.length_map] at hl
    refine ⟨a :: [] ++ as, .dict ho hx.1 hd ?_ ?_, fun hb hm => ?_, fun hb => by cases hb⟩
    · rw [zip_fst (by rw [List.length_map, hl]), show (_ : List (Key × V)).map (fun p => keyD p.1) = vs.map (fun p => keyD p.1) from by
        have z := congrArg (List.map keyD) k1
        simpa [List.map_map, Function.comp_def] using z]
      exact p2
    · rw [zip_snd (by rw [List.length_map, hl]), p1]
      exact h1
    · rcases List.mem_cons.mp (by simpa using hm) with z | z
      · rw [← z] at hs
        simp at hs
      · exact h2 rfl z
  | _, .ref a, _, u, .dP e, r => by
    obtain rfl : u = Value.ref a := r
    obtain ⟨_, hs, xs, pr, o, es, ep, ho, hx, hd, hes, _⟩ := (show ObjOk P w H h a (.dT _) from ok a _ e)
    cases pr with
    | @cons _ q _ l₂ h1 h2 =>
      cases h2
      obtain ⟨e1, ht, hv⟩ := h1
      obtain ⟨k, t, z⟩ := q
      have e1' : [.inl 0, .inl 0] = k := e1
      subst e1'
      obtain ⟨_, its, rv, ot, hot, hct, m, hdt⟩ := (show ObjOk P w H h t (.tup _) from ok t _ ht)
      obtain ⟨tz, hz⟩ : ∃ tz, z = Value.int 0 tz := hv
      subst hz
      have rt : Reads h (.ref t) (.tuple [.int 0, .int 0]) ([] ++ ([] ++ [])) := by
        refine .tuple hot hct hdt ?_
        cases rv with
        | cons r1 r2 =>
          cases r2 with
          | cons r2 r3 =>
            cases r3
            obtain ⟨t1, rfl⟩ : ∃ t, _ = Value.int 0 t := r1
            obtain ⟨t2, rfl⟩ : ∃ t, _ = Value.int 0 t := r2
            exact .cons (.int 0 t1) (.cons (.int 0 t2) .nil)
      refine ⟨a :: ([] ++ ([] ++ []) ++ []) ++ ([] ++ []), .dict ho hx.1 hd ?_ ?_, fun _ hm => ?_, fun hb => by cases hb⟩
      · rw [hes]
        exact .cons rt .nil
      · rw [hes]
        exact .cons (.int 0 tz) .nil
      · have z : sysModules = a := by simpa using hm
        rw [← z] at hs
        simp at hs
  | _, .ref a, _, u, .odd e, r => by
    obtain rfl : u = Value.ref a := r
    obtain ⟨⟨hs, es, n, ho, en, hes, hk, t, hv⟩, _⟩ := (show ObjOk P w H h a (oddD a) from ok a _ e)
    refine ⟨a :: ([] ++ []) ++ ([] ++ []), .dict ho rfl rfl ?_ ?_, fun _ hm => ?_, fun hb => by cases hb⟩
    · rw [hes, List.map_cons, hk]
      exact .cons (.bool true) .nil
    · rw [hes, List.map_cons, hv]
      exact .cons (.int 0 t) .nil
    · have z : sysModules = a := by simpa using hm
      rw [← z] at hs
      simp at hs
theorem ShwL.reads {P : Program} {w : World} {H : Hp} {h : Heap} (ok : HOk P w H h) : ∀ {b : Bool} {xs : List V} {ds : List PyData} {us : List Value}, ShwL b H xs ds → Vals xs us →
    ∃ as, ReadsAll h us ds as ∧ (b = true → sysModules ∉ as) ∧ (b = false → PyData.hasDictAll ds = false)
  | b, _, _, _, .nil, .nil => ⟨[], .nil, by simp, fun _ => by simp only [PyData.hasDictAll]⟩
  | b, _, _, _, .cons s rl, .cons r rr => by
    obtain ⟨as, h1, h2, h3⟩ := Shw.reads ok s r
    obtain ⟨bs, g1, g2, g3⟩ := ShwL.reads ok rl rr
    refine ⟨as ++ bs, .cons h1 g1, fun hb hm => ?_, fun hb => by simp only [PyData.hasDictAll, h3 hb, g3 hb, Bool.or_self]⟩
    rcases List.mem_append.mp hm with z | z
    · exact h2 hb z
    · exact g2 hb z
end
/-! ### repr, where nothing is being shown -/
structure SmallD (d : PyData) : Prop where
  sh : d.showable = true
  len : d.shown.length ≤ sizeLine
  dep : d.depth ≤ 20
def rRepr : List V → Hp → VK → Prop := fun xs H Q => ∃ (b : Bool) (v : V) (d : PyData), xs = [v] ∧ Shw b H v d ∧ SmallD d ∧ Q (.str d.shown) H
theorem hsm_of {d : PyData} {b : Bool} {as : List Addr} (h2 : b = true → sysModules ∉ as) (h3 : b = false → d.hasDict = false) : d.hasDict = true → sysModules ∉ as := fun z => by
  cases b with
  | true => exact h2 rfl
  | false =>
    rw [h3 rfl] at z
    cases z
theorem call_reprG {X : Cx} (hg : X.A.guards = some []) (hu : X.A.units + 100 < cLine) : CallR X (.builtin "repr") rRepr := by
  intro pins s σ H xs us Q I r h
  obtain ⟨b, v, d, rfl, hv, sm, q⟩ := h
  obtain ⟨u, rfl, ru⟩ := vals1 r
  cases hv with
  | non =>
    obtain rfl : u = Value.none := ru
    exact P.repr_of_none ⟨.str _, H, I.tok _, ⟨_, rfl⟩, by simpa only [PyData.shown] using q⟩
  | bl x =>
    obtain rfl : u = Value.bool x := ru
    exact P.repr_of_bool ⟨.str _, H, I.tok _, ⟨_, rfl⟩, by simpa only [PyData.shown] using q⟩
  | int i =>
    obtain ⟨t, rfl⟩ : ∃ t, u = Value.int i t := ru
    exact P.repr_of_int (by simpa [PyData.showable] using sm.sh) ⟨.str _, H, I.tok _, ⟨_, rfl⟩, by simpa only [PyData.shown] using q⟩
  | str x =>
    obtain ⟨t, rfl⟩ : ∃ t, u = Value.str x t := ru
    have sl := sm.len
    simp only [PyData.shown] at sl
    exact P.repr_of_str ⟨.str _, H, I.tok _, ⟨_, rfl⟩, by simpa only [PyData.shown] using q⟩ sl
  | lst e n rl =>
    obtain ⟨as, h1, h2, h3⟩ := Shw.reads I.hok (.lst e n rl) ru
    obtain rfl : u = Value.ref _ := ru
    exact repr_of_reads' h1 sm.sh (hsm_of h2 h3) hg (by have := sm.dep; omega) (fun _ _ z => z) (fun h' w tk k => ⟨.str _, H, I.kept k, ⟨_, rfl⟩, q⟩) sm.len
  | tup e rl =>
    obtain ⟨as, h1, h2, h3⟩ := Shw.reads I.hok (.tup e rl) ru
    obtain rfl : u = Value.ref _ := ru
    exact repr_of_reads' h1 sm.sh (hsm_of h2 h3) hg (by have := sm.dep; omega) (fun _ _ z => z) (fun h' w tk k => ⟨.str _, H, I.kept k, ⟨_, rfl⟩, q⟩) sm.len
  | dK e rl =>
    obtain ⟨as, h1, h2, h3⟩ := Shw.reads I.hok (.dK e rl) ru
    obtain rfl : u = Value.ref _ := ru
    exact repr_of_reads' h1 sm.sh (hsm_of h2 h3) hg (by have := sm.dep; omega) (fun _ _ z => z) (fun h' w tk k => ⟨.str _, H, I.kept k, ⟨_, rfl⟩, q⟩) sm.len
  | dP e =>
    obtain ⟨as, h1, h2, h3⟩ := Shw.reads I.hok (.dP e) ru
    obtain rfl : u = Value.ref _ := ru
    exact repr_of_reads' h1 sm.sh (hsm_of h2 h3) hg (by have := sm.dep; omega) (fun _ _ z => z) (fun h' w tk k => ⟨.str _, H, I.kept k, ⟨_, rfl⟩, q⟩) sm.len
  | odd e =>
    obtain ⟨as, h1, h2, h3⟩ := Shw.reads I.hok (.odd e) ru
    obtain rfl : u = Value.ref _ := ru
    exact repr_of_reads' h1 sm.sh (hsm_of h2 h3) hg (by have := sm.dep; omega) (fun _ _ z => z) (fun h' w tk k => ⟨.str _, H, I.kept k, ⟨_, rfl⟩, q⟩) sm.len
end Ef

set_option Elab.async false
set_option linter.all false
set_option maxRecDepth 100000
set_option maxHeartbeats 4000000
namespace Ef
open PySem PySem.Spec PyProof.Rows L2 He
/-! ### is_integer -/
def oI : Option Int → V
  | none => .non
  | some i => .int i
def loB (l : Option Int) (i : Int) : Bool := l.all fun a => decide (a ≤ i)
def hiB (l : Option Int) (i : Int) : Bool := l.all fun a => decide (i ≤ a)
def isI (v : V) (l h : Option Int) : Bool := match v with
  | .int i => loB l i && hiB h i
  | _ => false
theorem itT {b : Bool} {A B : Prop} (h : b = true) (x : A) : if b = true then A else B := by
  rw [if_pos h]
  exact x
theorem itF {b : Bool} {A B : Prop} (h : b = false) (x : B) : if b = true then A else B := by
  rw [if_neg (by rw [h]; exact Bool.false_ne_true)]
  exact x
def pIsInt (K : PySem.W.Frag) (v lo hi : V) (H : Hp) (Q : VK) (_ : XK) : Prop := ∃ (k : Kd) (l h : Option Int), KdAt K H v k ∧ k.basic = true ∧ lo = oI l ∧ hi = oI h ∧ Q (.bl (isI v l h)) H
section
variable {P : Program} {w : World} {K : PySem.W.Frag} {mg : Str → Option Value} {base : Heap}
theorem sc_is_integer : FnScope ["value", "least", "most"] ["value", "least", "most"] (defScope s_is_integer) := ⟨rfl, rfl, rfl, by decide +kernel, rfl, by decide +kernel, by decide +kernel⟩
theorem not_int {K : PySem.W.Frag} {H : Hp} {v : V} {k : Kd} (h : KdAt K H v k) (hn : isKb k .int = false ∨ isKb k .bool = true) (l u : Option Int) : isI v l u = false := by
  cases k with
  | int => rcases hn with z | z <;> cases z
  | non => cases (show v = .non from h); rfl
  | bl => obtain ⟨_, rfl⟩ := h; rfl
  | str => obtain ⟨_, rfl⟩ := h; rfl
  | lst => obtain ⟨_, _, rfl, _⟩ := h; rfl
  | tup => obtain ⟨_, _, rfl, _⟩ := h; rfl
  | dct => obtain ⟨_, rfl, _⟩ := h; rfl
  | tab => obtain ⟨_, _, _, rfl, _⟩ := h; rfl
  | song => obtain ⟨_, _, _, rfl, _⟩ := h; rfl
theorem ok_is_integer (T : Top K mg) {f : Addr} {fd : FuncData} (F : FunD K "is_integer" "is_integer" (defArgs s_is_integer) (defBody s_is_integer) (defScope s_is_integer) [.non, .non] [] f fd) :
    FnOk P w K mg base CX0 1 f fd ["value", "least", "most"] (sp3 (pIsInt K)) := by
  refine FunD.ok F sc_is_integer len3 fun cdv A outer s H vs Q E hr h => ?_
  obtain ⟨v, lo, hi, rfl, k, l, u, hk, hb, rfl, rfl, q⟩ := h
  refine ⟨_, pss_cons (ps_if (PW.pt (pw_or (pt_not (pt_val (pe_callB call_isB (by rfl) T.b_isinstance (by decide +kernel) (pa_cons (pv 0) (pa_cons (pe_bltn (v := .ty "int") (by rfl) T.b_int (by decide +kernel) rfl) pa_nil)))))
      (pw_or1 (pt_val (pe_callB call_isB (by rfl) T.b_isinstance (by decide +kernel) (pa_cons (pv 0) (pa_cons (pe_bltn (v := .ty "bool") (by rfl) T.b_bool (by decide +kernel) rfl) pa_nil))))))) (pss_one (ps_ret pe_bl)) pss_nil)
    (pss_one (ps_ret (pe_and (pe_or (pe_cmp (pc_isN (pv 1)) rfl) (pe_one (pe_cmp (pc_ge (pv 0) (pv 1)) rfl))) (pe_one (pe_or (pe_cmp (pc_isN (pv 2)) rfl) (pe_one (pe_cmp (pc_le (pv 0) (pv 2)) rfl))))))), ?_⟩
  refine ⟨_, rfl, v, k, .int, rfl, hk, hb, _, rfl, ?_⟩
  cases hi : isKb k .int with
  | false =>
    rw [not_int hk (.inl hi)] at q
    exact iteT (iteT q)
  | true =>
    refine iteF ⟨_, rfl, v, k, .bool, rfl, hk, hb, _, rfl, ?_⟩
    cases hbo : isKb k .bool with
    | true =>
      rw [not_int hk (.inr hbo)] at q
      exact iteT q
    | false =>
      have e : k = .int := by cases k <;> first | rfl | (cases hi; done) | (cases hbo; done)
      subst e
      obtain ⟨i, rfl⟩ := hk
      refine iteF ?_
      cases l with
      | none =>
        refine ⟨_, rfl, true, rfl, iteT ⟨true, rfl, iteT ?_⟩⟩
        cases u with
        | none => exact ⟨_, rfl, true, rfl, iteT q⟩
        | some b => exact ⟨_, rfl, false, rfl, iteF ⟨_, rfl, _, rfl, _, _, rfl, rfl, q⟩⟩
      | some a =>
        refine ⟨_, rfl, false, rfl, iteF ⟨_, rfl, _, rfl, _, _, rfl, rfl, _, rfl, ?_⟩⟩
        by_cases c : a ≤ i
        · refine itT (decide_eq_true c) ?_
          rw [show isI (.int i) (some a) u = hiB u i by simp [isI, loB, c]] at q
          cases u with
          | none => exact ⟨_, rfl, true, rfl, iteT q⟩
          | some b => exact ⟨_, rfl, false, rfl, iteF ⟨_, rfl, _, rfl, _, _, rfl, rfl, q⟩⟩
        · refine itF (decide_eq_false c) ?_
          rw [show isI (.int i) (some a) u = false by simp [isI, loB, c]] at q
          exact q
theorem is_integer3 (T : Top K mg) : Clb P w K mg base CX0 1 "is_integer" (sp3 (pIsInt K)) := by
  obtain ⟨fd, F⟩ := T.d_is_integer
  obtain ⟨ds, r, b⟩ := F.binds1 (ps := ["value", "least", "most"]) 3 2 (by simp) rfl fun T kV doc pm an cdv ct us its h1 h2 => match us, its, h1, h2 with | [_, _, _], [_, _], _, _ => ⟨_, rfl, rfl⟩
  have G := (ok_is_integer (P := P) (w := w) (base := base) T F).raw b r
  exact ⟨⟨_, G.imp fun vs H Q E h => by
    obtain ⟨a, b, c, rfl, h⟩ := h
    exact ⟨a, b, c, rfl, h⟩, T.g_is_integer, F.kp⟩⟩
theorem is_integer2 (T : Top K mg) : Clb P w K mg base CX0 1 "is_integer" (sp2 fun v lo H Q E => pIsInt K v lo .non H Q E) := by
  obtain ⟨fd, F⟩ := T.d_is_integer
  obtain ⟨ds, r, b⟩ := F.binds1 (ps := ["value", "least", "most"]) 2 1 (by simp) rfl fun T kV doc pm an cdv ct us its h1 h2 => match us, its, h1, h2 with | [_, _], [_, _], _, _ => ⟨_, rfl, rfl⟩
  have G := (ok_is_integer (P := P) (w := w) (base := base) T F).raw b r
  exact ⟨⟨_, G.imp fun vs H Q E h => by
    obtain ⟨a, b, rfl, h⟩ := h
    exact ⟨a, b, .non, rfl, h⟩, T.g_is_integer, F.kp⟩⟩
theorem is_integer1 (T : Top K mg) : Clb P w K mg base CX0 1 "is_integer" (sp1 fun v H Q E => pIsInt K v .non .non H Q E) := by
  obtain ⟨fd, F⟩ := T.d_is_integer
  obtain ⟨ds, r, b⟩ := F.binds1 (ps := ["value", "least", "most"]) 1 0 (by simp) rfl fun T kV doc pm an cdv ct us its h1 h2 => match us, its, h1, h2 with | [_], [_, _], _, _ => ⟨_, rfl, rfl⟩
  have G := (ok_is_integer (P := P) (w := w) (base := base) T F).raw b r
  exact ⟨⟨_, G.imp fun vs H Q E h => by
    obtain ⟨a, rfl, h⟩ := h
    exact ⟨a, .non, .non, rfl, h⟩, T.g_is_integer, F.kp⟩⟩
end
end Ef

set_option Elab.async false
set_option linter.all false
set_option maxRecDepth 100000
set_option maxHeartbeats 4000000
namespace Ef
open PySem PySem.Spec PyProof.Rows L2 He
/-! ### what a step leaves: all but the pen; all that is never changed -/
def npen : HO → Bool
  | .dK ((.inr x, _) :: _) => !decide (x = "cells")
  | _ => true
def imm (K : PySem.W.Frag) : HO → Bool
  | .tup _ => true
  | .own _ => true
  | .ins C _ _ => !decide (C = ga K "Book")
  | .dK ((.inr x, _) :: _) => !decide (x = "cells")
  | .dK _ => true
  | _ => false
def Fp (H H' : Hp) : Prop := ∀ a o, H a = some o → npen o = true → H' a = some o
def Fi (K : PySem.W.Frag) (H H' : Hp) : Prop := ∀ a o, H a = some o → imm K o = true → H' a = some o
theorem imm_npen {K : PySem.W.Frag} {o : HO} (h : imm K o = true) : npen o = true := by
  unfold imm at h
  unfold npen
  split at h <;> first | rfl | exact h | (split <;> first | rfl | simp_all)
section
variable {K : PySem.W.Frag} {H H1 H2 : Hp}
theorem Fp.refl (H : Hp) : Fp H H := fun _ _ h _ => h
theorem Fp.trans (a : Fp H H1) (b : Fp H1 H2) : Fp H H2 := fun c o h n => b c o (a c o h n) n
theorem Fp.of (a : Same H H1) : Fp H H1 := fun c o h _ => a c o h
theorem Fp.fi (a : Fp H H1) : Fi K H H1 := fun c o h n => a c o h (imm_npen n)
theorem Fi.refl (H : Hp) : Fi K H H := fun _ _ h _ => h
theorem Fi.trans (a : Fi K H H1) (b : Fi K H1 H2) : Fi K H H2 := fun c o h n => b c o (a c o h n) n
theorem Fi.of (a : Same H H1) : Fi K H H1 := fun c o h _ => a c o h
theorem Same.new {p : Addr} {o : HO} (h : H p = none) : Same H (upd H p o) := fun a u e => by
  rw [upd_ne (ne_of_none e h)]
  exact e
theorem Same.at {a : Addr} {o : HO} (k : Same H H1) (h : H a = some o) : H1 a = some o := k a o h
theorem Fp.at {a : Addr} {o : HO} (k : Fp H H1) (h : H a = some o) (n : npen o = true) : H1 a = some o := k a o h n
theorem Same.snd {p : Addr} {o : HO} (k : Same H H1) (h : H1 p = none) : Same H (upd H1 p o) := k.trans (Same.new h)
/-- an object that stands new may change -/
theorem Same.mut {p : Addr} {o : HO} (k : Same H H1) (h : H p = none) : Same H (upd H1 p o) := fun a u e => by
  rw [upd_ne (ne_of_none e h)]
  exact k a u e
end
/-! ### sequences, prices, rows -/
abbrev Rw := List (List (Option Int))
/-- rows: as a list of lists, as a tuple of tuples -/
def RowsL (H : Hp) (v : V) (R : Rw) : Prop := ∃ a xs, v = .ref a ∧ H a = some (.lst xs) ∧ Paired (fun x (r : List (Option Int)) => ∃ b, x = V.ref b ∧ H b = some (.lst (r.map oI))) xs R
def RowsT (H : Hp) (v : V) (R : Rw) : Prop := ∃ a xs, v = .ref a ∧ H a = some (.tup xs) ∧ Paired (fun x (r : List (Option Int)) => ∃ b, x = V.ref b ∧ H b = some (.tup (r.map oI))) xs R
def OkP (p : Option Int) : Prop := ∀ i, p = some i → 0 ≤ i ∧ i ≤ 5
structure OkR (n : Nat) (R : Rw) : Prop where
  len : R.length = n
  lo : 1 ≤ n
  hi : n ≤ 5
  row : ∀ r ∈ R, r.length = n ∧ ∀ p ∈ r, OkP p
theorem paired_mono {α β : Type} {F G : α → β → Prop} : ∀ {l₁ : List α} {l₂ : List β}, Paired F l₁ l₂ → (∀ a b, F a b → G a b) → Paired G l₁ l₂ := fun h f => Paired.mapP h f
theorem paired_get {α β : Type} {F : α → β → Prop} : ∀ {l₁ : List α} {l₂ : List β} {i : Nat} {x : α}, Paired F l₁ l₂ → l₁[i]? = some x → ∃ y, l₂[i]? = some y ∧ F x y
  | _, _, _, _, .nil, e => by simp at e
  | _, _, 0, _, .cons r _, e => by simp at e; subst e; exact ⟨_, rfl, r⟩
  | _, _, i + 1, x, .cons _ t, e => by
    obtain ⟨y, h1, h2⟩ := paired_get (i := i) (x := x) t (by simpa using e)
    exact ⟨y, by simpa using h1, h2⟩
theorem paired_snoc {α β : Type} {F : α → β → Prop} : ∀ {l₁ : List α} {l₂ : List β} {x : α} {y : β}, Paired F l₁ l₂ → F x y → Paired F (l₁ ++ [x]) (l₂ ++ [y])
  | _, _, _, _, .nil, h => .cons h .nil
  | _, _, _, _, .cons r t, h => .cons r (paired_snoc t h)
theorem RowsT.fi {K : PySem.W.Frag} {H H1 : Hp} {v : V} {R : Rw} (k : Fi K H H1) (h : RowsT H v R) : RowsT H1 v R := by
  obtain ⟨a, xs, e, h, p⟩ := h
  exact ⟨a, xs, e, k _ _ h rfl, paired_mono p fun x r ⟨b, e, h⟩ => ⟨b, e, k _ _ h rfl⟩⟩
theorem RowsT.same {H H1 : Hp} {v : V} {R : Rw} (k : Same H H1) (h : RowsT H v R) : RowsT H1 v R := by
  obtain ⟨a, xs, e, h, p⟩ := h
  exact ⟨a, xs, e, k _ _ h, paired_mono p fun x r ⟨b, e, h⟩ => ⟨b, e, k _ _ h⟩⟩
theorem RowsL.same {H H1 : Hp} {v : V} {R : Rw} (k : Same H H1) (h : RowsL H v R) : RowsL H1 v R := by
  obtain ⟨a, xs, e, h, p⟩ := h
  exact ⟨a, xs, e, k _ _ h, paired_mono p fun x r ⟨b, e, h⟩ => ⟨b, e, k _ _ h⟩⟩
/-- attributes -/
theorem lk_hd {f : Str} {v : V} {r : List (Str × V)} : List.lookup f ((f, v) :: r) = some v := by simp [List.lookup]
theorem lk_tl {f g : Str} {v : V} {r : List (Str × V)} (h : ¬ g = f) : List.lookup g ((f, v) :: r) = List.lookup g r := by
  have e : (g == f) = false := by simpa using h
  simp [List.lookup, e]
theorem pf_nil {f : Str} {v : V} : putF f v [] = [(f, v)] := rfl
theorem pf_hd {f : Str} {v u : V} {r : List (Str × V)} : putF f v ((f, u) :: r) = (f, v) :: r := by
  show (if f = f then _ else _) = _
  rw [if_pos rfl]
theorem pf_tl {f g : Str} {v u : V} {r : List (Str × V)} (h : ¬ g = f) : putF f v ((g, u) :: r) = (g, u) :: putF f v r := by
  show (if g = f then _ else _) = _
  rw [if_neg h]
/-- a table -/
def TabAt (K : PySem.W.Frag) (H : Hp) (v : V) (R : Rw) : Prop := ∃ a dx t, v = .ref a ∧ H a = some (.ins (ga K "Table") dx [(("entries" : Str), t)]) ∧ RowsT H t R
theorem TabAt.fi {K : PySem.W.Frag} {H H1 : Hp} (hne : ga K "Table" ≠ ga K "Book") {v : V} {R : Rw} (k : Fi K H H1) (h : TabAt K H v R) : TabAt K H1 v R := by
  obtain ⟨a, dx, t, e, h, r⟩ := h
  exact ⟨a, dx, t, e, k _ _ h (by simp [imm, hne]), r.fi k⟩
end Ef
/-- the attributes' readings; what stands at an address -/
local macro_rules | `(tactic| walk_at "ef lk") => `(tactic| first | exact Ef.lk_hd | (refine (Ef.lk_tl (by decide +kernel)).trans ?_; walk_at "ef lk") | rfl)
example (x y z : L2.V) : List.lookup ("c" : PySem.Str) [(("a" : PySem.Str), x), (("b" : PySem.Str), y), (("c" : PySem.Str), z)] = some z := by walk_at "ef lk"
example (x y z : L2.V) : List.lookup ("d" : PySem.Str) [(("a" : PySem.Str), x), (("b" : PySem.Str), y), (("c" : PySem.Str), z)] = none := by walk_at "ef lk"

set_option Elab.async false
set_option linter.all false
set_option maxRecDepth 100000
set_option maxHeartbeats 4000000
namespace Ef
open PySem PySem.Spec PyProof.Rows L2 He
section
variable {P : Program} {w : World} {K : PySem.W.Frag} {mg : Str → Option Value} {base : Heap}
/-! ### is_list, is_price -/
theorem bnd_is_list : BindN "is_list" "is_list" s_is_list ["value"] := fun _ _ _ _ _ _ us hl => match us, hl with | [_], _ => rfl
theorem sc_is_list : FnScope ["value"] ["value"] (defScope s_is_list) := ⟨rfl, rfl, rfl, by decide +kernel, rfl, by decide +kernel, by decide +kernel⟩
def pIsList (v : V) (H : Hp) (Q : VK) (_ : XK) : Prop := ∃ a xs, v = .ref a ∧ (H a = some (.lst xs) ∨ H a = some (.tup xs)) ∧ ∀ H', Same H H' → Q (.bl true) H'
theorem is_list (T : Top K mg) : Clb P w K mg base CX0 1 "is_list" (sp1 pIsList) := by
  obtain ⟨fd, F⟩ := T.d_is_list
  refine Clb.of T.g_is_list F (fnN1 F sc_is_list bnd_is_list fun cdv A outer s H v Q E hr h => ?_)
  obtain ⟨a, xs, rfl, ha, q⟩ := h
  refine ⟨_, pss_one (ps_ret (pe_callB call_isiT (by rfl) T.b_isinstance (by decide +kernel) (pa_cons (pv 0) (pa_cons (pe_tup (pa_cons (pe_bltn (v := .ty "list") (by rfl) T.b_list (by decide +kernel) rfl) (pa_cons (pe_bltn (v := .ty "tuple") (by rfl) T.b_tuple (by decide +kernel) rfl) pa_nil))) pa_nil)))), ?_⟩
  refine ⟨_, rfl, (by show 2 ≤ sizeLine; decide), fun p hp => ?_⟩
  rcases ha with ha | ha
  · exact ⟨_, p, _, .type "list", [.type "list", .type "tuple"], true, rfl, upd_same, .cons (.ty _) (.cons (.ty _) .nil), .base (.lst (by rw [upd_ne (ne_of_none ha hp)]; exact ha)),
      kitAny_cons (b := true) (kit_ty (by decide +kernel)) (fun z => nomatch z) (fun _ => rfl), q _ (Same.new hp)⟩
  · exact ⟨_, p, _, .type "tuple", [.type "list", .type "tuple"], true, rfl, upd_same, .cons (.ty _) (.cons (.ty _) .nil), .base (.tup (by rw [upd_ne (ne_of_none ha hp)]; exact ha)),
      kitAny_cons (b := false) (kit_ty (by decide +kernel)) (fun _ => kitAny_cons (b := true) (kit_ty (by decide +kernel)) (fun z => nomatch z) (fun _ => rfl)) (fun z => nomatch z), q _ (Same.new hp)⟩
theorem bnd_is_price : BindN "is_price" "is_price" s_is_price ["value"] := fun _ _ _ _ _ _ us hl => match us, hl with | [_], _ => rfl
theorem sc_is_price : FnScope ["value"] ["value"] (defScope s_is_price) := ⟨rfl, rfl, rfl, by decide +kernel, rfl, by decide +kernel, by decide +kernel⟩
def isPr (v : V) : Bool := decide (v = .non) || isI v (some 0) none
def pIsPrice (K : PySem.W.Frag) (v : V) (H : Hp) (Q : VK) (_ : XK) : Prop := ∃ k, KdAt K H v k ∧ k.basic = true ∧ Q (.bl (isPr v)) H
theorem is_price (T : Top K mg) : Clb P w K mg base CX0 2 "is_price" (sp1 (pIsPrice K)) := by
  obtain ⟨fd, F⟩ := T.d_is_price
  refine Clb.of T.g_is_price F (fnN1 F sc_is_price bnd_is_price fun cdv A outer s H v Q E hr h => ?_)
  obtain ⟨k, hk, hb, q⟩ := h
  refine ⟨_, pss_one (ps_ret (pe_or (pe_cmp (pc_isN (pv 0)) rfl) (pe_one (pe_f (is_integer2 T) hr pass0 (pa_cons (pv 0) (pa_cons pe_int pa_nil)))))), ?_⟩
  refine ⟨_, rfl, _, rfl, ?_⟩
  by_cases c : v = .non
  · refine itT (decide_eq_true c) ?_
    rw [show isPr v = true by simp [isPr, c]] at q
    exact q
  · refine itF (decide_eq_false c) ⟨_, rfl, _, _, rfl, k, some 0, none, hk, hb, rfl, rfl, ?_⟩
    rw [show isPr v = isI v (some 0) none by simp [isPr, c]] at q
    exact q
end
end Ef

set_option Elab.async false
set_option linter.all false
set_option maxRecDepth 100000
set_option maxHeartbeats 4000000
namespace Ef
open PySem PySem.Spec PyProof.Rows L2 He
section
variable {P : Program} {w : World} {K : PySem.W.Frag} {mg : Str → Option Value} {base : Heap}
/-! ### need_letters -/
theorem bnd_need_letters : BindN "need_letters" "need_letters" s_need_letters ["letters"] := fun _ _ _ _ _ _ us hl => match us, hl with | [_], _ => rfl
theorem sc_need_letters : FnScope ["letters"] ["letters"] (defScope s_need_letters) := ⟨rfl, rfl, rfl, by decide +kernel, rfl, by decide +kernel, by decide +kernel⟩
def pNeedLetters (v : V) (H : Hp) (Q : VK) (_ : XK) : Prop := ∃ k : Int, v = .int k ∧ 1 ≤ k ∧ k ≤ 5 ∧ Q .non H
theorem need_letters (T : Top K mg) : Clb P w K mg base CX0 2 "need_letters" (sp1 pNeedLetters) := by
  obtain ⟨fd, F⟩ := T.d_need_letters
  refine Clb.of T.g_need_letters F (fnN1 F sc_need_letters bnd_need_letters fun cdv A outer s H v Q E hr h => ?_)
  obtain ⟨k, rfl, h1, h5, q⟩ := h
  refine ⟨_, pss_one (ps_if (pt_not (pt_val (pe_f (is_integer3 T) hr pass0 (pa_cons (pv 0) (pa_cons pe_int (pa_cons (C8.pe_gc (by rfl) T.v_MAX_LETTERS) pa_nil)))))) (pss_one ps_never) pss_nil), ?_⟩
  refine ⟨_, rfl, _, _, _, rfl, .int, some 1, some 5, ⟨k, rfl⟩, rfl, rfl, rfl, _, rfl, ?_⟩
  rw [show isI (.int k) (some 1) (some 5) = true by simp [isI, loB, hiB, h1, h5]]
  exact iteF q
/-! ### are_rows -/
theorem bnd_are_rows : BindN "are_rows" "are_rows" s_are_rows ["value"] := fun _ _ _ _ _ _ us hl => match us, hl with | [_], _ => rfl
theorem sc_are_rows : FnScope ["value", "row", "price"] ["value"] (defScope s_are_rows) := ⟨rfl, rfl, rfl, by decide +kernel, rfl, by decide +kernel, by decide +kernel⟩
theorem kd_oI (K : PySem.W.Frag) (H : Hp) (p : Option Int) : ∃ k, KdAt K H (oI p) k ∧ k.basic = true := by
  cases p with
  | none => exact ⟨.non, rfl, rfl⟩
  | some i => exact ⟨.int, ⟨i, rfl⟩, rfl⟩
theorem isPr_ok {p : Option Int} (h : OkP p) : isPr (oI p) = true := by
  cases p with
  | none => rfl
  | some i => simp [isPr, oI, isI, loB, hiB, (h i rfl).1]
def pAreRows (n : Nat) (R : Rw) (v : V) (H : Hp) (Q : VK) (_ : XK) : Prop := OkR n R ∧ (RowsT H v R ∨ RowsL H v R) ∧ ∀ H', Same H H' → Q (.bl true) H'
theorem are_rows (T : Top K mg) : Clb P w K mg base CX0 3 "are_rows" (sp1 fun v H Q E => ∃ n R, pAreRows n R v H Q E) := by
  obtain ⟨fd, F⟩ := T.d_are_rows
  refine Clb.of T.g_are_rows F (fnN1 F sc_are_rows bnd_are_rows fun cdv A outer s H v Q E hr h => ?_)
  obtain ⟨n, R, ok, hR, q⟩ := h
  have hr1 : Room 1 _ := hr.mono (by decide)
  rcases hR with hR | hR
  · obtain ⟨a, xs, rfl, ha, pr⟩ := hR
    refine ⟨_, pss_cons (ps_if (PW.pt (pw_or (pt_not (pt_val (pe_f (is_list T) hr1 pass0 (pa_cons (pv 0) pa_nil))))
        (pw_or1 (pt_not (pt_chain op_le op_le pe_int (pe_callB call_len (by rfl) T.b_len (by decide +kernel) (pa_cons (pv 0) pa_nil)) (C8.pe_gc (by rfl) T.v_MAX_LETTERS)))))) (pss_one ps_never) pss_nil)
      (pss_cons (ps_for PassesOwn.never rfl (pi_tup (pv 0)) (pg_name (i := 1) sc_are_rows.nd rfl (.inl rfl))
        (pss_one (ps_if (PW.pt (pw_or (pt_not (pt_val (pe_f (is_list T) hr1 pass0 (pa_cons (pv 1) pa_nil))))
          (pw_or (pt_cmpR op_ne (pe_callB call_len (by rfl) T.b_len (by decide +kernel) (pa_cons (pv 1) pa_nil)) (pe_callB call_len (by rfl) T.b_len (by decide +kernel) (pa_cons (pv 0) pa_nil)) (nomark _))
          (pw_or1 (pt_not (pt_val (pe_callB (cr_all rfl) (by rfl) T.b_all (by decide +kernel) (pa_cons (pe_lc (own := [("price", 2)]) (g := gName 2) (tt := tYes) rfl sc_are_rows.nd (pi_tup (pv 1)) (blkOk_by (N := ["value", "row", "price"]) (sc := defScope s_are_rows) (by decide +kernel))
            (fun _ _ _ _ _ => pg_name (i := 2) sc_are_rows.nd rfl (.inl rfl)) (fun _ _ _ _ _ => pts_nil) (fun _ _ _ _ _ => pe_f (is_price T) hr pass0 (pa_cons (pv 2) pa_nil))) pa_nil)))))))) (pss_one ps_never) pss_nil)))
      (pss_one (ps_ret pe_bl))), ?_⟩
    have hl : xs.length = n := by rw [Paired.length pr, ok.len]
    refine ⟨_, rfl, _, rfl, a, xs, rfl, .inr ha, fun H1 k1 => ⟨true, rfl, iteF ?_⟩⟩
    refine ⟨_, rfl, _, n, rfl, .inr ⟨xs, SqT.of (k1 _ _ ha), hl.symm⟩, _, _, rfl, rfl, _, rfl, itT (decide_eq_true (by have := ok.lo; omega)) ⟨_, _, rfl, rfl, _, rfl, ?_⟩⟩
    rw [decide_eq_true (show (n : Int) ≤ 5 by have := ok.hi; omega)]
    refine iteF ?_
    refine ⟨_, rfl, a, rfl, ⟨_, SqT.of (k1 _ _ ha)⟩, for_tup (K := K) (a := a) (xs := xs) (fun i σ H2 => ∃ u z, σ = [some (.ref a), u, z] ∧ Same H H2) ⟨_, _, rfl, k1⟩ (fun i σ H2 _ ⟨_, _, _, s2⟩ => SqT.of (s2 _ _ ha)) ?_ ?_⟩
    · rintro i y σ H2 hi ⟨u, z, rfl, s2⟩
      obtain ⟨r, hrr, b, rfl, hb⟩ := paired_get pr hi
      obtain ⟨hlen, hp⟩ := ok.row r (List.mem_of_getElem? hrr)
      refine ⟨_, rfl, _, rfl, b, _, rfl, .inr (s2 _ _ hb), fun H3 k3 => ⟨true, rfl, iteF ?_⟩⟩
      have hb3 := k3 _ _ (s2 _ _ hb)
      have ha3 := k3 _ _ (s2 _ _ ha)
      refine ⟨_, rfl, _, n, rfl, .inr ⟨_, SqT.of hb3, by rw [List.length_map, hlen]⟩, _, rfl, _, n, rfl, .inr ⟨_, SqT.of ha3, hl.symm⟩, rfl, _, rfl, ?_⟩
      refine itF (by simp) ?_
      refine ⟨_, rfl, b, rfl, ⟨_, SqT.of hb3⟩, fun D nD => lc_tup (K := K) (a := b) (xs := r.map oI) (fun i H4 => Same H3 H4 ∧ H4 D = some (.lst ((List.replicate i true).map V.bl)) ∧ i ≤ r.length) ⟨Same.new nD, upd_same, Nat.zero_le _⟩
        (fun i H4 _ h => SqT.of (h.1 _ _ hb3)) ?_ ?_⟩
      · rintro j y H4 hj ⟨s4, d4, l4⟩
        rw [List.getElem?_map] at hj
        cases ej : r[j]? with
        | none => rw [ej] at hj; cases hj
        | some p =>
          rw [ej] at hj
          cases hj
          have hjl : j < r.length := (List.getElem?_eq_some_iff.mp ej).1
          obtain ⟨k, hk, hkb⟩ := kd_oI K H4 p
          refine ⟨rfl, ?_⟩
          refine ⟨_, rfl, _, rfl, k, hk, hkb, ?_⟩
          rw [isPr_ok (hp p (List.mem_of_getElem? ej))]
          refine ⟨_, d4, ?_, Same.mut s4 nD, ?_, hjl⟩
          · rw [List.length_map, List.length_replicate, sizeLine_eq]
            have := ok.hi
            omega
          · rw [upd_same, List.replicate_succ', List.map_append]
            rfl
      · rintro H4 ⟨s4, d4, l4⟩
        refine ⟨D, _, rfl, SqL.of d4, _, rfl, ?_⟩
        rw [show (List.replicate (r.map oI).length true).all id = true by simp]
        exact iteF ⟨_, _, rfl, Same.trans (Same.trans s2 k3) s4⟩
    · rintro σ H2 ⟨u, z, rfl, s2⟩
      exact q _ s2
  · obtain ⟨a, xs, rfl, ha, pr⟩ := hR
    refine ⟨_, pss_cons (ps_if (PW.pt (pw_or (pt_not (pt_val (pe_f (is_list T) hr1 pass0 (pa_cons (pv 0) pa_nil))))
        (pw_or1 (pt_not (pt_chain op_le op_le pe_int (pe_callB call_len (by rfl) T.b_len (by decide +kernel) (pa_cons (pv 0) pa_nil)) (C8.pe_gc (by rfl) T.v_MAX_LETTERS)))))) (pss_one ps_never) pss_nil)
      (pss_cons (ps_for PassesOwn.never rfl (pi_list (pv 0)) (pg_name (i := 1) sc_are_rows.nd rfl (.inl rfl))
        (pss_one (ps_if (PW.pt (pw_or (pt_not (pt_val (pe_f (is_list T) hr1 pass0 (pa_cons (pv 1) pa_nil))))
          (pw_or (pt_cmpR op_ne (pe_callB call_len (by rfl) T.b_len (by decide +kernel) (pa_cons (pv 1) pa_nil)) (pe_callB call_len (by rfl) T.b_len (by decide +kernel) (pa_cons (pv 0) pa_nil)) (nomark _))
          (pw_or1 (pt_not (pt_val (pe_callB (cr_all rfl) (by rfl) T.b_all (by decide +kernel) (pa_cons (pe_lc (own := [("price", 2)]) (g := gName 2) (tt := tYes) rfl sc_are_rows.nd (pi_list (pv 1)) (blkOk_by (N := ["value", "row", "price"]) (sc := defScope s_are_rows) (by decide +kernel))
            (fun _ _ _ _ _ => pg_name (i := 2) sc_are_rows.nd rfl (.inl rfl)) (fun _ _ _ _ _ => pts_nil) (fun _ _ _ _ _ => pe_f (is_price T) hr pass0 (pa_cons (pv 2) pa_nil))) pa_nil)))))))) (pss_one ps_never) pss_nil)))
      (pss_one (ps_ret pe_bl))), ?_⟩
    have hl : xs.length = n := by rw [Paired.length pr, ok.len]
    refine ⟨_, rfl, _, rfl, a, xs, rfl, .inl ha, fun H1 k1 => ⟨true, rfl, iteF ?_⟩⟩
    refine ⟨_, rfl, _, n, rfl, .inl ⟨xs, SqL.of (k1 _ _ ha), hl.symm⟩, _, _, rfl, rfl, _, rfl, itT (decide_eq_true (by have := ok.lo; omega)) ⟨_, _, rfl, rfl, _, rfl, ?_⟩⟩
    rw [decide_eq_true (show (n : Int) ≤ 5 by have := ok.hi; omega)]
    refine iteF ?_
    refine ⟨_, rfl, a, rfl, ⟨_, SqL.of (k1 _ _ ha)⟩, for_list (K := K) (a := a) (xs := xs) (fun i σ H2 => ∃ u z, σ = [some (.ref a), u, z] ∧ Same H H2) ⟨_, _, rfl, k1⟩ (fun i σ H2 _ ⟨_, _, _, s2⟩ => SqL.of (s2 _ _ ha)) ?_ ?_⟩
    · rintro i y σ H2 hi ⟨u, z, rfl, s2⟩
      obtain ⟨r, hrr, b, rfl, hb⟩ := paired_get pr hi
      obtain ⟨hlen, hp⟩ := ok.row r (List.mem_of_getElem? hrr)
      refine ⟨_, rfl, _, rfl, b, _, rfl, .inl (s2 _ _ hb), fun H3 k3 => ⟨true, rfl, iteF ?_⟩⟩
      have hb3 := k3 _ _ (s2 _ _ hb)
      have ha3 := k3 _ _ (s2 _ _ ha)
      refine ⟨_, rfl, _, n, rfl, .inl ⟨_, SqL.of hb3, by rw [List.length_map, hlen]⟩, _, rfl, _, n, rfl, .inl ⟨_, SqL.of ha3, hl.symm⟩, rfl, _, rfl, ?_⟩
      refine itF (by simp) ?_
      refine ⟨_, rfl, b, rfl, ⟨_, SqL.of hb3⟩, fun D nD => lc_list (K := K) (a := b) (xs := r.map oI) (fun i H4 => Same H3 H4 ∧ H4 D = some (.lst ((List.replicate i true).map V.bl)) ∧ i ≤ r.length) ⟨Same.new nD, upd_same, Nat.zero_le _⟩
        (fun i H4 _ h => SqL.of (h.1 _ _ hb3)) ?_ ?_⟩
      · rintro j y H4 hj ⟨s4, d4, l4⟩
        rw [List.getElem?_map] at hj
        cases ej : r[j]? with
        | none => rw [ej] at hj; cases hj
        | some p =>
          rw [ej] at hj
          cases hj
          have hjl : j < r.length := (List.getElem?_eq_some_iff.mp ej).1
          obtain ⟨k, hk, hkb⟩ := kd_oI K H4 p
          refine ⟨rfl, ?_⟩
          refine ⟨_, rfl, _, rfl, k, hk, hkb, ?_⟩
          rw [isPr_ok (hp p (List.mem_of_getElem? ej))]
          refine ⟨_, d4, ?_, Same.mut s4 nD, ?_, hjl⟩
          · rw [List.length_map, List.length_replicate, sizeLine_eq]
            have := ok.hi
            omega
          · rw [upd_same, List.replicate_succ', List.map_append]
            rfl
      · rintro H4 ⟨s4, d4, l4⟩
        refine ⟨D, _, rfl, SqL.of d4, _, rfl, ?_⟩
        rw [show (List.replicate (r.map oI).length true).all id = true by simp]
        exact iteF ⟨_, _, rfl, Same.trans (Same.trans s2 k3) s4⟩
    · rintro σ H2 ⟨u, z, rfl, s2⟩
      exact q _ s2
end
end Ef

set_option Elab.async false
set_option linter.all false
set_option maxRecDepth 100000
set_option maxHeartbeats 4000000
namespace Ef
open PySem PySem.Spec PyProof.Rows L2 He
/-! ### a property, a method -/
structure Prp (P : Program) (w : World) (K : PySem.W.Frag) (mg : Str → Option Value) (base : Heap) (CX : CXT) (k : Nat) (C : Addr) (m : Str) (sp : Sp) : Prop where
  ex : ∃ p g fd, PropOf K C m p g ∧ FnOk P w K mg base CX k g fd ["self"] sp ∧ Binds K fd ["self"] []
theorem pe_p {X : Cx} {CX : CXT} {k : Nat} {C : Addr} {m : Str} {sp : Sp} {E : XK} {e : Expr} {pos : Pos} {ta : TE} (c : Cls X.K C) (h : Prp X.prog X.w X.K X.mg X.base CX k C m sp) (hr : Room (k + 1) X.A) (hx : Passes CX X.nox E) (he : PE X e ta)
    (hab : attributeBase e m X.env (eval e X.env) = eval e X.env := by rfl) : PE X (.Attribute e m pos) (tProp C sp [] E ta) := by
  obtain ⟨p, g, fd, h1, h2, h3⟩ := h.ex
  exact pe_prop he c h1 h2 hr h3 .nil hx hab
section
variable {P : Program} {w : World} {K : PySem.W.Frag} {mg : Str → Option Value} {base : Heap}
theorem prp_of {CX : CXT} {k : Nat} {C : Addr} {m q : Str} {st : Stmt} {sp : Sp} {p g : Addr} {fd : FuncData} (h : PropOf K C m p g) (F : FnP K m q st g fd) (hb : BindN m q st ["self"]) (G : FnOk P w K mg base CX k g fd ["self"] sp) : Prp P w K mg base CX k C m sp :=
  ⟨⟨p, g, fd, h, G, F.bindsN hb⟩⟩
/-! ### Table -/
theorem bnd_Table_init : BindN "__init__" "Table.__init__" s_Table_init ["self", "rows"] := fun _ _ _ _ _ _ us hl => match us, hl with | [_, _], _ => rfl
theorem sc_Table_init : FnScope ["self", "rows", "row"] ["self", "rows"] (defScope s_Table_init) := ⟨rfl, rfl, rfl, by decide +kernel, rfl, by decide +kernel, by decide +kernel⟩
def pTabInit (K : PySem.W.Frag) (self v : V) (H : Hp) (Q : VK) (_ : XK) : Prop := ∃ p dx n R, self = .ref p ∧ H p = some (.ins (ga K "Table") dx []) ∧ OkR n R ∧ (RowsT H v R ∨ RowsL H v R) ∧
  ∀ H' t, (∀ b o, H b = some o → b ≠ p → H' b = some o) → H' p = some (.ins (ga K "Table") dx [(("entries" : Str), t)]) → RowsT H' t R → Q .non H'
/-- the rows stored at an instance -/
theorem tab_store {H H1 : Hp} {p dx C : Addr} {v : V} {R : Rw} (hp : H p = some (.ins C dx [])) (k : Same H H1) (h : RowsT H1 v R) : RowsT (upd H1 p (.ins C dx [(("entries" : Str), v)])) v R := by
  obtain ⟨a, xs, e, h, pr⟩ := h
  have hp1 := k _ _ hp
  refine ⟨a, xs, e, by rw [upd_ne (ne_of h hp1 (by intro z; cases z))]; exact h, paired_mono pr fun x r ⟨b, e, hb⟩ => ⟨b, e, by rw [upd_ne (ne_of hb hp1 (by intro z; cases z))]; exact hb⟩⟩
theorem Table_init (T : Top K mg) {f : Addr} {fd : FuncData} (F : FnP K "__init__" "Table.__init__" s_Table_init f fd) : FnR P w K mg base CX0 4 f (sp2 (pTabInit K)) := by
  refine fnN2 F sc_Table_init bnd_Table_init fun cdv A outer s H self v Q E hr h => ?_
  obtain ⟨p, dx, n, R, rfl, hp, ok, hR, q⟩ := h
  have fin : ∀ H1 (D : Addr) (xs : List V), Same H H1 → H1 D = some (.lst xs) → Paired (fun x (r : List (Option Int)) => ∃ b, x = V.ref b ∧ H1 b = some (.tup (r.map oI))) xs R → ∀ t, H1 t = none →
      Q .non (upd (upd H1 t (.tup xs)) p (.ins (ga K "Table") dx [(("entries" : Str), .ref t)])) := fun H1 D xs s1 hD pr t ht => by
    have s2 : Same H (upd H1 t (.tup xs)) := Same.snd s1 ht
    refine q _ (.ref t) (fun b o e hb => by rw [upd_ne hb]; exact s2 _ _ e) upd_same (tab_store hp s2 ⟨t, xs, rfl, upd_same, paired_mono pr fun x r ⟨b, e, hb⟩ => ⟨b, e, ?_⟩⟩)
    rw [upd_ne (ne_of_none hb ht)]
    exact hb
  rcases hR with hR | hR
  · obtain ⟨a, xs, rfl, ha, pr⟩ := id hR
    refine ⟨_, pss_cons (ps_if (pt_not (pt_val (pe_f (are_rows T) hr pass0 (pa_cons (pv 1) pa_nil)))) (pss_one ps_never) pss_nil)
      (pss_one (ps_fld (pv 0) (pe_tupleOf (by rfl) T.b_tuple (pe_lc (own := [("row", 2)]) (g := gName 2) (tt := tYes) (te := tThen (tVar 2) (kTup K)) rfl sc_Table_init.nd (pi_tup (pv 1)) (blkOk_by (N := ["self", "rows", "row"]) (sc := defScope s_Table_init) (by decide +kernel))
        (fun _ _ _ _ _ => pg_name (i := 2) sc_Table_init.nd rfl (.inl rfl)) (fun _ _ _ _ _ => pts_nil) (fun _ _ _ _ _ => pe_tupleOf (by rfl) T.b_tuple (pv 2)))) rfl)), ?_⟩
    refine ⟨_, rfl, _, rfl, n, R, ok, .inl hR, fun H1 s1 => ⟨true, rfl, iteF ?_⟩⟩
    have ha1 := s1 _ _ ha
    refine ⟨_, rfl, a, rfl, ⟨_, SqT.of ha1⟩, fun D nD => lc_tup (K := K) (a := a) (xs := xs) (fun i H2 => Same H1 H2 ∧ H2 D = some (.lst (xs.take i))) ⟨Same.new nD, upd_same⟩ (fun i H2 _ h => SqT.of (h.1 _ _ ha1)) ?_ ?_⟩
    · rintro i y H2 hi ⟨s2, d2⟩
      obtain ⟨r, hrr, b, rfl, hb⟩ := paired_get pr hi
      have hb2 := s2 _ _ (s1 _ _ hb)
      refine ⟨rfl, ?_⟩
      refine ⟨_, rfl, .inr ⟨b, _, rfl, SqT.of hb2, _, d2, ?_, Same.mut s2 nD, ?_⟩⟩
      · rw [List.length_take, sizeLine_eq]
        have := (Paired.length pr).trans ok.len
        have := ok.hi
        omega
      · rw [upd_same, List.take_succ, hi]
        rfl
    · rintro H2 ⟨s2, d2⟩
      rw [List.take_length] at d2
      have s3 := Same.trans s1 s2
      have hp2 := s3 _ _ hp
      refine .inl ⟨D, _, rfl, SqL.of d2, fun t ht => ?_⟩
      refine ⟨_, rfl, p, _, dx, _, rfl, by rw [upd_ne (ne_of_none hp2 ht)]; exact hp2, T.c_Table, T.n_Table_entries, by decide, ?_⟩
      exact fin H2 D xs s3 d2 (paired_mono pr fun x r ⟨b, e, hb⟩ => ⟨b, e, s3 _ _ hb⟩) t ht
  · obtain ⟨a, xs, rfl, ha, pr⟩ := id hR
    refine ⟨_, pss_cons (ps_if (pt_not (pt_val (pe_f (are_rows T) hr pass0 (pa_cons (pv 1) pa_nil)))) (pss_one ps_never) pss_nil)
      (pss_one (ps_fld (pv 0) (pe_tupleOf (by rfl) T.b_tuple (pe_lc (own := [("row", 2)]) (g := gName 2) (tt := tYes) (te := tThen (tVar 2) (kTup K)) rfl sc_Table_init.nd (pi_list (pv 1)) (blkOk_by (N := ["self", "rows", "row"]) (sc := defScope s_Table_init) (by decide +kernel))
        (fun _ _ _ _ _ => pg_name (i := 2) sc_Table_init.nd rfl (.inl rfl)) (fun _ _ _ _ _ => pts_nil) (fun _ _ _ _ _ => pe_tupleOf (by rfl) T.b_tuple (pv 2)))) rfl)), ?_⟩
    refine ⟨_, rfl, _, rfl, n, R, ok, .inr hR, fun H1 s1 => ⟨true, rfl, iteF ?_⟩⟩
    have ha1 := s1 _ _ ha
    have hlx : xs.length = n := (Paired.length pr).trans ok.len
    refine ⟨_, rfl, a, rfl, ⟨_, SqL.of ha1⟩, fun D nD => lc_list (K := K) (a := a) (xs := xs) (fun i H2 => Same H1 H2 ∧ ∃ ys, H2 D = some (.lst ys) ∧ ys.length = i ∧ i ≤ xs.length ∧ Paired (fun x (r : List (Option Int)) => ∃ b, x = V.ref b ∧ H2 b = some (.tup (r.map oI))) ys (R.take i))
      ⟨Same.new nD, [], upd_same, rfl, Nat.zero_le _, by rw [List.take_zero]; exact .nil⟩ (fun i H2 _ h => SqL.of (h.1 _ _ ha1)) ?_ ?_⟩
    · rintro i y H2 hi ⟨s2, ys, d2, ly, li, py⟩
      obtain ⟨r, hrr, b, rfl, hb⟩ := paired_get pr hi
      have hb2 := s2 _ _ (s1 _ _ hb)
      refine ⟨rfl, ?_⟩
      refine ⟨_, rfl, .inl ⟨b, _, rfl, SqL.of hb2, fun t ht => ⟨ys, ?_, ?_, ?_, ys ++ [.ref t], upd_same, ?_, ?_, ?_⟩⟩⟩
      · rw [upd_ne (ne_of_none d2 ht)]
        exact d2
      · rw [sizeLine_eq]
        have := ok.hi
        omega
      · exact Same.mut (Same.snd s2 ht) nD
      · rw [List.length_append, ly]
        rfl
      · exact (List.getElem?_eq_some_iff.mp hi).1
      · rw [List.take_succ, hrr]
        refine paired_snoc (paired_mono py fun x r ⟨b, e, hb⟩ => ⟨b, e, ?_⟩) ⟨t, rfl, ?_⟩
        · rw [upd_ne (ne_of hb d2 (by intro z; cases z)), upd_ne (ne_of_none hb ht)]
          exact hb
        · rw [upd_ne (ne_of_none d2 ht).symm, upd_same]
    · rintro H2 ⟨s2, ys, d2, ly, li, py⟩
      rw [hlx, ← ok.len, List.take_length] at py
      have s3 := Same.trans s1 s2
      have hp2 := s3 _ _ hp
      refine .inl ⟨D, _, rfl, SqL.of d2, fun t ht => ?_⟩
      refine ⟨_, rfl, p, _, dx, _, rfl, by rw [upd_ne (ne_of_none hp2 ht)]; exact hp2, T.c_Table, T.n_Table_entries, by decide, ?_⟩
      exact fin H2 D ys s3 d2 py t ht
end
end Ef

set_option Elab.async false
set_option linter.all false
set_option maxRecDepth 100000
set_option maxHeartbeats 4000000
namespace Ef
open PySem PySem.Spec PyProof.Rows L2 He
/-! ### the text of a table -/
def prT : Option Int → Str
  | none => "-"
  | some i => Str.ofString (toString i)
def rowT (r : List (Option Int)) : Str := Txt.join " " (r.map prT)
def tabT (R : Rw) : Str := Txt.join " / " (R.map rowT)
theorem join_le (y : Str) : ∀ ps : List Str, (Str.join y ps).length ≤ (ps.map (·.length)).sum + ps.length * y.length
  | [] => Nat.zero_le _
  | [p] => by
    show p.length ≤ _
    simp
  | p :: q :: r => by
    have ih := join_le y (q :: r)
    have e : (Str.join y (p :: q :: r)).length = p.length + y.length + (Str.join y (q :: r)).length := by
      show (p ++ y ++ Str.join y (q :: r)).length = _
      rw [PySem.Str.length_append, PySem.Str.length_append]
    rw [e, List.map_cons, List.sum_cons, List.length_cons, Nat.succ_mul]
    omega
theorem tjoin_le (y : Str) (ps : List Str) : (Txt.join y ps).length ≤ (ps.map (·.length)).sum + ps.length * y.length := by
  rw [TL.join_eq]
  exact join_le y ps
theorem sum_le {l : List Nat} {b : Nat} (h : ∀ x ∈ l, x ≤ b) : l.sum ≤ l.length * b := by
  induction l with
  | nil => simp
  | cons x r ih =>
    rw [List.sum_cons, List.length_cons, Nat.succ_mul]
    have h1 := h x List.mem_cons_self
    have h2 := ih fun y hy => h y (List.mem_cons_of_mem _ hy)
    omega
theorem small_len : ∀ i : Fin 6, (Str.ofString (toString ((i.val : Int)))).length ≤ 1 := by decide +kernel
theorem prT_len {p : Option Int} (h : OkP p) : (prT p).length ≤ 1 := by
  cases p with
  | none => show ("-" : Str).length ≤ 1; decide +kernel
  | some i =>
    obtain ⟨h0, h5⟩ := h i rfl
    have z := small_len ⟨i.toNat, by omega⟩
    have e : ((i.toNat : Nat) : Int) = i := by omega
    rw [show ((⟨i.toNat, by omega⟩ : Fin 6).val : Int) = i from e] at z
    exact z
theorem sp_len : (" " : Str).length = 1 := by decide +kernel
theorem sl_len : (" / " : Str).length = 3 := by decide +kernel
theorem row_sum {n : Nat} {r : List (Option Int)} (hl : r.length = n) (h : ∀ p ∈ r, OkP p) : ((r.map prT).map (·.length)).sum ≤ n := by
  have z := sum_le (l := (r.map prT).map (·.length)) (b := 1) (by
    intro x hx
    obtain ⟨y, hy, rfl⟩ := List.mem_map.mp hx
    obtain ⟨p, hp, rfl⟩ := List.mem_map.mp hy
    exact prT_len (h p hp))
  rw [List.length_map, List.length_map, hl] at z
  omega
theorem rowT_len {n : Nat} {r : List (Option Int)} (hl : r.length = n) (hn : n ≤ 5) (h : ∀ p ∈ r, OkP p) : (rowT r).length ≤ 10 := by
  have z := tjoin_le " " (r.map prT)
  have z2 := row_sum hl h
  rw [List.length_map, hl, sp_len] at z
  show (Txt.join " " (r.map prT)).length ≤ 10
  omega
theorem tab_sum {n : Nat} {R : Rw} (ok : OkR n R) : ((R.map rowT).map (·.length)).sum ≤ 50 := by
  have z := sum_le (l := (R.map rowT).map (·.length)) (b := 10) (by
    intro x hx
    obtain ⟨y, hy, rfl⟩ := List.mem_map.mp hx
    obtain ⟨r, hr, rfl⟩ := List.mem_map.mp hy
    exact rowT_len (ok.row r hr).1 ok.hi (ok.row r hr).2)
  rw [List.length_map, List.length_map, ok.len] at z
  have := ok.hi
  omega
theorem tabT_len {n : Nat} {R : Rw} (ok : OkR n R) : (tabT R).length ≤ 65 := by
  have z := tjoin_le " / " (R.map rowT)
  have z2 := tab_sum ok
  rw [List.length_map, ok.len, sl_len] at z
  have := ok.hi
  show (Txt.join " / " (R.map rowT)).length ≤ 65
  omega
theorem take_more {α : Type} : ∀ {l : List α} {i : Nat} {x : α}, l[i]? = some x → l.take (i + 1) = l.take i ++ [x]
  | [], i, x, h => by simp at h
  | a :: l, 0, x, h => by
    have e : a = x := Option.some.inj h
    subst e
    rfl
  | a :: l, i + 1, x, h => by
    have ih := take_more (l := l) (i := i) (x := x) h
    show a :: l.take (i + 1) = a :: l.take i ++ [x]
    rw [ih]
    rfl
section
variable {P : Program} {w : World} {K : PySem.W.Frag} {mg : Str → Option Value} {base : Heap}
/-! ### Table's properties -/
theorem bnd_Table_rows : BindN "rows" "Table.rows" s_Table_rows ["self"] := fun _ _ _ _ _ _ us hl => match us, hl with | [_], _ => rfl
theorem sc_Table_rows : FnScope ["self"] ["self"] (defScope s_Table_rows) := ⟨rfl, rfl, rfl, by decide +kernel, rfl, by decide +kernel, by decide +kernel⟩
/-- a field handed out -/
def pFld (C : Addr) (f : Str) (v : V) (H : Hp) (Q : VK) (_ : XK) : Prop := ∃ a dx fs u, v = .ref a ∧ H a = some (.ins C dx fs) ∧ fs.lookup f = some u ∧ Q u H
theorem Table_rows (T : Top K mg) : Prp P w K mg base CX0 1 (ga K "Table") "rows" (sp1 (pFld (ga K "Table") "entries")) := by
  obtain ⟨fd, F⟩ := T.d_Table_rows
  refine prp_of T.p_Table_rows F bnd_Table_rows (okN1 F sc_Table_rows fun cdv A outer s H v Q E hr h => ?_)
  obtain ⟨a, dx, fs, u, rfl, ha, hl, q⟩ := h
  exact ⟨_, pss_one (ps_ret (pe_fld (pv 0) rfl)), _, rfl, a, _, dx, fs, u, rfl, ha, T.c_Table, T.n_Table_entries, hl, q⟩
theorem bnd_Table_letters : BindN "letters" "Table.letters" s_Table_letters ["self"] := fun _ _ _ _ _ _ us hl => match us, hl with | [_], _ => rfl
theorem sc_Table_letters : FnScope ["self"] ["self"] (defScope s_Table_letters) := ⟨rfl, rfl, rfl, by decide +kernel, rfl, by decide +kernel, by decide +kernel⟩
def pTabLetters (K : PySem.W.Frag) (v : V) (H : Hp) (Q : VK) (_ : XK) : Prop := ∃ R, TabAt K H v R ∧ Q (.int (R.length : Int)) H
theorem Table_letters (T : Top K mg) : Prp P w K mg base CX0 1 (ga K "Table") "letters" (sp1 (pTabLetters K)) := by
  obtain ⟨fd, F⟩ := T.d_Table_letters
  refine prp_of T.p_Table_letters F bnd_Table_letters (okN1 F sc_Table_letters fun cdv A outer s H v Q E hr h => ?_)
  obtain ⟨R, ⟨a, dx, t, rfl, ha, b, xs, rfl, hb, pr⟩, q⟩ := h
  refine ⟨_, pss_one (ps_ret (pe_callB call_len (by rfl) T.b_len (by decide +kernel) (pa_cons (pe_fld (pv 0) rfl) pa_nil))), ?_⟩
  exact ⟨_, rfl, a, _, dx, _, _, rfl, ha, T.c_Table, T.n_Table_entries, lk_hd, _, R.length, rfl, .inr ⟨xs, SqT.of hb, (Paired.length pr).symm⟩, q⟩
theorem bnd_Table_text : BindN "text" "Table.text" s_Table_text ["self"] := fun _ _ _ _ _ _ us hl => match us, hl with | [_], _ => rfl
theorem sc_Table_text : FnScope ["self", "rows", "row", "price"] ["self"] (defScope s_Table_text) := ⟨rfl, rfl, rfl, by decide +kernel, rfl, by decide +kernel, by decide +kernel⟩
def pTabText (K : PySem.W.Frag) (v : V) (H : Hp) (Q : VK) (_ : XK) : Prop := ∃ n R, TabAt K H v R ∧ OkR n R ∧ ∀ H', Same H H' → Q (.str (tabT R)) H'
theorem Table_text (T : Top K mg) : Prp P w K mg base CX0 1 (ga K "Table") "text" (sp1 (pTabText K)) := by
  obtain ⟨fd, F⟩ := T.d_Table_text
  refine prp_of T.p_Table_text F bnd_Table_text (okN1 F sc_Table_text fun cdv A outer s H v Q E hr h => ?_)
  obtain ⟨n, R, ⟨a, dx, t, rfl, ha, b, xs, rfl, hb, pr⟩, ok, q⟩ := h
  refine ⟨_, pss_cons (ps_set (i := 1) sc_Table_text.nd rfl (.inl rfl) (pe_lst pa_nil))
    (pss_cons (ps_for PassesOwn.never rfl (pi_tup (pe_fld (pv 0) rfl)) (pg_name (i := 2) sc_Table_text.nd rfl (.inl rfl))
      (pss_one (ps_expr (pe_bm PySem.F.plainAttrs_list PySem.F.slot_list_append PySem.F.type_list_append mt_append (pv 1) (pa_cons (pe_join pe_str (pe_lc (own := [("price", 3)]) (g := gName 3) (tt := tYes) rfl sc_Table_text.nd (pi_tup (pv 2))
        (blkOk_by (N := ["self", "rows", "row", "price"]) (sc := defScope s_Table_text) (by decide +kernel))
        (fun _ _ _ _ _ => pg_name (i := 3) sc_Table_text.nd rfl (.inl rfl)) (fun _ _ _ _ _ => pts_nil)
        (fun _ _ _ _ _ => pe_ifExp (pt_cmp (pc_isN (pv 3))) (C8.pe_gc (by rfl) T.v_BARRED) (pe_callTy (T := "str") call_str_int (by rfl) T.b_str (by decide +kernel) (pa_cons (pv 3) pa_nil))))) pa_nil)))))
    (pss_one (ps_ret (pe_join (C8.pe_gc (by rfl) T.v_BETWEEN_ROWS) (pv 1))))), ?_⟩
  refine ⟨by decide, fun l nl => ?_⟩
  have hz : n < sizeLine := by rw [sizeLine_eq]; have := ok.hi; omega
  refine ⟨_, rfl, a, _, dx, _, _, rfl, by rw [upd_ne (ne_of_none ha nl)]; exact ha, T.c_Table, T.n_Table_entries, lk_hd, b, rfl, ⟨xs, SqT.of (by rw [upd_ne (ne_of_none hb nl)]; exact hb)⟩, ?_⟩
  refine for_tup (K := K) (a := b) (xs := xs) (fun i σ H2 => ∃ u z, σ = [some (.ref a), some (.ref l), u, z] ∧ Same H H2 ∧ H2 l = some (.lst (((R.take i).map rowT).map V.str))) ⟨none, none, rfl, Same.new nl, by rw [List.take_zero]; exact upd_same⟩ (fun i σ H2 _ ⟨_, _, _, s2, _⟩ => SqT.of (s2 _ _ hb)) ?_ ?_
  · rintro i y σ H2 hi ⟨u, z, rfl, s2, l2⟩
    obtain ⟨r, hrr, c, rfl, hc⟩ := paired_get pr hi
    obtain ⟨hlen, hp⟩ := ok.row r (List.mem_of_getElem? hrr)
    have hil := (List.getElem?_eq_some_iff.mp hrr).1
    have hc2 := s2 _ _ hc
    refine ⟨_, rfl, .inl ⟨rfl, _, SqL.of l2⟩, ⟨_, rfl⟩, ?_⟩
    refine ⟨_, rfl, c, rfl, ⟨_, SqT.of hc2⟩, fun D nD => lc_tup (K := K) (a := c) (xs := r.map oI) (fun j H3 => Same H2 H3 ∧ H3 D = some (.lst (((r.take j).map prT).map V.str))) ⟨Same.new nD, by rw [List.take_zero]; exact upd_same⟩ (fun j H3 _ h => SqT.of (h.1 _ _ hc2)) ?_ ?_⟩
    · rintro j y H3 hj ⟨s3, d3⟩
      rw [List.getElem?_map] at hj
      cases ej : r[j]? with
      | none => rw [ej] at hj; cases hj
      | some p =>
        rw [ej] at hj
        cases hj
        have hjl := (List.getElem?_eq_some_iff.mp ej).1
        have fin : ∀ x, x = prT p → ∃ acc, H3 D = some (.lst acc) ∧ acc.length < sizeLine ∧ (Same H2 (upd H3 D (.lst (acc ++ [V.str x]))) ∧ (upd H3 D (.lst (acc ++ [V.str x]))) D = some (.lst (((r.take (j + 1)).map prT).map V.str))) := fun x ex => by
          refine ⟨_, d3, ?_, Same.mut s3 nD, ?_⟩
          · rw [List.length_map, List.length_map, List.length_take]
            omega
          · rw [upd_same, take_more ej, List.map_append, List.map_append, ex]
            rfl
        refine ⟨rfl, ?_⟩
        refine ⟨_, rfl, _, rfl, ?_⟩
        cases p with
        | none => exact itT (decide_eq_true rfl) (fin _ rfl)
        | some i =>
          refine itF (decide_eq_false (by intro z; cases z)) ⟨_, rfl, i, rfl, ?_, fin _ rfl⟩
          obtain ⟨h0, h5⟩ := hp _ (List.mem_of_getElem? ej) i rfl
          have e2 : i.natAbs ≤ 5 := by omega
          calc i.natAbs.log2 ≤ Nat.log2 5 := by
                rcases (show i.natAbs = 0 ∨ i.natAbs = 1 ∨ i.natAbs = 2 ∨ i.natAbs = 3 ∨ i.natAbs = 4 ∨ i.natAbs = 5 by omega) with e | e | e | e | e | e <;> rw [e] <;> decide
            _ < 1920 := by decide
    · rintro H3 ⟨s3, d3⟩
      rw [List.length_map, List.take_length] at d3
      refine ⟨_, D, r.map prT, rfl, rfl, .inl (SqL.of d3), ?_, ?_⟩
      · have := row_sum hlen hp
        have := ok.hi
        rw [List.length_map, hlen, sp_len]
        omega
      · refine ⟨l, _, _, rfl, rfl, s3 _ _ l2, ?_, _, _, rfl, Same.mut (Same.trans s2 s3) nl, ?_⟩
        · rw [List.length_map, List.length_map, List.length_take]
          have := ok.len
          omega
        · rw [upd_same, take_more hrr, List.map_append, List.map_append]
          rfl
  · rintro σ H2 ⟨u, z, rfl, s2, l2⟩
    rw [show xs.length = R.length from Paired.length pr, List.take_length] at l2
    refine ⟨⟨_, rfl⟩, _, rfl, _, l, R.map rowT, rfl, rfl, .inl (SqL.of l2), ?_, q _ s2⟩
    have := tab_sum ok
    have := ok.hi
    rw [List.length_map, ok.len, sl_len]
    omega
end
end Ef

set_option Elab.async false
set_option linter.all false
set_option maxRecDepth 100000
set_option maxHeartbeats 4000000
/-! enumerate(t), t a tuple -/
namespace PySem
namespace EfN
theorem made_from {v : Value} {o : Obj} {HH : Heap → Prop} (B : Begins v o HH) :
    Meets (Builtin.«enumerate.__new__» ⟨[.type "enumerate", v], []⟩) (fun _ R s => HH s.heap ∧
      R (.ok (.ret (.ref (s.heap.push o).objs.size))) { s with heap := (s.heap.push o).push { cls := .type "enumerate", data := .fields #[.none, .bool false, .ref s.heap.objs.size, rawInt 0, .none, .none] } }) :=
  .of_wp fun prog w A R s h => by
    obtain ⟨hp, g, d, tk, os⟩ := s
    obtain ⟨h1, h⟩ := h
    have isub := sub_enumerate
    have it : ∀ {A' : Around} {E : Value → Shared → Prop} {Q : Value → Shared → Prop}, Q (.ref hp.objs.size) ⟨hp.push o, g, d, tk, os⟩ → wpAny (model prog w) A' (pyIter v) Q E ⟨hp, g, d, tk, os⟩ :=
      fun z => B.iter prog w _ _ ⟨hp, g, d, tk, os⟩ _ h1 z
    wp_walk using it
    refine wpAny_stack_any fun st => wpAny_pure ?_
    split
    · rename_i c _ _ _ _ _
      cases (c == Value.type "enumerate")
      · wp_walk using it
        exact ⟨_, rfl, h⟩
      · wp_walk using it
        exact ⟨_, rfl, h⟩
    · wp_walk using it
      exact ⟨_, rfl, h⟩
theorem call_from {prog : Program} {w : World} {A : Around} {E : Value → Shared → Prop} {s : Shared} {v : Value} {o : Obj} {HH : Heap → Prop} {Q : Value → Shared → Prop} (B : Begins v o HH) (h1 : HH s.heap)
    (fin : ∀ h2, IsEnum h2 (s.heap.objs.size + 1) s.heap.objs.size 0 .none → h2.get? s.heap.objs.size = some o → (∀ b u, s.heap.get? b = some u → h2.get? b = some u) → Q (.ref (s.heap.objs.size + 1)) { s with heap := h2 }) :
    wpAny (model prog w) A (call (.type "enumerate") [v]) Q E s := by
  refine callType_new F.called_enumerate (by decide) (F.typeCall_enumerate_1 _) (F.newCall_enumerate_1 _) (fun obj => F.args_object_init_2 obj _) F.entry_enumerate_new (made_from B) ⟨h1, ?_⟩
  have sz : (s.heap.push o).objs.size = s.heap.objs.size + 1 := Heap.size_push ..
  show _ ∧ _
  rw [sz]
  have en : IsEnum ((s.heap.push o).push { cls := .type "enumerate", data := .fields #[.none, .bool false, .ref s.heap.objs.size, rawInt 0, .none, .none] }) (s.heap.objs.size + 1) s.heap.objs.size 0 .none := by
    have z := Heap.get?_push_size (s.heap.push o) (o := { cls := .type "enumerate", data := .fields #[.none, .bool false, .ref s.heap.objs.size, rawInt 0, .none, .none] }) rfl
    rw [sz] at z
    exact z
  exact ⟨⟨_, en, rfl⟩, fin _ en (Heap.get?_push_of_some _ (Heap.get?_push_size _ B.free)) fun b u z => Heap.get?_push_of_some _ (Heap.get?_push_of_some _ z)⟩
end EfN
end PySem
namespace Ef
open PySem PySem.Spec PyProof.Rows L2 He
/-- the tuple at a, each item in a new pair -/
def Iteu (K : PySem.W.Frag) (a : Addr) : It :=
  ⟨fun i H => ∃ (xs : List V) (x : V), SqT K H a xs ∧ xs[i]? = some x, fun i H v H' => ∃ T x, v = .ref T ∧ H T = none ∧ H' = upd H T (.tup [.int (i : Nat), x]) ∧ ∀ xs, SqT K H a xs → xs[i]? = some x, fun i H => ∃ xs : List V, SqT K H a xs ∧ xs.length ≤ i⟩
theorem apart_of {h : Heap} {a it : Addr} {i : Nat} {items : Array Value} (h1 : h.IsTupleIter it a i) (h2 : IsTup h a items) : a ≠ it := fun z => by
  obtain ⟨o, ho, hc, _⟩ := h1
  obtain ⟨o2, ho2, hc2, _⟩ := h2
  rw [z, ho] at ho2
  cases ho2
  rw [hc] at hc2
  exact absurd (Value.type.inj hc2) (by decide)
theorem turn_enumT {P : Program} {w : World} {K : PySem.W.Frag} {elts : List Expr} {kk : Nat} {tpos : Pos} (a e it : Addr) :
    Turn P w K (.Tuple elts kk tpos) (Iteu K a) [e, it] e (fun i h => (∃ old, IsEnum h e it ((i : Nat) : Int) old) ∧ h.IsTupleIter it a i ∧ e ≠ it) where
  mem := List.mem_cons_self
  obj := fun i h st b hb => by
    obtain ⟨⟨old, he⟩, ⟨o, ho, _, hd⟩, _⟩ := st
    rcases List.mem_cons.mp hb with rfl | hb
    · exact ⟨_, he, fun v q => nomatch q⟩
    · rw [List.mem_singleton.mp hb]
      exact ⟨o, ho, fun v q => by rw [hd] at q; cases q⟩
  keep := fun i h h' st k => by
    obtain ⟨⟨old, he⟩, hi, hne⟩ := st
    exact ⟨⟨old, k e List.mem_cons_self _ he⟩, hi.at fun o q => k it (List.mem_cons_of_mem _ List.mem_cons_self) o q, hne⟩
  item := by
    intro X hP hw hK hc i pins s σ H E I hf st hg
    subst hP hw hK
    obtain ⟨⟨old, he⟩, hit, hne⟩ := st
    obtain ⟨xs, x, hq, hx⟩ := hg
    obtain ⟨its, rv, p, hz⟩ := I.tuple hq
    obtain ⟨u, hu, ru⟩ := rv.get hx
    have hin : i < its.toArray.size := by simpa using (List.getElem?_eq_some_iff.mp hu).1
    have hai := apart_of hit p
    have hel : e < s.heap.objs.size := Heap.lt_size he
    have hil : it < s.heap.objs.size := by
      obtain ⟨_, q, _⟩ := hit
      exact Heap.lt_size q
    have nea : e ≠ a := fun z => by
      obtain ⟨o2, ho2, hc2, _⟩ := p
      rw [← z, show s.heap.get? e = _ from he] at ho2
      cases ho2
      exact absurd (Value.type.inj hc2) (by decide)
    refine wpAny_pyNext_enum_itemD (Draws.tuple (A := X.A.in1) (I.ok.hd hc) it a hai its.toArray) he ⟨hit, p⟩ hin hne (by simp [hne, nea]) fun v h1 tk hv ho st1 hT hsz hk => ?_
    have ev : v = u := by
      have z : its[i]? = some v := by simpa using hv
      rw [hu] at z
      exact (Option.some.inj z).symm
    subst ev
    refine ⟨_, rfl, wpAny_letOwnedTupleGo_enum (s := { s with heap := h1, toks := tk + 1 }) ho fun h2 he2 sb => ?_⟩
    have hT2 : h2.get? s.heap.objs.size = some { cls := .type "tuple", data := .seq #[.int i tk, v] } := (sb.2 _ (Nat.ne_of_gt hel)).trans hT
    have new : ObjOk X.prog X.w (upd H s.heap.objs.size (.tup [.int (i : Nat), x])) h2 s.heap.objs.size (.tup [.int (i : Nat), x]) :=
      ⟨by show 2 ≤ sizeLine; decide, [.int i tk, v], .cons ⟨_, rfl⟩ (.cons ru .nil), ⟨_, hT2, rfl, _, rfl⟩⟩
    have I1 : Inv X pins σ (upd H s.heap.objs.size (.tup [.int (i : Nat), x])) { s with heap := h2, toks := tk + 1 } :=
      I.turnedNew (ch := [e, it]) (fun b ob hb q => (sb.2 b (fun z => hb (by simp [z]))).trans (hk b ob (fun z => hb (by simp [z])) (fun z => hb (by simp [z])) q)) hf (Nat.le_refl _) new
    refine ⟨.ref s.heap.objs.size, _, I1, rfl, ⟨_, x, rfl, I.hok.fresh (Nat.le_refl _), rfl, fun ys hy => by rw [I.tuple_inj hy hq]; exact hx⟩, ⟨⟨v, ?_⟩, st1.1.at fun o q => (sb.2 it (Ne.symm hne)).trans q, hne⟩, fun b hb => ?_⟩
    · rw [show ((i + 1 : Nat) : Int) = (i : Int) + 1 by omega]
      exact he2
    · have hb' : b < s.heap.objs.size := by
        rcases List.mem_cons.mp hb with rfl | hb
        · exact hel
        · rw [List.mem_singleton.mp hb]
          exact hil
      rw [upd_ne (Nat.ne_of_lt hb')]
      exact (hf b hb).1
  done := by
    intro X hP hw hK hc i pins s σ H E I hf st hg
    subst hP hw hK
    obtain ⟨⟨old, he⟩, hit, hne⟩ := st
    obtain ⟨xs, hq, hx⟩ := hg
    obtain ⟨its, rv, p, hz⟩ := I.tuple hq
    obtain ⟨f0, f1, f2, f3, f4, f5⟩ := hf it (List.mem_cons_of_mem _ List.mem_cons_self)
    have hl := rv.length
    have hT : s.TypeIs (.ref e) "enumerate" := ⟨_, he, rfl⟩
    unfold pyNext
    refine wpAny_bind (wpAny_attempt (wpAny_callSpecial?_slot (name := Str.ofString "__next__") hT PySem.F.slot_enumerate_next
      (wpAny_call_entry PySem.F.slot_enumerate_next hT PySem.F.entry_enumerate_next ?_ (PySem.F.args_enumerate_next_1 _))))
    show wpAny _ _ (field (.ref e) 2 >>= _) _ _ _
    refine wpAny_bind (wpAny_field he rfl (x := .ref it) rfl ?_)
    refine wpAny_bind (wpAny_nextOf_tuple_end (I.ok.hd hc) hit (show s.heap.IsTuple a its.toArray from p) (by simp; omega) fun h1 ex hbut hx => ?_)
    obtain ⟨o, ho, hcl⟩ := hx
    refine wpAny_bind (wpAny_isInstance (T := "StopIteration") (b := true) ⟨o, ho, hcl⟩ isSubtype_stop ?_)
    exact wpAny_pure ⟨rfl, I.turned (t' := s.toks) (fun b o hb q => hbut b o hb q) f0 f1 f3 f4 f5⟩
  self := fun A i s Q E st h => let ⟨⟨_, he⟩, _⟩ := st; wpAny_pyIter_enum he h
def iEnumT (K : PySem.W.Frag) (ta : TA) : TI := fun σ H R => ta σ H fun vs H1 => ∃ a xs, vs = [.ref a] ∧ SqT K H1 a xs ∧ R (Iteu K a) H1
theorem pi_enumT {X : Cx} {e : Expr} {ta : TA} {p pos tpos : Pos} {elts : List Expr} {kk : Nat} (hg : Gl X "enumerate") (hm : X.mg "enumerate" = none) (ha : PA X [e] ta) (hs : starEach [e] X.env = [(false, eval e X.env)] := by rfl) :
    PI X (.Tuple elts kk tpos) (.Call (.Name "enumerate" p) [e] [] pos) (iEnumT X.K ta) := by
  refine ⟨fun pins s σ H R I h => ?_⟩
  refine Call_ (ld_blt I hg hm boot_enumerate (PyProof.Rows.callWith_type1 (thn (ha.run pos pins s σ H _ I h) fun us s1 hh => ?_) hs rfl))
  obtain ⟨vs, H1, I1, r1, a, xs, ex, hq, q⟩ := hh
  subst ex
  obtain ⟨u, rfl, ru⟩ := vals1 r1
  obtain rfl : u = Value.ref a := ru
  obtain ⟨its, rv, p', hz⟩ := I1.tuple hq
  refine PySem.EfN.call_from (begins_tuple a its.toArray) p' fun h2 he hit hk => wpAny_pyIter_enum he ?_
  have I2 : Inv X pins σ H1 { s1 with heap := h2 } := I1.kept (t' := s1.toks) hk
  refine ⟨s1.heap.objs.size + 1, [s1.heap.objs.size + 1, s1.heap.objs.size], _, _, H1, rfl, I2, turn_enumT a (s1.heap.objs.size + 1) s1.heap.objs.size, ⟨⟨.none, he⟩, ⟨_, hit, rfl, rfl⟩, Nat.succ_ne_self _⟩, fun b hb => ?_, q⟩
  have hle : s1.heap.objs.size ≤ b := by
    rcases List.mem_cons.mp hb with rfl | hb
    · exact Nat.le_add_right _ _
    · rw [List.mem_singleton.mp hb]
      exact Nat.le_refl _
  exact I1.fpOk hle (I1.hok.fresh hle)
/-! ### the bookkeeping of a for, a comprehension over it -/
theorem for_enumT {K : PySem.W.Frag} {a : Addr} {xs : List V} {g : TG} {tb : TS} {D : Ends} {σ : L2.St} {H : Hp} (Pv : Nat → L2.St → Hp → Prop) (h0 : Pv 0 σ H) (hl : ∀ i σ H, i ≤ xs.length → Pv i σ H → SqT K H a xs)
    (hs : ∀ i x T σ H, xs[i]? = some x → Pv i σ H → H T = none → g (.ref T) σ (upd H T (.tup [.int (i : Nat), x])) fun σ2 H2 => tb { D with nx := Pv (i + 1), ct := Pv (i + 1), bk := D.nx } σ2 H2) (hd : ∀ σ H, Pv xs.length σ H → D.nx σ H) :
    ∃ W : Nat → Nat → L2.St → Hp → Prop, (∃ m, W 0 m σ H) ∧ ∀ i m σ H, W i m σ H →
      ((Iteu K a).stop i H ∧ D.nx σ H) ∨ ((Iteu K a).go i H ∧ ∃ N : L2.St → Hp → Prop, (∀ σ' H', N σ' H' → ∃ m', m' < m ∧ W (i + 1) m' σ' H') ∧ ∀ x H', (Iteu K a).yld i H x H' → g x σ H' fun σ2 H2 => tb { D with nx := N, ct := N, bk := D.nx } σ2 H2) := by
  refine ⟨fun i m σ H => m = xs.length - i ∧ i ≤ xs.length ∧ Pv i σ H, ⟨_, rfl, Nat.zero_le _, h0⟩, ?_⟩
  rintro i m σ H ⟨rfl, hi, p⟩
  have q := hl i σ H hi p
  rcases Nat.lt_or_ge i xs.length with hlt | hge
  · refine .inr ⟨⟨xs, xs[i], q, by simp [hlt]⟩, Pv (i + 1), fun σ' H' p' => ⟨xs.length - (i + 1), by omega, rfl, hlt, p'⟩, fun v H' y => ?_⟩
    obtain ⟨T, x, rfl, hT, rfl, hx⟩ := y
    exact hs i x T σ H (hx xs q) p hT
  · have e : i = xs.length := Nat.le_antisymm hi hge
    subst e
    exact .inl ⟨⟨xs, q, Nat.le_refl _⟩, hd σ H p⟩
theorem lc_enumT {K : PySem.W.Frag} {a : Addr} {xs : List V} {g : TG} {tt : TT} {te : TE} {vs : List Nat} {σ : L2.St} {H1 : Hp} {D : Addr} {Qd : Hp → Prop} (Pv : Nat → Hp → Prop) (h0 : Pv 0 (upd H1 D (.lst []))) (hl : ∀ i H, i ≤ xs.length → Pv i H → SqT K H a xs)
    (hs : ∀ i x T H, xs[i]? = some x → Pv i H → H T = none → g (.ref T) (wipe σ vs) (upd H T (.tup [.int (i : Nat), x])) fun σ2 H2 => wipe σ2 vs = wipe σ vs ∧ tt σ2 H2 fun b H3 =>
      if b = true then te σ2 H3 fun y H4 => ∃ acc, H4 D = some (.lst acc) ∧ acc.length < sizeLine ∧ Pv (i + 1) (upd H4 D (.lst (acc ++ [y]))) else Pv (i + 1) H3) (hd : ∀ H, Pv xs.length H → Qd H) :
    ∃ W : Nat → Nat → Hp → Prop, (∃ m, W 0 m (upd H1 D (.lst []))) ∧ ∀ i m H, W i m H →
      ((Iteu K a).stop i H ∧ Qd H) ∨ ((Iteu K a).go i H ∧ ∃ Nx : Hp → Prop, (∀ H', Nx H' → ∃ m', m' < m ∧ W (i + 1) m' H') ∧ ∀ x H', (Iteu K a).yld i H x H' → g x (wipe σ vs) H' fun σ2 H2 => wipe σ2 vs = wipe σ vs ∧ tt σ2 H2 fun b H3 =>
        if b = true then te σ2 H3 fun y H4 => ∃ acc, H4 D = some (.lst acc) ∧ acc.length < sizeLine ∧ Nx (upd H4 D (.lst (acc ++ [y]))) else Nx H3) := by
  refine ⟨fun i m H => m = xs.length - i ∧ i ≤ xs.length ∧ Pv i H, ⟨_, rfl, Nat.zero_le _, h0⟩, ?_⟩
  rintro i m H ⟨rfl, hi, p⟩
  have q := hl i H hi p
  rcases Nat.lt_or_ge i xs.length with hlt | hge
  · refine .inr ⟨⟨xs, xs[i], q, by simp [hlt]⟩, Pv (i + 1), fun H' p' => ⟨xs.length - (i + 1), by omega, rfl, hlt, p'⟩, fun v H' y => ?_⟩
    obtain ⟨T, x, rfl, hT, rfl, hx⟩ := y
    exact hs i x T H (hx xs q) p hT
  · have e : i = xs.length := Nat.le_antisymm hi hge
    subst e
    exact .inl ⟨⟨xs, q, Nat.le_refl _⟩, hd H p⟩
end Ef

set_option Elab.async false
set_option linter.all false
set_option maxRecDepth 100000
set_option maxHeartbeats 4000000
namespace Ef
open PySem PySem.Spec PyProof.Rows L2 He
/-! ### any value that repr shows in short -/
def AnyD (H : Hp) (v : V) : Prop := ∃ b d, Shw b H v d ∧ SmallD d
theorem AnyD.same {H H1 : Hp} {v : V} (k : Same H H1) (h : AnyD H v) : AnyD H1 v := by
  obtain ⟨b, d, h, s⟩ := h
  exact ⟨b, d, h.same k, s⟩
theorem AnyD.kd {K : PySem.W.Frag} {H : Hp} {v : V} (h : AnyD H v) : ∃ k, KdAt K H v k ∧ k.basic = true := by
  obtain ⟨b, d, h, s⟩ := h
  exact h.kd
abbrev G30 : Int := 1000000000000000000000000000000
/-! ### what is raised -/
inductive XOk (K : PySem.W.Frag) (H : Hp) : Value → Option Addr → Prop
  | place {d : Addr} {v : V} (h : H d = some (.xd [(("value" : Str), v)])) (hv : AnyD H v) : XOk K H (.ref (ga K "InvalidPlace")) (some d)
  | wishes {d : Addr} {v : V} (h : H d = some (.xd [(("value" : Str), v)])) (hv : AnyD H v) : XOk K H (.ref (ga K "InvalidWishes")) (some d)
  | number {d : Addr} {v : V} (h : H d = some (.xd [(("value" : Str), v)])) (hv : AnyD H v) : XOk K H (.ref (ga K "InvalidNumber")) (some d)
  | far {d : Addr} {v : V} (h : H d = some (.xd [(("limit" : Str), v)])) : XOk K H (.ref (ga K "TooFar")) (some d)
  | long {d : Addr} {v : V} (h : H d = some (.xd [(("limit" : Str), v)])) : XOk K H (.ref (ga K "TooLong")) (some d)
  | echo {d a : Addr} {v dl t : V} (h : H d = some (.xd [(("value" : Str), v)])) (e : v = .ref a) (ha : H a = some (.tup [dl, t])) (hd : AnyD H dl) (ht : AnyD H t ∨ ∃ R, TabAt K H t R) : XOk K H (.ref (ga K "InvalidEcho")) (some d)
  | noecho {d : Addr} {v : V} (h : H d = some (.xd [(("index" : Str), v)])) (hv : AnyD H v) : XOk K H (.ref (ga K "NoEcho")) (some d)
/-! ### is_echo -/
def TabQ (K : PySem.W.Frag) (H : Hp) (t : V) : Option Rw → Prop
  | some R => TabAt K H t R
  | none => AnyD H t
def EchoV (K : PySem.W.Frag) (H : Hp) (v : V) (e : V × Option Rw) : Prop := ∃ a t, v = .ref a ∧ H a = some (.tup [e.1, t]) ∧ AnyD H e.1 ∧ TabQ K H t e.2
def vEcho (k : Nat) (e : V × Option Rw) : Bool := isI e.1 (some 1) (some G30) && (match e.2 with | some R => decide (R.length = k) | none => false)
theorem TabAt.same {K : PySem.W.Frag} {H H1 : Hp} {v : V} {R : Rw} (k : Same H H1) (h : TabAt K H v R) : TabAt K H1 v R := by
  obtain ⟨a, dx, t, e, h, r⟩ := h
  exact ⟨a, dx, t, e, k _ _ h, r.same k⟩
theorem TabQ.same {K : PySem.W.Frag} {H H1 : Hp} (k : Same H H1) {t : V} {o : Option Rw} (h : TabQ K H t o) : TabQ K H1 t o := by
  cases o with
  | none => exact AnyD.same k h
  | some R => exact TabAt.same k h
theorem EchoV.same {K : PySem.W.Frag} {H H1 : Hp} (k : Same H H1) {v : V} {e : V × Option Rw} (h : EchoV K H v e) : EchoV K H1 v e := by
  obtain ⟨a, t, e1, h1, h2, h3⟩ := h
  exact ⟨a, t, e1, k _ _ h1, h2.same k, h3.same k⟩
section
variable {P : Program} {w : World} {K : PySem.W.Frag} {mg : Str → Option Value} {base : Heap}
theorem bnd_is_echo : BindN "is_echo" "is_echo" s_is_echo ["letters", "value"] := fun _ _ _ _ _ _ us hl => match us, hl with | [_, _], _ => rfl
theorem sc_is_echo : FnScope ["letters", "value"] ["letters", "value"] (defScope s_is_echo) := ⟨rfl, rfl, rfl, by decide +kernel, rfl, by decide +kernel, by decide +kernel⟩
def pIsEcho (K : PySem.W.Frag) (l v : V) (H : Hp) (Q : VK) (_ : XK) : Prop := ∃ (k : Nat) (e : V × Option Rw), l = .int (k : Int) ∧ EchoV K H v e ∧ Q (.bl (vEcho k e)) H
theorem is_echo (T : Top K mg) : Clb P w K mg base CX0 3 "is_echo" (sp2 (pIsEcho K)) := by
  obtain ⟨fd, F⟩ := T.d_is_echo
  refine Clb.of T.g_is_echo F (fnN2 F sc_is_echo bnd_is_echo fun cdv A outer s H l v Q E hr h => ?_)
  obtain ⟨k, ⟨dl, o⟩, rfl, ⟨a, t, rfl, ha, hd, ht⟩, q⟩ := h
  obtain ⟨kd, hkd, hbd⟩ := hd.kd (K := K)
  refine ⟨_, pss_cons (ps_if (PW.pt (pw_or (pt_not (pt_val (pe_callB call_isB (by rfl) T.b_isinstance (by decide +kernel) (pa_cons (pv 1) (pa_cons (pe_bltn (v := .ty "tuple") (by rfl) T.b_tuple (by decide +kernel) rfl) pa_nil)))))
      (pw_or (pt_cmpR op_ne (pe_callB call_len (by rfl) T.b_len (by decide +kernel) (pa_cons (pv 1) pa_nil)) pe_int (nomark _))
      (pw_or1 (pt_not (pt_val (pe_f (is_integer3 T) (hr.mono (by decide)) pass0 (pa_cons (pe_ix ix_tup (pv 1) pe_int (fun _ _ => rfl)) (pa_cons pe_int (pa_cons (C8.pe_gc (by rfl) T.v_GREATEST) pa_nil))))))))))
      (pss_one (ps_ret pe_bl)) pss_nil)
    (pss_one (ps_ret (pe_and (pe_callB (call_isTab T.kt) (by rfl) T.b_isinstance (by decide +kernel) (pa_cons (pe_ix ix_tup (pv 1) pe_int (fun _ _ => rfl)) (pa_cons (pe_glob (v := .ref (ga K "Table")) (by rfl) T.g_Table rfl) pa_nil)))
      (pe_one (pe_cmpR op_eq (pe_p T.c_Table (Table_letters T) (hr.mono (by decide)) pass0 (pe_ix ix_tup (pv 1) pe_int (fun _ _ => rfl))) (pv 0) (nomark _)))))), ?_⟩
  refine ⟨_, rfl, _, .tup, .tuple, rfl, ⟨a, _, rfl, ha⟩, rfl, _, rfl, iteF ?_⟩
  refine ⟨_, rfl, _, 2, rfl, .inr ⟨_, SqT.of ha, rfl⟩, rfl, _, rfl, itF (by simp) ?_⟩
  refine ⟨_, rfl, a, [dl, t], 0, dl, rfl, rfl, SqT.of ha, rfl, _, _, _, rfl, kd, some 1, some G30, hkd, hbd, rfl, rfl, _, rfl, ?_⟩
  cases hi : isI dl (some 1) (some G30) with
  | false =>
    rw [show vEcho k (dl, o) = false by simp [vEcho, hi]] at q
    exact iteT q
  | true =>
    refine iteF ⟨_, rfl, a, [dl, t], 1, t, rfl, rfl, SqT.of ha, rfl, ?_⟩
    cases o with
    | none =>
      rw [show vEcho k (dl, none) = false by simp [vEcho]] at q
      obtain ⟨kt, hkt, hbt⟩ := AnyD.kd (K := K) ht
      have hn : kt ≠ .tab := fun z => by rw [z] at hbt; cases hbt
      exact ⟨_, kt, rfl, hkt, (fun z => by rw [z] at hbt; cases hbt), _, rfl, itF (decide_eq_false hn) q⟩
    | some R =>
      have hT : TabAt K H t R := ht
      obtain ⟨ta, dx, tt, rfl, hta, hrw⟩ := id hT
      refine ⟨_, .tab, rfl, ⟨ta, dx, _, rfl, hta⟩, (by decide), _, rfl, iteT ?_⟩
      refine ⟨_, rfl, a, [dl, .ref ta], 1, .ref ta, rfl, rfl, SqT.of ha, rfl, ta, dx, _, rfl, hta, _, rfl, R, hT, _, rfl, rfl, ?_⟩
      rw [show decide (V.int (R.length : Int) = V.int (k : Int)) = vEcho k (dl, some R) by simp [vEcho, hi]; exact Int.ofNat_inj]
      exact q
end
end Ef

set_option Elab.async false
set_option linter.all false
set_option maxRecDepth 100000
set_option maxHeartbeats 4000000
namespace Ef
open PySem PySem.Spec PyProof.Rows L2 He
/-! ### need_echoes -/
def dI : V → Int
  | .int i => i
  | _ => 0
def reachE (es : List (V × Option Rw)) : Int := (es.map fun e => dI e.1).sum
def echoesOk (k : Nat) (n : Int) (es : List (V × Option Rw)) : Bool := decide (es.length ≤ 2) && es.all (vEcho k) && (!decide (es.length = 2) || decide (n ≤ reachE es))
theorem xok_echo {K : PySem.W.Frag} {H : Hp} {v : V} {e : V × Option Rw} {d : Addr} (h : EchoV K H v e) (hd : H d = none) : XOk K (upd H d (.xd [(("value" : Str), v)])) (.ref (ga K "InvalidEcho")) (some d) := by
  obtain ⟨dl, o⟩ := e
  obtain ⟨a, t, e1, h1, h2, h3⟩ := h.same (Same.new (o := .xd [(("value" : Str), v)]) hd)
  refine .echo upd_same e1 h1 h2 ?_
  cases o with
  | none => exact .inl h3
  | some R => exact .inr ⟨R, h3⟩
theorem isI_int {v : V} {l h : Option Int} (e : isI v l h = true) : ∃ i, v = .int i ∧ loB l i = true ∧ hiB h i = true := by
  cases v <;> simp [isI] at e
  exact ⟨_, rfl, e⟩
theorem vEcho_int {k : Nat} {e : V × Option Rw} (h : vEcho k e = true) : e.1 = .int (dI e.1) ∧ 1 ≤ dI e.1 ∧ dI e.1 ≤ G30 := by
  unfold vEcho at h
  rw [Bool.and_eq_true] at h
  obtain ⟨i, e1, e2, e3⟩ := isI_int h.1
  rw [e1]
  simp [loB] at e2
  simp [hiB] at e3
  exact ⟨rfl, e2, e3⟩
section
variable {P : Program} {w : World} {K : PySem.W.Frag} {mg : Str → Option Value} {base : Heap}
theorem bnd_need_echoes : BindN "need_echoes" "need_echoes" s_need_echoes ["letters", "length", "echoes"] := fun _ _ _ _ _ _ us hl => match us, hl with | [_, _, _], _ => rfl
theorem sc_need_echoes : FnScope ["letters", "length", "echoes", "index", "value", "reach", "delay", "table"] ["letters", "length", "echoes"] (defScope s_need_echoes) := ⟨rfl, rfl, rfl, by decide +kernel, rfl, by decide +kernel, by decide +kernel⟩
def pNeedEchoes (K : PySem.W.Frag) (l n e : V) (H : Hp) (Q : VK) (E : XK) : Prop := ∃ (k : Nat) (m : Int) (a : Addr) (xs : List V) (es : List (V × Option Rw)), l = .int (k : Int) ∧ n = .int m ∧ e = .ref a ∧ H a = some (.tup xs) ∧ Paired (EchoV K H) xs es ∧ es.length ≤ 3 ∧
  if echoesOk k m es = true then ∀ H', Same H H' → Q .non H' else ∀ H' c d, Same H H' → XOk K H' c d → E c d H'
theorem need_echoes (T : Top K mg) : Clb P w K mg base (L2N.CX P w) 4 "need_echoes" (sp3 (pNeedEchoes K)) := by
  obtain ⟨fd, F⟩ := T.d_need_echoes
  refine Clb.of T.g_need_echoes F (fn3 F sc_need_echoes bnd_need_echoes fun cdv A outer s H l n e Q E hr h => ?_)
  obtain ⟨k, m, a, xs, es, rfl, rfl, rfl, ha, pr, hl3, q⟩ := h
  have hr1 : Room 2 _ := hr.mono (by decide)
  refine ⟨_, pss_cons (ps_for (passes_of rfl) rfl (pi_enumT (by rfl) T.b_enumerate (pa_cons (pv 2) pa_nil)) (pg_tup rfl (pgs_cons (pg_name (i := 3) sc_need_echoes.nd rfl (.inl rfl)) (pgs_cons (pg_name (i := 4) sc_need_echoes.nd rfl (.inl rfl)) pgs_nil)))
      (pss_one (ps_if (PW.pt (pw_or (pt_cmp (pc_ge (pv 3) (C8.pe_gc (by rfl) T.v_MAX_ECHOES))) (pw_or1 (pt_not (pt_val (pe_f (is_echo T) hr pass0 (pa_cons (pv 0) (pa_cons (pv 4) pa_nil))))))))
        (pss_one (L2N.ps_raise rfl (L2N.takes_of rfl rfl rfl rfl) (pmk1 (xcl_InvalidEcho T) hr1 (pa_cons (pv 4) pa_nil)))) pss_nil)))
    (pss_cons (ps_set (i := 5) sc_need_echoes.nd rfl (.inl rfl) (pe_callB (cr_sum rfl) (by rfl) T.b_sum (by decide +kernel) (pa_cons (pe_lc (own := [("delay", 6), ("table", 7)]) (g := gTup K 2 (gCons (gName 6) (gCons (gName 7) gNil))) (tt := tYes) (te := tVar 6) rfl sc_need_echoes.nd (pi_tup (pv 2)) (blkOk_by (N := ["letters", "length", "echoes", "index", "value", "reach", "delay", "table"]) (sc := defScope s_need_echoes) (by decide +kernel))
        (fun _ _ _ _ _ => pg_tup rfl (pgs_cons (pg_name (i := 6) sc_need_echoes.nd rfl (.inl rfl)) (pgs_cons (pg_name (i := 7) sc_need_echoes.nd rfl (.inl rfl)) pgs_nil))) (fun _ _ _ _ _ => pts_nil) (fun _ _ _ _ _ => pv 6)) pa_nil)))
    (pss_one (ps_if (PW.pt (pw_and (pt_cmpR op_eq (pe_callB call_len (by rfl) T.b_len (by decide +kernel) (pa_cons (pv 2) pa_nil)) (C8.pe_gc (by rfl) T.v_MAX_ECHOES) (nomark _)) (pw_and1 (pt_cmp (pc_gt (pv 1) (pv 5))))))
      (pss_one (L2N.ps_raise rfl (L2N.takes_of rfl rfl rfl rfl) (pmk1 (xcl_TooLong T) hr1 (pa_cons (pv 5) pa_nil)))) pss_nil))), ?_⟩
  have hlen : xs.length = es.length := Paired.length pr
  refine ⟨_, rfl, a, xs, rfl, SqT.of ha, for_enumT (K := K) (a := a) (xs := xs) (fun i σ H2 => ∃ u1 u2, σ = [some (.int (k : Int)), some (.int m), some (.ref a), u1, u2, none, none, none] ∧ Same H H2 ∧ i ≤ 2 ∧ ∀ j e, j < i → es[j]? = some e → vEcho k e = true)
    ⟨none, none, rfl, Same.refl H, by decide, fun j _ h => absurd h (Nat.not_lt_zero _)⟩ (fun i σ H2 _ ⟨_, _, _, s2, _⟩ => SqT.of (s2 _ _ ha)) ?_ ?_⟩
  · rintro i x Ta σ H2 hi ⟨u1, u2, rfl, s2, hi2, hv⟩ hTa
    obtain ⟨e, he, hE⟩ := paired_get pr hi
    have s3 : Same H (upd H2 Ta (.tup [.int (i : Int), x])) := Same.snd s2 hTa
    have hE3 := hE.same s3
    have hil : i < es.length := (List.getElem?_eq_some_iff.mp he).1
    have bad : (2 ≤ i ∨ vEcho k e = false) → echoesOk k m es = false := fun h => by
      rcases h with h | h
      · simp [echoesOk, show ¬ es.length ≤ 2 by omega]
      · have z : es.all (vEcho k) = false := by
          rw [List.all_eq_false]
          exact ⟨e, List.mem_of_getElem? he, by simp [h]⟩
        simp [echoesOk, z]
    have fin : (2 ≤ i ∨ vEcho k e = false) → ∀ d, upd H2 Ta (.tup [.int (i : Int), x]) d = none → E (.ref (ga K "InvalidEcho")) (some d) (upd (upd H2 Ta (.tup [.int (i : Int), x])) d (.xd [(("value" : Str), x)])) := fun h d hd => by
      rw [bad h] at q
      exact (show ∀ H' c d, Same H H' → XOk K H' c d → E c d H' from q) _ _ _ (Same.snd s3 hd) (xok_echo hE3 hd)
    refine ⟨Ta, _, rfl, SqT.of upd_same, rfl, _, _, rfl, _, _, rfl, ⟨rfl, ?_⟩⟩
    refine ⟨_, rfl, _, _, rfl, rfl, _, rfl, ?_⟩
    by_cases h2 : 2 ≤ i
    · refine itT (decide_eq_true (by omega)) ⟨_, rfl, _, rfl, fun d hd => fin (.inl h2) d hd⟩
    · refine itF (decide_eq_false (by omega)) ⟨_, rfl, _, rfl, _, _, rfl, k, e, rfl, hE3, _, rfl, ?_⟩
      cases hb : vEcho k e with
      | false => exact iteT ⟨_, rfl, _, rfl, fun d hd => fin (.inr hb) d hd⟩
      | true =>
        refine iteF ⟨_, _, rfl, s3, by omega, fun j e' hj he' => ?_⟩
        rcases Nat.lt_succ_iff_lt_or_eq.mp hj with hj | rfl
        · exact hv j e' hj he'
        · rw [he] at he'
          cases he'
          exact hb
  · rintro σ H2 ⟨u1, u2, rfl, s2, hi2, hv⟩
    have hall : es.all (vEcho k) = true := by
      rw [List.all_eq_true]
      intro e he
      obtain ⟨j, hj, rfl⟩ := List.getElem_of_mem he
      exact hv j _ (by omega) (by simp)
    have ha2 := s2 _ _ ha
    refine ⟨_, rfl, a, rfl, ⟨_, SqT.of ha2⟩, fun D nD => lc_tup (K := K) (a := a) (xs := xs) (fun i H3 => Same H2 H3 ∧ H3 D = some (.lst ((es.take i).map fun e => V.int (dI e.1)))) ⟨Same.new nD, upd_same⟩ (fun i H3 _ h => SqT.of (h.1 _ _ ha2)) ?_ ?_⟩
    · rintro i x H3 hi ⟨s3, d3⟩
      obtain ⟨e, he, b, t, rfl, hb, hd, ht⟩ := paired_get pr hi
      refine ⟨b, _, rfl, SqT.of (s3 _ _ (s2 _ _ hb)), rfl, _, _, rfl, _, _, rfl, ⟨rfl, ?_⟩⟩
      refine ⟨rfl, ?_⟩
      refine ⟨_, rfl, _, d3, ?_, Same.mut s3 nD, ?_⟩
      · rw [List.length_map, List.length_take, sizeLine_eq]
        omega
      · have hve := (List.all_eq_true.mp hall) e (List.mem_of_getElem? he)
        rw [upd_same, take_more he, List.map_append]
        rw [show [e.1] = [e].map fun e => V.int (dI e.1) by rw [List.map_cons, ← (vEcho_int hve).1]; rfl]
    · rintro H3 ⟨s3, d3⟩
      have ha3 := s3 _ _ ha2
      rw [hlen, List.take_length] at d3
      refine ⟨D, es.map fun e => dI e.1, rfl, SqL.of (by rw [List.map_map]; exact d3), ?_⟩
      refine ⟨_, rfl, _, xs.length, rfl, .inr ⟨_, SqT.of ha3, rfl⟩, rfl, _, rfl, ?_⟩
      have s4 := Same.trans s2 s3
      by_cases h2 : es.length = 2
      · refine itT (decide_eq_true (by rw [hlen, h2]; rfl)) ⟨_, rfl, _, rfl, _, _, rfl, rfl, _, rfl, ?_⟩
        by_cases hm : m ≤ reachE es
        · rw [show echoesOk k m es = true by simp [echoesOk, hall, h2, hm]] at q
          exact itF (decide_eq_false (by have : reachE es = (es.map fun e => dI e.1).sum := rfl; omega)) ((show ∀ H', Same H H' → Q .non H' from q) _ s4)
        · rw [show echoesOk k m es = false by simp [echoesOk, hall, h2, hm]] at q
          exact itT (decide_eq_true (by have : reachE es = (es.map fun e => dI e.1).sum := rfl; omega)) ⟨_, rfl, _, rfl, fun d hd => (show ∀ H' c d, Same H H' → XOk K H' c d → E c d H' from q) _ _ _ (Same.snd s4 hd) (.long upd_same)⟩
      · rw [show echoesOk k m es = true by simp [echoesOk, hall, h2]; omega] at q
        exact itF (decide_eq_false (by intro z; have := V.int.inj z; omega)) ((show ∀ H', Same H H' → Q .non H' from q) _ s4)
end
end Ef

set_option Elab.async false
set_option linter.all false
set_option maxRecDepth 100000
set_option maxHeartbeats 4000000
namespace Ef
open PySem PySem.Spec PyProof.Rows L2 He
theorem putF_len {f : Str} {v : V} : ∀ {l : List (Str × V)} {n : Nat}, l.length < n → (putF f v l).length < n + 1
  | [], n, h => by
    rw [pf_nil]
    exact Nat.succ_lt_succ h
  | (g, u) :: r, n, h => by
    by_cases e : g = f
    · subst e
      rw [pf_hd]
      exact Nat.lt_succ_of_lt h
    · rw [pf_tl e]
      obtain ⟨m, rfl⟩ : ∃ m, n = m + 1 := ⟨n - 1, by have := Nat.lt_of_le_of_lt (Nat.zero_le _) h; omega⟩
      exact Nat.succ_lt_succ (putF_len (Nat.lt_of_succ_lt_succ h))
/-! ### songs -/
structure Sg where
  k : Nat
  n : Int
  es : List (Int × Rw)
def vE (e : Int × Rw) : V × Option Rw := (.int e.1, some e.2)
def SongAt (K : PySem.W.Frag) (H : Hp) (v : V) (s : Sg) : Prop := ∃ a dx c xs, v = .ref a ∧ H a = some (.ins (ga K "Song") dx [(("alphabet" : Str), .int (s.k : Int)), (("size" : Str), .int s.n), (("voices" : Str), .ref c)]) ∧
  H c = some (.tup xs) ∧ Paired (EchoV K H) xs (s.es.map vE)
theorem SongAt.same {K : PySem.W.Frag} {H H1 : Hp} {v : V} {s : Sg} (k : Same H H1) (h : SongAt K H v s) : SongAt K H1 v s := by
  obtain ⟨a, dx, c, xs, e, h1, h2, p⟩ := h
  exact ⟨a, dx, c, xs, e, k _ _ h1, k _ _ h2, paired_mono p fun _ _ z => z.same k⟩
theorem cxUpN {P : Program} {w : World} : StX.CXUp (L2N.CX P w) := by
  rintro outer s H s2 H2 E e s' un kp ho ⟨a, B, H', cls, d, ea, fl, hok, ub, na, os, ag, he⟩
  refine ⟨a, B, H', cls, d, ea, fl, hok, ⟨fun b o q n hb => ub.keep b o (kp b o q) (un.free b o q n (by simp)) hb, fun b o q hb => ub.slot b o (kp b o q) hb, fun b o q n => ub.free b o (kp b o q) (un.free b o q n (by simp)),
    fun b o q hb => ub.there b o (kp b o q) hb, fun b xs q => ub.tups b xs (un.tups b xs q), fun b o xs q => ub.frzs b o xs (un.frzs b o xs q), fun b ps q => ?_⟩, na, os.trans ho, ag, he⟩
  obtain ⟨m1, e1⟩ := un.tbls b ps q
  obtain ⟨m2, e2⟩ := ub.tbls b _ e1
  exact ⟨m1 ++ m2, by rw [e2, Array.append_assoc]⟩
theorem bind_star3 {B : List Value → Sem (List (Str × Value))} {p1 p2 p3 pv : Str} (h0 : ∀ a b c, B [a, b, c] = (newTuple [] >>= fun t => pure [(p1, a), (p2, b), (p3, c), (pv, t)])) (h1 : ∀ a b c r rs, B (a :: b :: c :: r :: rs) = (newTuple (r :: rs) >>= fun t => pure [(p1, a), (p2, b), (p3, c), (pv, t)])) :
    ∀ us rest : List Value, us.length = [p1, p2, p3].length → B (us ++ rest) = (newTuple rest >>= fun t => pure ([p1, p2, p3].zip us ++ [(pv, t)]))
  | [a, b, c], [], _ => h0 a b c
  | [a, b, c], r :: rs, _ => h1 a b c r rs
section
variable {X : Cx} {CX : CXT} {k : Nat} {f C : Addr} {sp : Sp} {E : XK} {x : Str} {e : Expr} {es : List Expr} {t : TA} {p pos : Pos}
/-- C(e, .., *y, ..) -/
theorem pe_makeS2 (M : Mk X.K C f) (F : FnR X.prog X.w X.K X.mg X.base CX k f sp) (hr : Room (k + 1) X.A) (hg : Gl X x) (hm : X.mg x = some (.ref C)) (hx : Passes CX X E) (ha : PA X (e :: es) t) (hdb : (x == ("__debug__" : Str)) = false := by decide)
    (he : starEach (e :: es) X.env = (false, eval e X.env) :: starEach es X.env := by rfl) (hst : (backTo pos (starEach es X.env)).any (·.1) = true := by rfl) : PE X (.Call (.Name x p) (e :: es) [] pos) (StX.tMakeR C sp E t) := by
  refine ⟨fun pins s σ H Q I h => ?_⟩
  refine wpAny_Call_Name_kw (ld_glob I hg hm ?_ hdb)
  refine PySem.W.callWith_S2 (h₀ := X.base) I.ok.mod.kin M.kp (thn (ha.run pos pins s σ H _ I h) fun us s1 ⟨vs, H1, I1, r, q⟩ => ⟨I1.kIn, ?_⟩) he hst
  exact StX.run_makeR M F hr hx I1 r q
end
section
variable {P : Program} {w : World} {K : PySem.W.Frag} {mg : Str → Option Value} {base : Heap}
def pSongInit (K : PySem.W.Frag) : Sp := fun vs H Q E => ∃ (p dx t : Addr) (k : Nat) (n : Int) (xs : List V) (es : List (V × Option Rw)), vs = [.ref p, .int (k : Int), .int n, .ref t] ∧ H p = some (.ins (ga K "Song") dx []) ∧ 1 ≤ k ∧ k ≤ 5 ∧ 1 ≤ n ∧ n ≤ G30 ∧
  H t = some (.tup xs) ∧ Paired (EchoV K H) xs es ∧ es.length ≤ 3 ∧
  if echoesOk k n es = true then ∀ H', (∀ b o, H b = some o → b ≠ p → H' b = some o) → H' p = some (.ins (ga K "Song") dx [(("alphabet" : Str), .int (k : Int)), (("size" : Str), .int n), (("voices" : Str), .ref t)]) → Q .non H'
    else ∀ H' c d, Same H H' → XOk K H' c d → E c d H'
theorem sc_Song_init : FnScope ["self", "letters", "length", "echoes"] ((["self", "letters", "length"] : List Str) ++ (["echoes"] : List Str)) (defScope s_Song_init) := ⟨rfl, rfl, rfl, by decide +kernel, rfl, by decide +kernel, by decide +kernel⟩
def pSongStar (K : PySem.W.Frag) : Sp := fun vs H Q E => ∃ ws rest, vs = ws ++ rest ∧ ws.length = ["self", "letters", "length"].length ∧ rest.length ≤ sizeLine ∧ ∀ p, H p = Option.none → pSongInit K (ws ++ [V.ref p]) (upd H p (.tup rest)) Q E
theorem Song_init (T : Top K mg) {f : Addr} {fd : FuncData} (F : FnP K "__init__" "Song.__init__" s_Song_init f fd) : FnR P w K mg base (L2N.CX P w) 5 f (pSongStar K) := by
  obtain ⟨oc, od, dV, kV, doc, pm, an, cdv, ct, osl, rfl, lk, hcd, hD, hK⟩ := F.ex
  obtain ⟨_, rfl⟩ | ⟨e, _⟩ := hD
  · refine StX.fn_star (ps := ["self", "letters", "length"]) (pv := "echoes") (sp := pSongInit K) lk hcd sc_Song_init cxUpN (bind_star3 (B := fun us => bindArgs _ ⟨us, []⟩) (fun _ _ _ => rfl) (fun _ _ _ _ _ => rfl)) fun A outer s H vs Q E hr h => ?_
    obtain ⟨p, dx, t, k, n, xs, es, rfl, hp, k1, k5, n1, n30, ht, pr, l3, q⟩ := h
    refine ⟨_, pss_cons (ps_expr (pe_f (need_letters T) (hr.mono (by decide)) pass0 (pa_cons (pv 1) pa_nil)))
      (pss_cons (ps_if (pt_not (pt_val (pe_f (is_integer3 T) (hr.mono (by decide)) pass0 (pa_cons (pv 2) (pa_cons pe_int (pa_cons (C8.pe_gc (by rfl) T.v_GREATEST) pa_nil)))))) (pss_one ps_never) pss_nil)
      (pss_cons (ps_expr (pe_f (need_echoes T) hr (L2N.passes_call (L2N.takes_of rfl rfl rfl rfl) (fun _ _ _ _ z => z)) (pa_cons (pv 1) (pa_cons (pv 2) (pa_cons (pv 3) pa_nil)))))
      (pss_cons (ps_fld (pv 0) (pv 1) rfl) (pss_cons (ps_fld (pv 0) (pv 2) rfl) (pss_one (ps_fld (pv 0) (pe_tupleOf (by rfl) T.b_tuple (pv 3)) rfl)))))), ?_⟩
    refine ⟨_, rfl, _, rfl, (k : Int), rfl, by omega, by omega, ?_⟩
    refine ⟨_, rfl, _, _, _, rfl, .int, some 1, some G30, ⟨n, rfl⟩, rfl, rfl, rfl, _, rfl, ?_⟩
    rw [show isI (.int n) (some 1) (some G30) = true by simp [isI, loB, hiB, n1, n30]]
    refine iteF ⟨_, rfl, _, rfl, _, rfl, _, _, _, rfl, k, n, t, xs, es, rfl, rfl, rfl, ht, pr, l3, ?_⟩
    cases hok : echoesOk k n es with
    | false =>
      rw [hok] at q
      exact iteF q
    | true =>
      rw [hok] at q
      have q := (show ∀ H', (∀ b o, H b = some o → b ≠ p → H' b = some o) → H' p = some (.ins (ga K "Song") dx [(("alphabet" : Str), .int (k : Int)), (("size" : Str), .int n), (("voices" : Str), .ref t)]) → Q .non H' from q)
      refine iteT fun H1 s1 => ?_
      have hp1 := s1 _ _ hp
      refine ⟨_, rfl, _, rfl, p, _, dx, _, rfl, hp1, T.c_Song, T.n_Song_alphabet, by decide, ?_⟩
      refine ⟨_, rfl, _, rfl, p, _, dx, _, rfl, upd_same, T.c_Song, T.n_Song_size, putF_len (n := 999) (by decide), ?_⟩
      have ht1 : t ≠ p := ne_of ht hp (by intro z; cases z)
      refine ⟨_, rfl, .inr ⟨t, xs, rfl, SqT.of (by rw [upd_ne ht1, upd_ne ht1]; exact s1 _ _ ht), ?_⟩⟩
      refine ⟨_, rfl, p, _, dx, _, rfl, upd_same, T.c_Song, T.n_Song_voices, putF_len (n := 999) (putF_len (n := 998) (by decide)), ?_⟩
      refine q _ (fun b o hb hne => by rw [upd_ne hne, upd_ne hne, upd_ne hne]; exact s1 _ _ hb) ?_
      rw [upd_same]
      rfl
  · exact absurd rfl e
/-- a song is made -/
theorem song_made {T : Top K mg} {H : Hp} {k : Nat} {n : Int} {rest : List V} {es : List (V × Option Rw)} {Q : VK} {E : XK} (k1 : 1 ≤ k) (k5 : k ≤ 5) (n1 : 1 ≤ n) (n30 : n ≤ G30) (pr : Paired (EchoV K H) rest es) (l3 : es.length ≤ 3)
    (q : if echoesOk k n es = true then ∀ H' v, Same H H' → (∀ es', es = es'.map vE → SongAt K H' v ⟨k, n, es'⟩) → Q v H' else ∀ H' c d, Same H H' → XOk K H' c d → E c d H') :
    ∀ x dx, H x = Option.none → H dx = Option.none → dx ≠ x → pSongStar K (V.ref x :: ([.int (k : Int), .int n] ++ rest)) (upd (upd H dx (.own x)) x (.ins (ga K "Song") dx [])) (fun v H2 => v = .non ∧ Q (.ref x) H2) E := by
  intro x dx hx hdx hne
  have s1 : Same H (upd (upd H dx (.own x)) x (.ins (ga K "Song") dx [])) := Same.snd (Same.new hdx) (by rw [upd_ne (Ne.symm hne)]; exact hx)
  refine ⟨[.ref x, .int (k : Int), .int n], rest, rfl, rfl, by rw [Paired.length pr, sizeLine_eq]; omega, fun t ht => ?_⟩
  have s2 := Same.snd (o := .tup rest) s1 ht
  have hx2 : (upd (upd (upd H dx (.own x)) x (.ins (ga K "Song") dx [])) t (.tup rest)) x = some (.ins (ga K "Song") dx []) := by
    rw [upd_ne (ne_of_none upd_same ht)]
    exact upd_same
  refine ⟨x, dx, t, k, n, rest, es, rfl, hx2, k1, k5, n1, n30, upd_same, paired_mono pr fun _ _ z => z.same s2, l3, ?_⟩
  cases hok : echoesOk k n es with
  | false =>
    rw [hok] at q
    exact iteF fun H' c d s3 he => (show ∀ H' c d, Same H H' → XOk K H' c d → E c d H' from q) H' c d (Same.trans s2 s3) he
  | true =>
    rw [hok] at q
    refine iteT fun H' fr hp => ⟨rfl, (show ∀ H' v, Same H H' → (∀ es', es = es'.map vE → SongAt K H' v ⟨k, n, es'⟩) → Q v H' from q) H' _ ?_ fun es' he => ?_⟩
    · exact fun b o hb => fr b o (s2 _ _ hb) (ne_of_none hb hx)
    · refine ⟨x, dx, t, rest, rfl, hp, fr t _ upd_same (fun z => ?_), ?_⟩
      · rw [z] at ht
        rw [upd_same] at ht
        cases ht
      · rw [← he]
        exact paired_mono pr fun _ _ z => z.same fun b o hb => fr b o (s2 _ _ hb) (ne_of_none hb hx)
end
end Ef

set_option Elab.async false
set_option linter.all false
set_option maxRecDepth 100000
set_option maxHeartbeats 4000000
namespace Ef
open PySem PySem.Spec PyProof.Rows L2 He
def xall : List Str := ["InvalidPlace", "InvalidWishes", "InvalidNumber", "TooFar", "TooLong", "InvalidEcho", "NoEcho", "InvalidDeed", "NothingToUndo", "NothingToRedo"]
/-- .. and some facts more -/
structure Top2 (w : World) (K : PySem.W.Frag) (mg : Str → Option Value) : Prop extends Top K mg where
  con_NEAR : ∃ u, Con K (ga K "Song") "NEAR" (.int 40) u
  things : ∃ d es n, mg "THINGS" = some (.ref d) ∧ KDict K w d es n ∧ ∀ x ∈ [(("wish" : Str), (2 : Int)), ("free", 1), ("length", 1), ("echo", 2), ("drop", 1)], ∃ u, PySem.W.nsIn K d x.1 = some (some u) ∧ RelV (.int x.2) u
  x_InvalidDeed : PySem.EfX.Oxb K (ga K "InvalidDeed") "ValueError" "ValueError.__new__" "ValueError.__init__" [.type "ValueError", .type "Exception", .type "BaseException", .type "object"]
  xi_InvalidDeed : PySem.W.findIn K (.ref (ga K "InvalidDeed")) "__init__" = some (some (.ref (ma K (ga K "InvalidDeed") "__init__")))
  xt_InvalidDeed : PySem.W.typeIn K (.ref (ma K (ga K "InvalidDeed") "__init__")) = some (.type "function")
  xg_InvalidDeed : mg "InvalidDeed" = some (.ref (ga K "InvalidDeed"))
  xf_InvalidDeed : PySem.W.findIn K (.ref (ga K "InvalidDeed")) "index" = some none
  exm : ∀ x ∈ xall, ∀ y ∈ xall, PySem.W.exmOne K (.ref (ga K x)) (.ref (ga K y)) = some (decide (x = y))
  ne_TB : ga K "Table" ≠ ga K "Book"
  ne_SB : ga K "Song" ≠ ga K "Book"
theorem lk2 {f g : Str} {u v : V} {r : List (Str × V)} (h : ¬ g = f) : List.lookup g ((f, v) :: (g, u) :: r) = some u := (lk_tl h).trans lk_hd
theorem lk3 {f f2 g : Str} {u v v2 : V} {r : List (Str × V)} (h : ¬ g = f) (h2 : ¬ g = f2) : List.lookup g ((f, v) :: (f2, v2) :: (g, u) :: r) = some u := (lk_tl h).trans (lk2 h2)
theorem lk3n {f f2 f3 g : Str} {u v v2 : V} (h : ¬ g = f) (h2 : ¬ g = f2) (h3 : ¬ g = f3) : List.lookup g [(f, v), (f2, v2), (f3, u)] = none := (lk_tl h).trans ((lk_tl h2).trans ((lk_tl h3).trans rfl))
/-! ### the text of a song -/
def iT (i : Int) : Str := Str.ofString (toString i)
def echoT (e : Int × Rw) : Str := (("echo " : Str) ++ iT e.1) ++ " " ++ tabT e.2
def headT (s : Sg) : Str := ((("song " : Str) ++ iT (s.k : Int)) ++ " ") ++ iT s.n
def songT (s : Sg) : Str := Txt.join "\n" (headT s :: s.es.map echoT)
structure OkSg (s : Sg) : Prop where
  k1 : 1 ≤ s.k
  k5 : s.k ≤ 5
  n1 : 1 ≤ s.n
  n40 : s.n ≤ 40
  l2 : s.es.length ≤ 2
  es : ∀ e ∈ s.es, 1 ≤ e.1 ∧ e.1 ≤ G30 ∧ OkR s.k e.2
  reach : s.es.length = 2 → s.n ≤ (s.es.map (·.1)).sum
theorem emp_app (x : Str) : Str.empty ++ x = x := by
  cases x
  exact congrArg Str.mk Array.empty_append
theorem log2_G {i : Int} (h1 : 0 ≤ i) (h2 : i ≤ G30) : i.natAbs.log2 < 1920 := by
  have e : i.natAbs ≤ 10 ^ 30 := by
    have : i ≤ 1000000000000000000000000000000 := h2
    omega
  have e2 : i.natAbs < 2 ^ 1920 := Nat.lt_of_le_of_lt e (by decide +kernel)
  by_cases h0 : i.natAbs = 0
  · rw [h0]; decide
  · exact (Nat.log2_lt h0).mpr e2
theorem iT_len {i : Int} (h1 : 0 ≤ i) (h2 : i ≤ G30) : (iT i).length ≤ 32 := by
  have h2' : i ≤ 1000000000000000000000000000000 := h2
  have e := int_text_length_le10 (a := i) (k := 31) (by decide) (by omega)
  unfold iT
  rw [PySem.ofString_length]
  exact e
theorem slen {x : Str} {n : Nat} (h : x.length = n) : x.length ≤ n := Nat.le_of_eq h
theorem echoT_len {k : Nat} {e : Int × Rw} (h1 : 1 ≤ e.1) (h2 : e.1 ≤ G30) (h3 : OkR k e.2) : (echoT e).length ≤ 110 := by
  have a := iT_len (i := e.1) (by omega) h2
  have b := tabT_len h3
  have c : ("echo " : Str).length = 5 := by decide +kernel
  have d : (" " : Str).length = 1 := by decide +kernel
  unfold echoT
  rw [Str.length_append, Str.length_append, Str.length_append]
  omega
theorem headT_len {s : Sg} (ok : OkSg s) : (headT s).length ≤ 80 := by
  have hk : (s.k : Int) ≤ G30 := by have := ok.k5; show (s.k : Int) ≤ 1000000000000000000000000000000; omega
  have hn : s.n ≤ G30 := by have := ok.n40; show s.n ≤ 1000000000000000000000000000000; omega
  have a := iT_len (i := (s.k : Int)) (by omega) hk
  have b := iT_len (i := s.n) (by have := ok.n1; omega) hn
  have c : ("song " : Str).length = 5 := by decide +kernel
  have d : (" " : Str).length = 1 := by decide +kernel
  unfold headT
  rw [Str.length_append, Str.length_append, Str.length_append]
  omega
theorem echoes_sum {s : Sg} (ok : OkSg s) : ((s.es.map echoT).map (·.length)).sum ≤ 220 := by
  have z := sum_le (l := (s.es.map echoT).map (·.length)) (b := 110) (by
    intro x hx
    obtain ⟨y, hy, rfl⟩ := List.mem_map.mp hx
    obtain ⟨e, he, rfl⟩ := List.mem_map.mp hy
    obtain ⟨h1, h2, h3⟩ := ok.es e he
    exact echoT_len h1 h2 h3)
  rw [List.length_map, List.length_map] at z
  have := ok.l2
  omega
section
variable {P : Program} {w : World} {K : PySem.W.Frag} {mg : Str → Option Value} {base : Heap}
/-! ### Song's properties -/
theorem bnd_Song_letters : BindN "letters" "Song.letters" s_Song_letters ["self"] := fun _ _ _ _ _ _ us hl => match us, hl with | [_], _ => rfl
theorem sc_Song_letters : FnScope ["self"] ["self"] (defScope s_Song_letters) := ⟨rfl, rfl, rfl, by decide +kernel, rfl, by decide +kernel, by decide +kernel⟩
def pSg (g : Sg → V) (K : PySem.W.Frag) (v : V) (H : Hp) (Q : VK) (_ : XK) : Prop := ∃ s, SongAt K H v s ∧ Q (g s) H
theorem Song_letters (T : Top K mg) : Prp P w K mg base CX0 1 (ga K "Song") "letters" (sp1 (pSg (fun s => .int (s.k : Int)) K)) := by
  obtain ⟨fd, F⟩ := T.d_Song_letters
  refine prp_of T.p_Song_letters F bnd_Song_letters (okN1 F sc_Song_letters fun cdv A outer s H v Q E hr h => ?_)
  obtain ⟨s, ⟨a, dx, c, xs, rfl, ha, hc, pr⟩, q⟩ := h
  exact ⟨_, pss_one (ps_ret (pe_fld (pv 0) rfl)), _, rfl, a, _, dx, _, _, rfl, ha, T.c_Song, T.n_Song_alphabet, lk_hd, q⟩
theorem bnd_Song_length : BindN "length" "Song.length" s_Song_length ["self"] := fun _ _ _ _ _ _ us hl => match us, hl with | [_], _ => rfl
theorem sc_Song_length : FnScope ["self"] ["self"] (defScope s_Song_length) := ⟨rfl, rfl, rfl, by decide +kernel, rfl, by decide +kernel, by decide +kernel⟩
theorem Song_length (T : Top K mg) : Prp P w K mg base CX0 1 (ga K "Song") "length" (sp1 (pSg (fun s => .int s.n) K)) := by
  obtain ⟨fd, F⟩ := T.d_Song_length
  refine prp_of T.p_Song_length F bnd_Song_length (okN1 F sc_Song_length fun cdv A outer s H v Q E hr h => ?_)
  obtain ⟨s, ⟨a, dx, c, xs, rfl, ha, hc, pr⟩, q⟩ := h
  exact ⟨_, pss_one (ps_ret (pe_fld (pv 0) rfl)), _, rfl, a, _, dx, _, _, rfl, ha, T.c_Song, T.n_Song_size, lk2 (by decide +kernel), q⟩
theorem bnd_Song_is_near : BindN "is_near" "Song.is_near" s_Song_is_near ["self"] := fun _ _ _ _ _ _ us hl => match us, hl with | [_], _ => rfl
theorem sc_Song_is_near : FnScope ["self"] ["self"] (defScope s_Song_is_near) := ⟨rfl, rfl, rfl, by decide +kernel, rfl, by decide +kernel, by decide +kernel⟩
theorem Song_is_near (T : Top2 w K mg) : Prp P w K mg base CX0 1 (ga K "Song") "is_near" (sp1 (pSg (fun s => .bl (decide (s.n ≤ 40))) K)) := by
  obtain ⟨fd, F⟩ := T.d_Song_is_near
  obtain ⟨u, hu⟩ := T.con_NEAR
  refine prp_of T.p_Song_is_near F bnd_Song_is_near (okN1 F sc_Song_is_near fun cdv A outer s H v Q E hr h => ?_)
  obtain ⟨s, ⟨a, dx, c, xs, rfl, ha, hc, pr⟩, q⟩ := h
  refine ⟨_, pss_one (ps_ret (pe_cmp (pc_le (pe_fld (pv 0) rfl) (pe_con (pv 0) rfl)))), ?_⟩
  exact ⟨_, rfl, a, _, dx, _, _, rfl, ha, T.c_Song, T.n_Song_size, lk2 (by decide +kernel), _, rfl, a, _, dx, _, _, u, rfl, ha, T.c_Song, hu, lk3n (by decide +kernel) (by decide +kernel) (by decide +kernel), _, _, rfl, rfl, q⟩
theorem bnd_Song_text : BindN "text" "Song.text" s_Song_text ["self"] := fun _ _ _ _ _ _ us hl => match us, hl with | [_], _ => rfl
theorem sc_Song_text : FnScope ["self", "lines", "delay", "table"] ["self"] (defScope s_Song_text) := ⟨rfl, rfl, rfl, by decide +kernel, rfl, by decide +kernel, by decide +kernel⟩
def pSongText (K : PySem.W.Frag) (v : V) (H : Hp) (Q : VK) (_ : XK) : Prop := ∃ s, SongAt K H v s ∧ OkSg s ∧ ∀ H', Same H H' → Q (.str (songT s)) H'
theorem vE_es {es : List (Int × Rw)} {i : Nat} {e : V × Option Rw} (h : (es.map vE)[i]? = some e) : ∃ f, es[i]? = some f ∧ e = vE f := by
  rw [List.getElem?_map] at h
  cases hf : es[i]? with
  | none => rw [hf] at h; cases h
  | some f => rw [hf] at h; exact ⟨f, rfl, (Option.some.inj h).symm⟩
/-- f'..' as one reading -/
def tJsE (ts : List TE) : TE := fun σ H Q => tJs ts Str.empty σ H fun out H1 => Q (.str out) H1
theorem Song_text (T : Top K mg) : Prp P w K mg base CX0 3 (ga K "Song") "text" (sp1 (pSongText K)) := by
  obtain ⟨fd, F⟩ := T.d_Song_text
  refine prp_of T.p_Song_text F bnd_Song_text (okN1 F sc_Song_text fun cdv A outer s H v Q E hr h => ?_)
  obtain ⟨s, ⟨a, dx, c, xs, rfl, ha, hc, pr⟩, ok, q⟩ := h
  refine ⟨_, pss_cons (ps_set (i := 1) sc_Song_text.nd rfl (.inl rfl) (pe_lst (pa_cons (pe_joined (.cons pe_str (.cons (pe_fmt (pe_fld (pv 0) rfl)) (.cons pe_str (.cons (pe_fmt (pe_fld (pv 0) rfl)) .nil))))) pa_nil)))
    (pss_one (ps_ret (pe_join pe_str (pe_op op_cat (pv 1) (pe_lc (own := [("delay", 2), ("table", 3)]) (g := gTup K 2 (gCons (gName 2) (gCons (gName 3) gNil))) (tt := tYes)
      (te := tJsE [tC (.str "echo "), tFmt (tVar 2), tC (.str " "), tFmt (tProp (ga K "Table") (sp1 (pTabText K)) [] E (tVar 3))]) rfl sc_Song_text.nd (pi_tup (pe_fld (pv 0) rfl)) (blkOk_by (N := ["self", "lines", "delay", "table"]) (sc := defScope s_Song_text) (by decide +kernel))
      (fun _ _ _ _ _ => pg_tup rfl (pgs_cons (pg_name (i := 2) sc_Song_text.nd rfl (.inl rfl)) (pgs_cons (pg_name (i := 3) sc_Song_text.nd rfl (.inl rfl)) pgs_nil))) (fun _ _ _ _ _ => pts_nil)
      (fun _ _ _ _ _ => pe_joined (.cons pe_str (.cons (pe_fmt (pv 2)) (.cons pe_str (.cons (pe_fmt (pe_p T.c_Table (Table_text T) hr pass0 (pv 3))) .nil)))))))))), ?_⟩
  have hk : (s.k : Int) ≤ G30 := by have := ok.k5; show (s.k : Int) ≤ 1000000000000000000000000000000; omega
  have hn : s.n ≤ G30 := by have := ok.n40; show s.n ≤ 1000000000000000000000000000000; omega
  have la := iT_len (i := (s.k : Int)) (by omega) hk
  have lb := iT_len (i := s.n) (by have := ok.n1; omega) hn
  have lc : ("song " : Str).length = 5 := by decide +kernel
  have ld : (" " : Str).length = 1 := by decide +kernel
  have le : ("echo " : Str).length = 5 := by decide +kernel
  have lz : sizeLine = 16777216 := sizeLine_eq
  refine ⟨_, rfl, ?_, ?_⟩
  · rw [emp_app, lc, lz]; omega
  rw [emp_app]
  refine ⟨_, rfl, a, _, dx, _, _, rfl, ha, T.c_Song, T.n_Song_alphabet, lk_hd, .inr ⟨_, rfl, log2_G (by omega) hk, _, rfl, ?_, ?_⟩⟩
  · rw [Str.length_append]; show _ + (iT (s.k : Int)).length ≤ _; omega
  refine ⟨_, rfl, ?_, ?_⟩
  · rw [Str.length_append, Str.length_append]; show _ + (iT (s.k : Int)).length + _ ≤ _; omega
  refine ⟨_, rfl, a, _, dx, _, _, rfl, ha, T.c_Song, T.n_Song_size, lk2 (by decide +kernel), .inr ⟨_, rfl, log2_G (by have := ok.n1; omega) hn, _, rfl, ?_, ?_⟩⟩
  · have := headT_len ok
    show (headT s).length ≤ _
    omega
  rw [show (((Str.ofString "song " ++ Str.ofString (toString (s.k : Int))) ++ Str.ofString " ") ++ Str.ofString (toString s.n)) = headT s from rfl]
  refine ⟨by show 1 ≤ sizeLine; decide, fun l nl => ?_⟩
  have s1 : Same H (upd H l (.lst [.str (headT s)])) := Same.new nl
  refine ⟨⟨_, rfl⟩, _, rfl, _, rfl, a, _, dx, _, _, rfl, s1 _ _ ha, T.c_Song, T.n_Song_voices, lk3 (by decide +kernel) (by decide +kernel), c, rfl, ⟨_, SqT.of (s1 _ _ hc)⟩, fun D nD =>
    lc_tup (K := K) (a := c) (xs := xs) (fun i H2 => Same (upd H l (.lst [.str (headT s)])) H2 ∧ H2 D = some (.lst (((s.es.take i).map echoT).map V.str))) ⟨Same.new nD, by rw [List.take_zero]; exact upd_same⟩ (fun i H2 _ h => SqT.of (h.1 _ _ (s1 _ _ hc))) ?_ ?_⟩
  · rintro i x H2 hi ⟨s2, d2⟩
    obtain ⟨e0, he0, b, t, rfl, hb, hd, ht⟩ := paired_get pr hi
    obtain ⟨e, he, rfl⟩ := vE_es he0
    obtain ⟨h1, h30, oR⟩ := ok.es e (List.mem_of_getElem? he)
    have hil := (List.getElem?_eq_some_iff.mp he).1
    have ht2 : TabAt K H2 t e.2 := TabAt.same (Same.trans s1 s2) ht
    have el := echoT_len h1 h30 oR
    refine ⟨b, _, rfl, SqT.of (s2 _ _ (s1 _ _ hb)), rfl, _, _, rfl, _, _, rfl, ⟨rfl, ?_⟩⟩
    refine ⟨rfl, ?_⟩
    have l1 := iT_len (i := e.1) (by omega) h30
    refine ⟨_, rfl, by rw [emp_app, le, lz]; omega, ?_⟩
    rw [emp_app]
    refine ⟨_, rfl, .inr ⟨_, rfl, log2_G (by omega) h30, _, rfl, ?_, ?_⟩⟩
    · rw [Str.length_append]; show _ + (iT e.1).length ≤ _; omega
    refine ⟨_, rfl, ?_, ?_⟩
    · rw [Str.length_append, Str.length_append]; show _ + (iT e.1).length + _ ≤ _; omega
    obtain ⟨ta, tdx, tt, rfl, hta, hrw⟩ := id ht2
    refine ⟨_, rfl, ta, tdx, _, rfl, hta, _, rfl, s.k, e.2, ht2, oR, fun H3 s3 => .inl ⟨_, rfl, ?_, _, rfl, ?_, ?_⟩⟩
    · have := tabT_len oR
      omega
    · show (echoT e).length ≤ _
      omega
    refine ⟨_, s3 _ _ d2, ?_, ?_, ?_⟩
    · rw [List.length_map, List.length_map, List.length_take]
      have := ok.l2
      omega
    · exact Same.mut (Same.trans s2 s3) nD
    · rw [upd_same, take_more he, List.map_append, List.map_append]
      rfl
  · rintro H2 ⟨s2, d2⟩
    have hx : xs.length = s.es.length := (Paired.length pr).trans (by rw [List.length_map])
    rw [hx, List.take_length] at d2
    have l2 := s2 _ _ (upd_same (H := H) (a := l) (o := .lst [.str (headT s)]))
    refine ⟨l, D, _, _, rfl, rfl, l2, d2, ?_, fun p hp => ?_⟩
    · have := ok.l2
      rw [List.length_map, List.length_map]
      show 1 + _ ≤ _
      omega
    · refine ⟨"\n", p, headT s :: s.es.map echoT, rfl, rfl, .inl (SqL.of upd_same), ?_, q _ (Same.snd (Same.trans s1 s2) hp)⟩
      have h1 := echoes_sum ok
      have h2 := headT_len ok
      have h3 := ok.l2
      have h4 : ("\n" : Str).length = 1 := by decide +kernel
      rw [List.map_cons, List.sum_cons, List.length_cons, List.length_map, h4]
      omega
end
end Ef

set_option Elab.async false
set_option linter.all false
set_option maxRecDepth 100000
set_option maxHeartbeats 4000000
namespace Ef
open PySem PySem.Spec PyProof.Rows L2 He
/-! ### methods by a positional promise -/
structure Mtd (P : Program) (w : World) (K : PySem.W.Frag) (mg : Str → Option Value) (base : Heap) (CX : CXT) (k : Nat) (C : Addr) (m : Str) (sp : Sp) : Prop where
  ex : ∃ f, Meth K C m f ∧ FnR P w K mg base CX k f sp
section
variable {X : Cx} {CX : CXT} {k : Nat} {C : Addr} {m : Str} {sp : Sp} {E : XK} {o e : Expr} {es : List Expr} {ta : TE} {t : TA} {apos pos : Pos} {pl : Sem Bool}
theorem pe_m (c : Cls X.K C) (h : Mtd X.prog X.w X.K X.mg X.base CX k C m sp) (hr : Room k X.A) (hx : Passes CX X E) (he : PE X o ta) (ha : PA X (e :: es) t)
    (hst : starEach (e :: es) X.env = (false, eval e X.env) :: starEach es X.env := by rfl) (hpl : (backTo pos (starEach es X.env)).any (·.1) = false := by rfl)
    (ht : eval (.Call (.Attribute o m apos) (e :: es) [] pos) X.env = (do
      let ov ← eval o X.env
      standAt apos.atName
      let (f, first) ← holding [ov] (getMethod ov m pl)
      callWith pos f first (backTo pos (starEach (e :: es) X.env)) (backToKw pos (keywordEach [] X.env))) := by rfl) :
    PE X (.Call (.Attribute o m apos) (e :: es) [] pos) (tMethR C m sp E ta t) := by
  obtain ⟨f, h1, h2⟩ := h.ex
  exact pe_methR he c h1 h2 hr hx ha hst hpl ht
/-- o.m() -/
theorem pe_m0 (c : Cls X.K C) (h : Mtd X.prog X.w X.K X.mg X.base CX k C m sp) (hr : Room k X.A) (hx : Passes CX X E) (he : PE X o ta)
    (ht : eval (.Call (.Attribute o m apos) [] [] pos) X.env = (do
      let ov ← eval o X.env
      standAt apos.atName
      let (f, first) ← holding [ov] (getMethod ov m pl)
      callWith pos f first (backTo pos (starEach [] X.env)) (backToKw pos (keywordEach [] X.env))) := by rfl) :
    PE X (.Call (.Attribute o m apos) [] [] pos) (tMethR C m sp E ta tNil) := by
  obtain ⟨f, h1, h2⟩ := h.ex
  refine ⟨fun pins s σ H Q I hq => ?_⟩
  refine PySem.W.methodCall_KW (pl := pl) (thn (he.run pins s σ H _ I hq) fun u s1 ⟨x, H1, I1, rx, a, dx, fs, ex, ea, l, q⟩ => ?_) ht
  subst ex
  obtain rfl : u = Value.ref a := rx
  refine getmeth_ok I1 ea c h1 l ?_
  exact PySem.W.callWith_K0 (first := [.ref a]) I1.kIn h1.kp (wpAny_call (run_fnR (us := [.ref a]) (vs := [.ref a]) h2 hr hx I1 (.cons rfl .nil) q))
end
/-! ### echoes, plain -/
def okEs (k : Nat) (n : Int) (es : List (Int × Rw)) : Bool := echoesOk k n (es.map vE)
theorem vE_ok {s : Sg} (ok : OkSg s) {e : Int × Rw} (he : e ∈ s.es) : vEcho s.k (vE e) = true := by
  obtain ⟨h1, h2, h3⟩ := ok.es e he
  have h2' : e.1 ≤ 1000000000000000000000000000000 := h2
  simp [vEcho, vE, isI, loB, hiB, h1, h3.len]
  exact h2'
theorem reach_map (es : List (Int × Rw)) : reachE (es.map vE) = (es.map (·.1)).sum := by
  unfold reachE
  rw [List.map_map]
  rfl
theorem okEs_iff {s : Sg} (ok : OkSg s) (m : Int) : okEs s.k m s.es = (!decide (s.es.length = 2) || decide (m ≤ (s.es.map (·.1)).sum)) := by
  have a : decide ((s.es.map vE).length ≤ 2) = true := decide_eq_true (by rw [List.length_map]; exact ok.l2)
  have b : (s.es.map vE).all (vEcho s.k) = true := by
    rw [List.all_eq_true]
    intro x hx
    obtain ⟨e, he, rfl⟩ := List.mem_map.mp hx
    exact vE_ok ok he
  unfold okEs echoesOk
  rw [a, b, reach_map, List.length_map]
  simp
theorem paired_erase {α β : Type} {F : α → β → Prop} : ∀ {l₁ : List α} {l₂ : List β} (j : Nat), Paired F l₁ l₂ → Paired F (l₁.eraseIdx j) (l₂.eraseIdx j)
  | _, _, j, .nil => by simp; exact .nil
  | _, _, 0, .cons _ t => t
  | _, _, j + 1, .cons r t => .cons r (paired_erase j t)
theorem paired_app {α β : Type} {F : α → β → Prop} : ∀ {l₁ : List α} {l₂ : List β} {m₁ : List α} {m₂ : List β}, Paired F l₁ l₂ → Paired F m₁ m₂ → Paired F (l₁ ++ m₁) (l₂ ++ m₂)
  | _, _, _, _, .nil, h => h
  | _, _, _, _, .cons r t, h => .cons r (paired_app t h)
theorem map_vE_inj : ∀ {a b : List (Int × Rw)}, a.map vE = b.map vE → a = b
  | [], [], _ => rfl
  | [], _ :: _, h => by simp at h
  | _ :: _, [], h => by simp at h
  | (i, R) :: a, (j, S) :: b, h => by
    simp [vE] at h
    obtain ⟨⟨rfl, rfl⟩, h⟩ := h
    rw [map_vE_inj (a := a) (b := b) h]
section
variable {P : Program} {w : World} {K : PySem.W.Frag} {mg : Str → Option Value} {base : Heap}
/-! ### Song's methods -/
theorem bnd_with_length : BindN "with_length" "Song.with_length" s_Song_with_length ["self", "length"] := fun _ _ _ _ _ _ us hl => match us, hl with | [_, _], _ => rfl
theorem sc_with_length : FnScope ["self", "length"] ["self", "length"] (defScope s_Song_with_length) := ⟨rfl, rfl, rfl, by decide +kernel, rfl, by decide +kernel, by decide +kernel⟩
def pWithLength (K : PySem.W.Frag) (v l : V) (H : Hp) (Q : VK) (E : XK) : Prop := ∃ s m, SongAt K H v s ∧ OkSg s ∧ l = .int m ∧ 1 ≤ m ∧ m ≤ G30 ∧
  if okEs s.k m s.es = true then ∀ H' v', Same H H' → SongAt K H' v' ⟨s.k, m, s.es⟩ → Q v' H' else ∀ H' c d, Same H H' → XOk K H' c d → E c d H'
theorem Song_with_length (T : Top K mg) : Mtd P w K mg base (L2N.CX P w) 7 (ga K "Song") "with_length" (sp2 (pWithLength K)) := by
  obtain ⟨fd, F⟩ := T.d_Song_with_length
  obtain ⟨fi, Fi⟩ := T.d_Song_init
  refine ⟨_, T.m_Song_with_length, fn2 F sc_with_length bnd_with_length fun cdv A outer s0 H v l Q E hr h => ?_⟩
  obtain ⟨s, m, ⟨a, dx, c, xs, rfl, ha, hc, pr⟩, ok, rfl, m1, m30, q⟩ := h
  refine ⟨_, pss_one (ps_ret (pe_makeS2 T.k_Song (Song_init T Fi) hr (by rfl) T.g_Song (L2N.passes_call (L2N.takes_of rfl rfl rfl rfl) (fun _ _ _ _ z => z)) (pa_cons (pe_fld (pv 0) rfl) (pa_cons (pv 1) (StX.pa_star (pe_fld (pv 0) rfl) pa_nil))))), ?_⟩
  refine ⟨_, rfl, a, _, dx, _, _, rfl, ha, T.c_Song, T.n_Song_alphabet, lk_hd, _, rfl, _, rfl, a, _, dx, _, _, rfl, ha, T.c_Song, T.n_Song_voices, lk3 (by decide +kernel) (by decide +kernel), c, xs, rfl, .inl (SqT.of hc), ?_⟩
  refine song_made (T := T) (rest := xs ++ []) ok.k1 ok.k5 m1 m30 (by rw [List.append_nil]; exact pr) (by rw [List.length_map]; have := ok.l2; omega) ?_
  cases hk : okEs s.k m s.es with
  | false =>
    rw [hk] at q
    exact itF hk fun H' c d s1 z => (show ∀ H' c d, Same H H' → XOk K H' c d → E c d H' from q) H' c d s1 z
  | true =>
    rw [hk] at q
    exact itT hk fun H' v s1 z => (show ∀ H' v', Same H H' → SongAt K H' v' ⟨s.k, m, s.es⟩ → Q v' H' from q) H' v s1 (z _ rfl)
theorem bnd_with_echo : BindN "with_echo" "Song.with_echo" s_Song_with_echo ["self", "delay", "table"] := fun _ _ _ _ _ _ us hl => match us, hl with | [_, _, _], _ => rfl
theorem sc_with_echo : FnScope ["self", "delay", "table"] ["self", "delay", "table"] (defScope s_Song_with_echo) := ⟨rfl, rfl, rfl, by decide +kernel, rfl, by decide +kernel, by decide +kernel⟩
def pWithEcho (K : PySem.W.Frag) (v dl t : V) (H : Hp) (Q : VK) (E : XK) : Prop := ∃ s o, SongAt K H v s ∧ OkSg s ∧ AnyD H dl ∧ TabQ K H t o ∧
  if echoesOk s.k s.n (s.es.map vE ++ [(dl, o)]) = true then ∀ H' v' d R, dl = .int d → o = some R → Same H H' → SongAt K H' v' ⟨s.k, s.n, s.es ++ [(d, R)]⟩ → Q v' H' else ∀ H' c d, Same H H' → XOk K H' c d → E c d H'
theorem n_G {s : Sg} (ok : OkSg s) : s.n ≤ G30 := by
  have := ok.n40
  show s.n ≤ 1000000000000000000000000000000
  omega
theorem Song_with_echo (T : Top K mg) : Mtd P w K mg base (L2N.CX P w) 7 (ga K "Song") "with_echo" (sp3 (pWithEcho K)) := by
  obtain ⟨fd, F⟩ := T.d_Song_with_echo
  obtain ⟨fi, Fi⟩ := T.d_Song_init
  refine ⟨_, T.m_Song_with_echo, fn3 F sc_with_echo bnd_with_echo fun cdv A outer s0 H v dl t Q E hr h => ?_⟩
  obtain ⟨s, o, ⟨a, dx, c, xs, rfl, ha, hc, pr⟩, ok, hd, ht, q⟩ := h
  refine ⟨_, pss_one (ps_ret (pe_makeS2 T.k_Song (Song_init T Fi) hr (by rfl) T.g_Song (L2N.passes_call (L2N.takes_of rfl rfl rfl rfl) (fun _ _ _ _ z => z)) (pa_cons (pe_fld (pv 0) rfl) (pa_cons (pe_fld (pv 0) rfl) (StX.pa_star (pe_fld (pv 0) rfl) (pa_cons (pe_tup (pa_cons (pv 1) (pa_cons (pv 2) pa_nil))) pa_nil)))))), ?_⟩
  refine ⟨_, rfl, a, _, dx, _, _, rfl, ha, T.c_Song, T.n_Song_alphabet, lk_hd, _, rfl, a, _, dx, _, _, rfl, ha, T.c_Song, T.n_Song_size, lk2 (by decide +kernel), _, rfl, a, _, dx, _, _, rfl, ha, T.c_Song, T.n_Song_voices, lk3 (by decide +kernel) (by decide +kernel), c, xs, rfl, .inl (SqT.of hc), ?_⟩
  refine ⟨_, rfl, _, rfl, by show 2 ≤ sizeLine; decide, fun p hp => ?_⟩
  have s1 : Same H (upd H p (.tup [dl, t])) := Same.new hp
  refine song_made (T := T) (rest := xs ++ [.ref p]) (es := s.es.map vE ++ [(dl, o)]) ok.k1 ok.k5 ok.n1 (n_G ok) (paired_app (paired_mono pr fun _ _ z => z.same s1) (.cons ⟨p, t, rfl, upd_same, hd.same s1, ht.same s1⟩ .nil)) (by rw [List.length_append, List.length_map]; have := ok.l2; show _ + 1 ≤ 3; omega) ?_
  cases hk : echoesOk s.k s.n (s.es.map vE ++ [(dl, o)]) with
  | false =>
    rw [hk] at q
    exact iteF fun H' c d s2 z => (show ∀ H' c d, Same H H' → XOk K H' c d → E c d H' from q) H' c d (Same.trans s1 s2) z
  | true =>
    rw [hk] at q
    have hv : vEcho s.k (dl, o) = true := by
      unfold echoesOk at hk
      simp only [Bool.and_eq_true, List.all_append] at hk
      have := hk.1.2.2
      simpa using this
    obtain ⟨d1, d2, d3⟩ := vEcho_int hv
    cases o with
    | none => simp [vEcho] at hv
    | some R =>
      refine iteT fun H' v s2 z => (show ∀ H' v' d R', dl = .int d → some R = some R' → Same H H' → SongAt K H' v' ⟨s.k, s.n, s.es ++ [(d, R')]⟩ → Q v' H' from q) H' v (dI dl) R d1 rfl (Same.trans s1 s2) (z _ ?_)
      rw [List.map_append]
      show _ = _ ++ [(V.int (dI dl), some R)]
      rw [← d1]
end
end Ef

set_option Elab.async false
set_option linter.all false
set_option maxRecDepth 100000
set_option maxHeartbeats 4000000
namespace Ef
open PySem PySem.Spec PyProof.Rows L2 He
theorem map_erase {α β : Type} (f : α → β) : ∀ (l : List α) (i : Nat), (l.map f).eraseIdx i = (l.eraseIdx i).map f
  | [], _ => by simp
  | _ :: _, 0 => rfl
  | a :: l, i + 1 => congrArg (f a :: ·) (map_erase f l i)
theorem xok_new {H : Hp} {v : V} {d : Addr} {f : Str} (hd : H d = none) (hv : AnyD H v) : AnyD (upd H d (.xd [(f, v)])) v := hv.same (Same.new hd)
section
variable {P : Program} {w : World} {K : PySem.W.Frag} {mg : Str → Option Value} {base : Heap}
theorem bnd_without_echo : BindN "without_echo" "Song.without_echo" s_Song_without_echo ["self", "index"] := fun _ _ _ _ _ _ us hl => match us, hl with | [_, _], _ => rfl
theorem sc_without_echo : FnScope ["self", "index", "others", "at", "echo"] ["self", "index"] (defScope s_Song_without_echo) := ⟨rfl, rfl, rfl, by decide +kernel, rfl, by decide +kernel, by decide +kernel⟩
def pWithoutEcho (K : PySem.W.Frag) (v i : V) (H : Hp) (Q : VK) (E : XK) : Prop := ∃ s, SongAt K H v s ∧ OkSg s ∧ AnyD H i ∧
  if isI i (some 0) (some ((s.es.length : Int) - 1)) = true then ∀ H' v', Same H H' → SongAt K H' v' ⟨s.k, s.n, s.es.eraseIdx (dI i).toNat⟩ → Q v' H' else ∀ H' c d, Same H H' → XOk K H' c d → E c d H'
theorem Song_without_echo (T : Top K mg) : Mtd P w K mg base (L2N.CX P w) 7 (ga K "Song") "without_echo" (sp2 (pWithoutEcho K)) := by
  obtain ⟨fd, F⟩ := T.d_Song_without_echo
  obtain ⟨fi, Fi⟩ := T.d_Song_init
  refine ⟨_, T.m_Song_without_echo, fn2 F sc_without_echo bnd_without_echo fun cdv A outer s0 H v iv Q E hr h => ?_⟩
  obtain ⟨s, ⟨a, dx, c, xs, rfl, ha, hc, pr⟩, ok, hi, q⟩ := h
  refine ⟨_, pss_cons (ps_if (PW.pt (pw_or (pt_not (pt_val (pe_f (is_integer1 T) (hr.mono (by decide)) pass0 (pa_cons (pv 1) pa_nil))))
      (pw_or1 (pt_not (pt_chain op_le op_lt pe_int (pv 1) (pe_callB call_len (by rfl) T.b_len (by decide +kernel) (pa_cons (pe_fld (pv 0) rfl) pa_nil)))))))
      (pss_one (L2N.ps_raise rfl (L2N.takes_of rfl rfl rfl rfl) (pmk1 (xcl_NoEcho T) (hr.mono (by decide)) (pa_cons (pv 1) pa_nil)))) pss_nil)
    (pss_cons (ps_setLc (i := 2) (own := [("at", 3), ("echo", 4)]) (g := gTup K 2 (gCons (gName 3) (gCons (gName 4) gNil))) rfl sc_without_echo.nd rfl rfl rfl (pi_enumT (by rfl) T.b_enumerate (pa_cons (pe_fld (pv 0) rfl) pa_nil))
        (blkOk_by (N := ["self", "index", "others", "at", "echo"]) (sc := defScope s_Song_without_echo) (by decide +kernel))
        (fun _ _ _ _ _ => pg_tup rfl (pgs_cons (pg_name (i := 3) sc_without_echo.nd rfl (.inl rfl)) (pgs_cons (pg_name (i := 4) sc_without_echo.nd rfl (.inl rfl)) pgs_nil)))
        (fun _ _ _ _ _ => pts_one (pt_cmp (pc_neI (pv 3) (pv 1)))) (fun _ _ _ _ _ => pv 4))
    (pss_one (ps_ret (pe_makeS2 T.k_Song (Song_init T Fi) hr (by rfl) T.g_Song (L2N.passes_call (L2N.takes_of rfl rfl rfl rfl) (fun _ _ _ _ z => z)) (pa_cons (pe_fld (pv 0) rfl) (pa_cons (pe_fld (pv 0) rfl) (StX.pa_star (pv 2) pa_nil))))))), ?_⟩
  have hx : xs.length = s.es.length := (Paired.length pr).trans (by rw [List.length_map])
  have raise : isI iv (some 0) (some ((s.es.length : Int) - 1)) = false → ∀ d, H d = none → E (.ref (ga K "NoEcho")) (some d) (upd H d (.xd [(("index" : Str), iv)])) := fun h d hd => by
    rw [h] at q
    exact (show ∀ H' c d, Same H H' → XOk K H' c d → E c d H' from q) _ _ _ (Same.new hd) (.noecho upd_same (hi.same (Same.new hd)))
  obtain ⟨kd, hkd, hkb⟩ := hi.kd (K := K)
  refine ⟨_, rfl, _, rfl, kd, none, none, hkd, hkb, rfl, rfl, _, rfl, ?_⟩
  cases hI : isI iv none none with
  | false =>
    refine iteT ⟨_, rfl, _, rfl, raise ?_⟩
    cases iv <;> simp [isI, loB, hiB] at hI ⊢
  | true =>
    obtain ⟨i, rfl, _, _⟩ := isI_int hI
    refine iteF ⟨_, rfl, _, _, rfl, rfl, _, rfl, ?_⟩
    by_cases h0 : 0 ≤ i
    · refine itT (decide_eq_true h0) ⟨_, rfl, a, _, dx, _, _, rfl, ha, T.c_Song, T.n_Song_voices, lk3 (by decide +kernel) (by decide +kernel), _, s.es.length, rfl, .inr ⟨xs, SqT.of hc, hx.symm⟩, _, _, rfl, rfl, _, rfl, ?_⟩
      by_cases hl : i < (s.es.length : Int)
      · have hok : isI (.int i) (some 0) (some ((s.es.length : Int) - 1)) = true := by
          simp [isI, loB, hiB, h0]
          omega
        rw [hok] at q
        have q := (show ∀ H' v', Same H H' → SongAt K H' v' ⟨s.k, s.n, s.es.eraseIdx (dI (.int i)).toNat⟩ → Q v' H' from q)
        refine itF (by rw [decide_eq_true hl]; rfl) ?_
        refine ⟨_, rfl, a, _, dx, _, _, rfl, ha, T.c_Song, T.n_Song_voices, lk3 (by decide +kernel) (by decide +kernel), c, xs, rfl, SqT.of hc, fun D nD =>
          lc_enumT (K := K) (a := c) (xs := xs) (fun j H2 => Same H H2 ∧ H2 D = some (.lst ((xs.take j).eraseIdx i.toNat))) ⟨Same.new nD, by rw [List.take_zero]; simp; exact upd_same⟩ (fun j H2 _ h => SqT.of (h.1 _ _ hc)) ?_ ?_⟩
        · rintro j x Ta H2 hj ⟨s2, d2⟩ hTa
          have s3 : Same H (upd H2 Ta (.tup [.int (j : Int), x])) := Same.snd s2 hTa
          have hD : (upd H2 Ta (.tup [.int (j : Int), x])) D = some (.lst ((xs.take j).eraseIdx i.toNat)) := by
            rw [upd_ne (ne_of_none d2 hTa)]
            exact d2
          have hjl : j < xs.length := (List.getElem?_eq_some_iff.mp hj).1
          have hlt : (xs.take j).length = j := by rw [List.length_take]; omega
          refine ⟨Ta, _, rfl, SqT.of upd_same, rfl, _, _, rfl, _, _, rfl, ⟨rfl, ?_⟩⟩
          refine ⟨rfl, ?_⟩
          refine ⟨_, rfl, _, rfl, _, _, rfl, rfl, _, rfl, ?_⟩
          by_cases hji : (j : Int) = i
          · refine itF (by simp [hji]) ⟨s3, ?_⟩
            rw [hD, take_more hj, List.eraseIdx_append_of_length_le (by omega), hlt, show i.toNat - j = 0 by omega, List.eraseIdx_of_length_le (by omega)]
            simp
          · refine itT (by simp [hji]) ⟨_, rfl, _, hD, ?_, Same.mut s3 nD, ?_⟩
            · have := List.length_eraseIdx_le (xs.take j) i.toNat
              have := ok.l2
              rw [sizeLine_eq]
              omega
            · rw [upd_same, take_more hj]
              rcases Nat.lt_or_ge i.toNat j with h | h
              · rw [List.eraseIdx_append_of_lt_length (by omega)]
              · rw [List.eraseIdx_of_length_le (by omega), List.eraseIdx_of_length_le (by rw [List.length_append, hlt]; show j + 1 ≤ _; omega)]
        · rintro H2 ⟨s2, d2⟩
          rw [List.take_length] at d2
          refine ⟨_, rfl, a, _, dx, _, _, rfl, s2 _ _ ha, T.c_Song, T.n_Song_alphabet, lk_hd, _, rfl, a, _, dx, _, _, rfl, s2 _ _ ha, T.c_Song, T.n_Song_size, lk2 (by decide +kernel), _, rfl, D, _, rfl, .inr (SqL.of d2), ?_⟩
          have hlen : (s.es.eraseIdx i.toNat).length ≤ 1 := by
            rw [List.length_eraseIdx]
            have := ok.l2
            split <;> omega
          refine song_made (T := T) (rest := xs.eraseIdx i.toNat ++ []) (es := (s.es.map vE).eraseIdx i.toNat) ok.k1 ok.k5 ok.n1 (n_G ok) (by rw [List.append_nil]; exact paired_mono (paired_erase _ pr) fun _ _ z => z.same s2) ?_ (itT ?_ fun H' v s3 z => q H' v (Same.trans s2 s3) (z _ ?_))
          · have := List.length_eraseIdx_le (s.es.map vE) i.toNat
            rw [List.length_map] at this
            have := ok.l2
            omega
          · have h1 : (s.es.map vE).eraseIdx i.toNat = (s.es.eraseIdx i.toNat).map vE := map_erase _ _ _
            have h2 : ((s.es.eraseIdx i.toNat).map vE).all (vEcho s.k) = true := by
              rw [List.all_eq_true]
              intro x hx
              obtain ⟨e, he, rfl⟩ := List.mem_map.mp hx
              exact vE_ok ok (List.mem_of_mem_eraseIdx he)
            unfold echoesOk
            rw [h1, h2, List.length_map]
            simp
            omega
          · exact map_erase _ _ _
      · refine itT (by rw [decide_eq_false hl]; rfl) ⟨_, rfl, _, rfl, raise ?_⟩
        simp [isI, loB, hiB, h0]
        omega
    · refine itF (decide_eq_false h0) ⟨_, rfl, itT rfl ⟨_, rfl, _, rfl, raise ?_⟩⟩
      simp [isI, loB, hiB, h0]
end
end Ef

set_option Elab.async false
set_option linter.all false
set_option maxRecDepth 100000
set_option maxHeartbeats 4000000
namespace Ef
open PySem PySem.Spec PyProof.Rows L2 He
/-! ### == [], == (), != [], != () -/
def rEqE (K : PySem.W.Frag) : R2 := fun x y H Q => ∃ a b xs, x = .ref a ∧ y = .ref b ∧ ((SqL K H a xs ∧ SqL K H b []) ∨ (SqT K H a xs ∧ SqT K H b [])) ∧ Q (.bl (decide (xs = []))) H
def rNeE (K : PySem.W.Frag) : R2 := fun x y H Q => ∃ a b xs, x = .ref a ∧ y = .ref b ∧ ((SqL K H a xs ∧ SqL K H b []) ∨ (SqT K H a xs ∧ SqT K H b [])) ∧ Q (.bl (!decide (xs = []))) H
section
variable {X : Cx}
theorem nil_vals {us : List Value} (r : Vals ([] : List V) us) : us = [] := by
  cases r
  rfl
theorem vals_nil {xs : List V} {us : List Value} (r : Vals xs us) : (us = []) ↔ (xs = []) := by
  cases r <;> simp
theorem op_eqE (hu : X.A.units < cLine) : OpR X (compareOp .Eq) (rEqE X.K) := by
  intro pins s σ H x y v u Q I rx ry h
  obtain ⟨a, b, xs, rfl, rfl, hs, q⟩ := h
  obtain rfl : v = Value.ref a := rx
  obtain rfl : u = Value.ref b := ry
  rcases hs with ⟨h1, h2⟩ | ⟨h1, h2⟩
  · obtain ⟨its, rv, hl, _⟩ := I.list h1
    obtain ⟨js, rw_, hb, _⟩ := I.list h2
    cases nil_vals rw_
    by_cases e : xs = []
    · subst e
      cases nil_vals rv
      rw [decide_eq_true rfl] at q
      exact PySem.SeqAt.eq_listAt (e := fun _ => true) hl.isList hb.isList rfl hu (fun j h1 _ => absurd h1 (Nat.not_lt_zero j)) ⟨.bl true, H, I, rfl, q⟩
    · rw [decide_eq_false e] at q
      have hne : its ≠ [] := fun z => e ((vals_nil rv).mp z)
      exact PySem.SeqAt.eq_list_lengthsAt hl.isList hb.isList (by cases its with | nil => exact absurd rfl hne | cons _ _ => rfl) hu ⟨.bl false, H, I, rfl, q⟩
  · obtain ⟨its, rv, hl, _⟩ := I.tuple h1
    obtain ⟨js, rw_, hb, _⟩ := I.tuple h2
    cases nil_vals rw_
    refine PySem.SeqAt.eq_tupleAt (e := fun _ => true) hl hb hu (fun j _ h2 => absurd h2 (Nat.not_lt_zero j)) ?_
    by_cases e : xs = []
    · subst e
      cases nil_vals rv
      rw [decide_eq_true rfl] at q
      exact ⟨.bl true, H, I, rfl, q⟩
    · rw [decide_eq_false e] at q
      have hne : its ≠ [] := fun z => e ((vals_nil rv).mp z)
      refine ⟨.bl false, H, I, ?_, q⟩
      cases its with
      | nil => exact absurd rfl hne
      | cons _ _ =>
        show Value.bool _ = Value.bool false
        congr 1
theorem op_neE (hu : X.A.units < cLine) : OpR X (compareOp .NotEq) (rNeE X.K) := by
  intro pins s σ H x y v u Q I rx ry h
  obtain ⟨a, b, xs, rfl, rfl, hs, q⟩ := h
  obtain rfl : v = Value.ref a := rx
  obtain rfl : u = Value.ref b := ry
  rcases hs with ⟨h1, h2⟩ | ⟨h1, h2⟩
  · obtain ⟨its, rv, hl, _⟩ := I.list h1
    obtain ⟨js, rw_, hb, _⟩ := I.list h2
    cases nil_vals rw_
    by_cases e : xs = []
    · subst e
      cases nil_vals rv
      rw [decide_eq_true rfl] at q
      exact PySem.SeqAt.RcNeAt.lists (e := fun _ => true) hl.isList hb.isList rfl hu (fun j h1 _ => absurd h1 (Nat.not_lt_zero j)) _ _ _ _ ⟨.bl false, H, I, rfl, q⟩
    · rw [decide_eq_false e] at q
      have hne : its ≠ [] := fun z => e ((vals_nil rv).mp z)
      exact PySem.SeqAt.RcNeAt.lists_lengths hl.isList hb.isList (by cases its with | nil => exact absurd rfl hne | cons _ _ => rfl) hu _ _ _ _ ⟨.bl true, H, I, rfl, q⟩
  · obtain ⟨its, rv, hl, _⟩ := I.tuple h1
    obtain ⟨js, rw_, hb, _⟩ := I.tuple h2
    cases nil_vals rw_
    refine PySem.SeqAt.RcNeAt.tuples (e := fun _ => true) hl hb hu (fun j _ h2 => absurd h2 (Nat.not_lt_zero j)) _ _ _ _ ?_
    by_cases e : xs = []
    · subst e
      cases nil_vals rv
      rw [decide_eq_true rfl] at q
      exact ⟨.bl false, H, I, rfl, q⟩
    · rw [decide_eq_false e] at q
      have hne : its ≠ [] := fun z => e ((vals_nil rv).mp z)
      refine ⟨.bl true, H, I, ?_, q⟩
      cases its with
      | nil => exact absurd rfl hne
      | cons _ _ =>
        show Value.bool _ = Value.bool true
        congr 1
/-! ### D.get(x), D a dict of the text -/
def tKGet (K : PySem.W.Frag) (d : Addr) (te : TE) : TE := fun σ H Q => te σ H fun y H1 => ∃ (x : Str) (u : Value) (v : V), y = .str x ∧ PySem.W.nsIn K d x = some (some u) ∧ RelV v u ∧ Q v H1
theorem pe_kget {x : Str} {e : Expr} {te : TE} {d : Addr} {es : Array DictEntry} {n : Nat} {p apos cpos : Pos} (D : KDict X.K X.w d es n) (hg : Gl X x) (hm : X.mg x = some (.ref d)) (he : PE X e te) (m : M1 X (.Name x p) "get" apos e cpos)
    (hd : (x == ("__debug__" : Str)) = false := by decide) : PE X (.Call (.Attribute (.Name x p) "get" apos) [e] [] cpos) (tKGet X.K d te) := by
  refine ⟨fun pins s σ H Q I h => ?_⟩
  refine wpAny_Call_method m.base m.few m.line PySem.F.plainAttrs_dict PySem.F.slot_dict_get PySem.F.type_dict_get (thn ((pe_glob (v := .ref d) hg hm rfl hd).run pins s σ H _ I (show tC (.ref d) σ H (fun v H1 => v = .ref d ∧ H1 = H) from ⟨rfl, rfl⟩)) fun u s1 ⟨x', H1, I1, rx, ex, eH⟩ => ?_)
  subst ex eH
  obtain rfl : u = Value.ref d := rx
  have mo := PySem.W.mapOf_K (prog := X.prog) (w := X.w) I1.kIn D.at_ D.lit
  refine ⟨mo.typeIs, fun b q => ?_, ?_⟩
  · cases q
    exact ⟨_, I1.kIn _ _ D.at_, rfl⟩
  · rw [m.trees]
    refine Calls.callWith_builtin rfl (Calls.evalArgs_plain (Calls.spliced_cons (thn (he.run pins s1 σ H1 _ I1 h) fun iv s2 ⟨y, H2, I2, ry, z, u0, v0, ey, e2, r, q2⟩ => Calls.spliced_nil ?_)))
    subst ey
    obtain ⟨t, rfl⟩ := ry
    have mo2 := PySem.W.mapOf_K (prog := X.prog) (w := X.w) I2.kIn D.at_ D.lit
    refine call_meetsIn PySem.F.slot_dict_get mo2.typeIs PySem.F.entry_dict_get (PySem.F.args_dict_get_2 _ _) (meets_dict_get _ d (PySem.strKind_is X.prog X.w z t) D.low) ⟨_, mo2, ?_⟩
    rw [PySem.W.find_K D.at_ e2]
    exact ⟨v0, H2, I2.tok _, r, q2⟩
end
end Ef

set_option Elab.async false
set_option linter.all false
set_option maxRecDepth 100000
set_option maxHeartbeats 4000000
namespace Ef
open PySem PySem.Spec PyProof.Rows L2 He
theorem SongAt.kd {K : PySem.W.Frag} {H : Hp} {v : V} {s : Sg} (h : SongAt K H v s) : KdAt K H v .song := by
  obtain ⟨a, dx, c, xs, rfl, ha, _⟩ := h
  exact ⟨a, dx, _, rfl, ha⟩
theorem at0 {x : V} {r : List V} : atI (x :: r) 0 = some x := atI_nat (j := 0) rfl
/-- the items of a tuple; no tuple -/
def TupV (H : Hp) (v : V) : Option (List V) → Prop
  | some xs => ∃ a, v = .ref a ∧ H a = some (.tup xs)
  | none => ∀ a xs, v = .ref a → H a ≠ some (.tup xs)
def vPr (k : Nat) (o : Option (List V)) : Bool := match o with
  | some xs => decide (xs.length = k) && xs.all isPr
  | none => false
theorem AnyD.item {H : Hp} {a : Addr} {xs : List V} (h : AnyD H (.ref a)) (ha : H a = some (.tup xs)) {K : PySem.W.Frag} {x : V} (hx : x ∈ xs) : ∃ k, KdAt K H x k ∧ k.basic = true := by
  obtain ⟨b, d, h, _⟩ := h
  cases h with
  | tup e r =>
    rw [e] at ha
    cases ha
    obtain ⟨d2, h2⟩ := r.get x hx
    exact h2.kd
  | lst e _ _ => rw [e] at ha; cases ha
  | dK e _ => rw [e] at ha; cases ha
  | dP e => rw [e] at ha; cases ha
  | odd e => rw [e] at ha; cases ha
section
variable {P : Program} {w : World} {K : PySem.W.Frag} {mg : Str → Option Value} {base : Heap}
theorem bnd_need_song : BindN "need_song" "need_song" s_need_song ["song"] := fun _ _ _ _ _ _ us hl => match us, hl with | [_], _ => rfl
theorem sc_need_song : FnScope ["song"] ["song"] (defScope s_need_song) := ⟨rfl, rfl, rfl, by decide +kernel, rfl, by decide +kernel, by decide +kernel⟩
theorem need_song (T : Top K mg) : Clb P w K mg base CX0 1 "need_song" (sp1 fun v H Q _ => (∃ s, SongAt K H v s) ∧ Q .non H) := by
  obtain ⟨fd, F⟩ := T.d_need_song
  refine Clb.of T.g_need_song F (fnN1 F sc_need_song bnd_need_song fun cdv A outer s0 H v Q E hr h => ?_)
  obtain ⟨⟨s, hs⟩, q⟩ := h
  refine ⟨_, pss_one (ps_if (pt_not (pt_val (pe_callB (call_isSong T.c_Song T.i_Song) (by rfl) T.b_isinstance (by decide +kernel) (pa_cons (pv 0) (pa_cons (pe_glob (v := .ref (ga K "Song")) (by rfl) T.g_Song rfl) pa_nil))))) (pss_one ps_never) pss_nil), ?_⟩
  exact ⟨_, rfl, v, rfl, hs.kd, _, rfl, iteF q⟩
theorem bnd_need_near : BindN "need_near" "need_near" s_need_near ["song"] := fun _ _ _ _ _ _ us hl => match us, hl with | [_], _ => rfl
theorem sc_need_near : FnScope ["song"] ["song"] (defScope s_need_near) := ⟨rfl, rfl, rfl, by decide +kernel, rfl, by decide +kernel, by decide +kernel⟩
theorem need_near (T : Top2 w K mg) : Clb P w K mg base CX0 3 "need_near" (sp1 fun v H Q _ => ∃ s, SongAt K H v s ∧ s.n ≤ 40 ∧ Q .non H) := by
  obtain ⟨fd, F⟩ := T.d_need_near
  refine Clb.of T.g_need_near F (fnN1 F sc_need_near bnd_need_near fun cdv A outer s0 H v Q E hr h => ?_)
  obtain ⟨s, hs, n40, q⟩ := h
  refine ⟨_, pss_cons (ps_expr (pe_f (need_song T.toTop) (hr.mono (by decide)) pass0 (pa_cons (pv 0) pa_nil))) (pss_one (ps_if (pt_not (pt_val (pe_p T.c_Song (Song_is_near T) hr pass0 (pv 0)))) (pss_one ps_never) pss_nil)), ?_⟩
  obtain ⟨a, dx, c, xs, rfl, ha, hc, pr⟩ := id hs
  refine ⟨_, rfl, _, rfl, ⟨s, hs⟩, _, rfl, a, dx, _, rfl, ha, _, rfl, s, hs, _, rfl, ?_⟩
  exact itF (by simp [n40]) q
theorem bnd_is_place : BindN "is_place" "is_place" s_is_place ["song", "value"] := fun _ _ _ _ _ _ us hl => match us, hl with | [_, _], _ => rfl
theorem sc_is_place : FnScope ["song", "value"] ["song", "value"] (defScope s_is_place) := ⟨rfl, rfl, rfl, by decide +kernel, rfl, by decide +kernel, by decide +kernel⟩
def pIsPlace (K : PySem.W.Frag) (v i : V) (H : Hp) (Q : VK) (_ : XK) : Prop := ∃ s, SongAt K H v s ∧ AnyD H i ∧ Q (.bl (isI i (some 0) (some (s.n - 1)))) H
theorem is_place (T : Top K mg) : Clb P w K mg base CX0 3 "is_place" (sp2 (pIsPlace K)) := by
  obtain ⟨fd, F⟩ := T.d_is_place
  refine Clb.of T.g_is_place F (fnN2 F sc_is_place bnd_is_place fun cdv A outer s0 H v iv Q E hr h => ?_)
  obtain ⟨s, hs, hi, q⟩ := h
  refine ⟨_, pss_one (ps_ret (pe_and (pe_f (is_integer1 T) (hr.mono (by decide)) pass0 (pa_cons (pv 1) pa_nil)) (pe_one (pe_chain op_le op_lt pe_int (pv 1) (pe_p T.c_Song (Song_length T) hr pass0 (pv 0)))))), ?_⟩
  obtain ⟨a, dx, c, xs, rfl, ha, hc, pr⟩ := id hs
  obtain ⟨kd, hkd, hkb⟩ := hi.kd (K := K)
  refine ⟨_, rfl, _, rfl, kd, none, none, hkd, hkb, rfl, rfl, _, rfl, ?_⟩
  cases hI : isI iv none none with
  | false =>
    have e : isI iv (some 0) (some (s.n - 1)) = false := by cases iv <;> simp [isI, loB, hiB] at hI ⊢
    rw [e] at q
    exact iteF q
  | true =>
    obtain ⟨i, rfl, _, _⟩ := isI_int hI
    refine iteT ⟨_, rfl, _, _, rfl, rfl, _, rfl, ?_⟩
    by_cases h0 : 0 ≤ i
    · refine itT (decide_eq_true h0) ⟨_, rfl, a, dx, _, rfl, ha, _, rfl, s, hs, _, _, rfl, rfl, ?_⟩
      rw [show isI (.int i) (some 0) (some (s.n - 1)) = decide (i < s.n) by simp [isI, loB, hiB, h0]; omega] at q
      exact q
    · refine itF (decide_eq_false h0) ?_
      rw [show isI (.int i) (some 0) (some (s.n - 1)) = false by simp [isI, loB, hiB, h0]] at q
      exact q
theorem bnd_need_place : BindN "need_place" "need_place" s_need_place ["song", "value"] := fun _ _ _ _ _ _ us hl => match us, hl with | [_, _], _ => rfl
theorem sc_need_place : FnScope ["song", "value"] ["song", "value"] (defScope s_need_place) := ⟨rfl, rfl, rfl, by decide +kernel, rfl, by decide +kernel, by decide +kernel⟩
def pNeedPlace (K : PySem.W.Frag) (v i : V) (H : Hp) (Q : VK) (E : XK) : Prop := ∃ s, SongAt K H v s ∧ AnyD H i ∧ if isI i (some 0) (some (s.n - 1)) = true then Q .non H else ∀ H' c d, Same H H' → XOk K H' c d → E c d H'
theorem need_place (T : Top K mg) : Clb P w K mg base (L2N.CX P w) 4 "need_place" (sp2 (pNeedPlace K)) := by
  obtain ⟨fd, F⟩ := T.d_need_place
  refine Clb.of T.g_need_place F (fn2 F sc_need_place bnd_need_place fun cdv A outer s0 H v iv Q E hr h => ?_)
  obtain ⟨s, hs, hi, q⟩ := h
  refine ⟨_, pss_one (ps_if (pt_not (pt_val (pe_f (is_place T) hr pass0 (pa_cons (pv 0) (pa_cons (pv 1) pa_nil))))) (pss_one (L2N.ps_raise rfl (L2N.takes_of rfl rfl rfl rfl) (pmk1 (xcl_InvalidPlace T) (hr.mono (by decide)) (pa_cons (pv 1) pa_nil)))) pss_nil), ?_⟩
  refine ⟨_, rfl, _, rfl, _, _, rfl, s, hs, hi, _, rfl, ?_⟩
  cases hI : isI iv (some 0) (some (s.n - 1)) with
  | false =>
    rw [hI] at q
    exact iteT ⟨_, rfl, _, rfl, fun d hd => (show ∀ H' c d, Same H H' → XOk K H' c d → E c d H' from q) _ _ _ (Same.new hd) (.place upd_same (xok_new hd hi))⟩
  | true =>
    rw [hI] at q
    exact iteF q
theorem bnd_are_prices : BindN "are_prices" "are_prices" s_are_prices ["song", "value"] := fun _ _ _ _ _ _ us hl => match us, hl with | [_, _], _ => rfl
theorem sc_are_prices : FnScope ["song", "value", "price"] ["song", "value"] (defScope s_are_prices) := ⟨rfl, rfl, rfl, by decide +kernel, rfl, by decide +kernel, by decide +kernel⟩
def pArePrices (K : PySem.W.Frag) (v p : V) (H : Hp) (Q : VK) (_ : XK) : Prop := ∃ s o, SongAt K H v s ∧ OkSg s ∧ AnyD H p ∧ TupV H p o ∧ ∀ H', Same H H' → Q (.bl (vPr s.k o)) H'
theorem are_prices (T : Top K mg) : Clb P w K mg base CX0 3 "are_prices" (sp2 (pArePrices K)) := by
  obtain ⟨fd, F⟩ := T.d_are_prices
  refine Clb.of T.g_are_prices F (fnN2 F sc_are_prices bnd_are_prices fun cdv A outer s0 H v p Q E hr h => ?_)
  obtain ⟨s, o, hs, ok, hp, ho, q⟩ := h
  refine ⟨_, pss_one (ps_ret (pe_and (pe_callB call_isB (by rfl) T.b_isinstance (by decide +kernel) (pa_cons (pv 1) (pa_cons (pe_bltn (v := .ty "tuple") (by rfl) T.b_tuple (by decide +kernel) rfl) pa_nil)))
    (pe_and (pe_cmpR op_eq (pe_callB call_len (by rfl) T.b_len (by decide +kernel) (pa_cons (pv 1) pa_nil)) (pe_p T.c_Song (Song_letters T) hr pass0 (pv 0)) (nomark _))
      (pe_one (pe_callB (cr_all rfl) (by rfl) T.b_all (by decide +kernel) (pa_cons (pe_lc (own := [("price", 2)]) (g := gName 2) (tt := tYes) rfl sc_are_prices.nd (pi_tup (pv 1)) (blkOk_by (N := ["song", "value", "price"]) (sc := defScope s_are_prices) (by decide +kernel))
        (fun _ _ _ _ _ => pg_name (i := 2) sc_are_prices.nd rfl (.inl rfl)) (fun _ _ _ _ _ => pts_nil) (fun _ _ _ _ _ => pe_f (is_price T) (hr.mono (by decide)) pass0 (pa_cons (pv 2) pa_nil))) pa_nil)))))), ?_⟩
  obtain ⟨a, dx, c, ys, rfl, ha, hc, pr⟩ := id hs
  cases o with
  | none =>
    obtain ⟨kd, hkd, hkb⟩ := hp.kd (K := K)
    have hne : isKb kd .tuple = false := by
      cases kd <;> first | rfl | skip
      obtain ⟨b, xs, e1, e2⟩ := hkd
      exact absurd e2 (ho b xs e1)
    refine ⟨_, rfl, p, kd, .tuple, rfl, hkd, hkb, _, rfl, ?_⟩
    rw [hne]
    exact iteF (q _ (Same.refl H))
  | some xs =>
    obtain ⟨b, rfl, hb⟩ := ho
    refine ⟨_, rfl, _, .tup, .tuple, rfl, ⟨b, xs, rfl, hb⟩, rfl, _, rfl, iteT ?_⟩
    refine ⟨_, rfl, _, xs.length, rfl, .inr ⟨xs, SqT.of hb, rfl⟩, _, rfl, a, dx, _, rfl, ha, _, rfl, s, hs, rfl, _, rfl, ?_⟩
    by_cases hl : xs.length = s.k
    · refine itT (decide_eq_true (by rw [hl])) ?_
      have hk5 := ok.k5
      refine ⟨_, rfl, b, rfl, ⟨_, SqT.of hb⟩, fun D nD => lc_tup (K := K) (a := b) (xs := xs) (fun i H2 => Same H H2 ∧ H2 D = some (.lst (((xs.take i).map isPr).map V.bl))) ⟨Same.new nD, by rw [List.take_zero]; exact upd_same⟩ (fun i H2 _ h => SqT.of (h.1 _ _ hb)) ?_ ?_⟩
      · rintro i x H2 hi ⟨s2, d2⟩
        obtain ⟨kd, hkd, hkb⟩ := AnyD.item (K := K) (hp.same s2) (s2 _ _ hb) (List.mem_of_getElem? hi)
        refine ⟨rfl, ?_⟩
        refine ⟨_, rfl, _, rfl, kd, hkd, hkb, _, d2, ?_, Same.mut s2 nD, ?_⟩
        · rw [List.length_map, List.length_map, List.length_take, sizeLine_eq]
          omega
        · rw [upd_same, take_more hi, List.map_append, List.map_append]
          rfl
      · rintro H2 ⟨s2, d2⟩
        rw [List.take_length] at d2
        refine ⟨D, _, rfl, SqL.of d2, ?_⟩
        have z := q _ s2
        rw [show vPr s.k (some xs) = (xs.map isPr).all id by simp [vPr, hl]] at z
        exact z
    · refine itF (decide_eq_false (by intro z; exact hl (by have := V.int.inj z; omega))) ?_
      have z := q _ (Same.refl H)
      rw [show vPr s.k (some xs) = false by simp [vPr, hl]] at z
      exact z
theorem bnd_is_deed : BindN "is_deed" "is_deed" s_is_deed ["value"] := fun _ _ _ _ _ _ us hl => match us, hl with | [_], _ => rfl
theorem sc_is_deed : FnScope ["value"] ["value"] (defScope s_is_deed) := ⟨rfl, rfl, rfl, by decide +kernel, rfl, by decide +kernel, by decide +kernel⟩
def things : List (Str × Int) := [(("wish" : Str), (2 : Int)), ("free", 1), ("length", 1), ("echo", 2), ("drop", 1)]
def pIsDeed (v : V) (H : Hp) (Q : VK) (_ : XK) : Prop := ∃ a x rest, v = .ref a ∧ H a = some (.tup (.str x :: rest)) ∧ (x, (rest.length : Int)) ∈ things ∧ ∀ H', Same H H' → Q (.bl true) H'
theorem is_deed (T : Top2 w K mg) : Clb P w K mg base CX0 1 "is_deed" (sp1 pIsDeed) := by
  obtain ⟨fd, F⟩ := T.d_is_deed
  obtain ⟨d, es, n, hm, D, hv⟩ := T.things
  refine Clb.of T.g_is_deed F (fnN1 F sc_is_deed bnd_is_deed fun cdv A outer s0 H v Q E hr h => ?_)
  obtain ⟨a, x, rest, rfl, ha, hx, q⟩ := h
  refine ⟨_, pss_cons (ps_if (PW.pt (pw_or (pt_not (pt_val (pe_callB call_isB (by rfl) T.b_isinstance (by decide +kernel) (pa_cons (pv 0) (pa_cons (pe_bltn (v := .ty "tuple") (by rfl) T.b_tuple (by decide +kernel) rfl) pa_nil)))))
      (pw_or (pt_cmpR (op_eqE (Nat.lt_of_succ_lt (hu_of hr))) (pv 0) (pe_tup pa_nil) (nomark _))
      (pw_or1 (pt_not (pt_val (pe_callB call_isB (by rfl) T.b_isinstance (by decide +kernel) (pa_cons (pe_ix ix_tup (pv 0) pe_int (fun _ _ => rfl)) (pa_cons (pe_bltn (v := .ty "str") (by rfl) T.b_str (by decide +kernel) rfl) pa_nil)))))))))
      (pss_one (ps_ret pe_bl)) pss_nil)
    (pss_one (ps_ret (pe_cmpR op_eq (pe_op op_sub (pe_callB call_len (by rfl) T.b_len (by decide +kernel) (pa_cons (pv 0) pa_nil)) pe_int) (pe_kget D (by rfl) hm (pe_ix ix_tup (pv 0) pe_int (fun _ _ => rfl)) ⟨rfl, rfl, rfl, rfl⟩) (nomark _)))), ?_⟩
  refine ⟨_, rfl, _, .tup, .tuple, rfl, ⟨a, _, rfl, ha⟩, rfl, _, rfl, iteF ?_⟩
  refine ⟨_, rfl, by show 0 ≤ sizeLine; exact Nat.zero_le _, fun p hp => ?_⟩
  have s1 : Same H (upd H p (.tup [])) := Same.new hp
  have ha1 := s1 _ _ ha
  obtain ⟨u, hu1, hu2⟩ := hv _ hx
  refine ⟨a, p, _, rfl, rfl, .inr ⟨SqT.of ha1, SqT.of upd_same⟩, _, rfl, iteF ?_⟩
  refine ⟨_, rfl, a, .str x :: rest, 0, .str x, rfl, rfl, SqT.of ha1, at0, _, .str, .str, rfl, ⟨x, rfl⟩, rfl, _, rfl, iteF ?_⟩
  refine ⟨_, rfl, _, (rest.length + 1 : Nat), rfl, .inr ⟨_, SqT.of ha1, rfl⟩, _, _, rfl, rfl, _, rfl, a, .str x :: rest, 0, .str x, rfl, rfl, SqT.of ha1, at0, x, u, _, rfl, hu1, hu2, rfl, ?_⟩
  have z := q _ s1
  rw [show (true : Bool) = decide (V.int (((rest.length + 1 : Nat) : Int) - 1) = V.int (rest.length : Int)) by simp] at z
  exact z
end
end Ef

set_option Elab.async false
set_option linter.all false
set_option maxRecDepth 100000
set_option maxHeartbeats 4000000
/-! {**d, k: v} -/
namespace PySem
namespace EfR
section
variable {prog : Program} {w : World} {A : Around} {E : Value → Shared → Prop} {s : Shared}
theorem put_pairs {d : Addr} {kvs : List (L2.Key × Value)} {k : L2.Key} {key v : Value} {Q : Unit → Shared → Prop} (hkey : ((L2.mixKind prog w)).is k key = true) (hm : s.heap.DictOf (L2.mixKind prog w) d kvs) (hsz : kvs.length ≤ sizeLine)
    (hQ : ∀ h', h'.DictOf (L2.mixKind prog w) d (stored kvs k v) → Heap.SameBut d s.heap h' → Q () { s with heap := h' }) : wpAny (model prog w) A (dictPut d (((L2.mixKind prog w)).hash k) key v) Q E s := by
  obtain ⟨o, es, ep, ho, hc, hd, hk, hp, hn⟩ := hm
  have hes : es.size ≤ sizeLine := by
    have e1 := hp.length
    have e2 : es.toList.length = es.size := by simp
    omega
  have hidx : (es.findIdx? fun e => ((L2.mixKind prog w)).is k e.key) = kvs.findIdx? fun kv => decide (kv.1 = k) := by
    rw [← hp.findIdx k]
    obtain ⟨l⟩ := es
    simp
  unfold dictPut
  refine wpAny_bind (wpAny_dictFind_of hkey ho hd hk ?_)
  cases hi : es.findIdx? fun e => ((L2.mixKind prog w)).is k e.key with
  | some i =>
    refine wpAny_updateDict ho hd (hQ _ ⟨_, _, ep, Heap.get?_update_self _ ho (Obj.isFreed_of_dict (Obj.data_mapDict hd _)), hc.mapDict _, Obj.data_mapDict hd _, hk.modify _ _, ?_, ?_⟩ (Heap.SameBut.update ..))
    · rw [stored, if_pos (any_of_findIdx_some (hidx ▸ hi))]
      have hl : (es.toList.findIdx? fun e => ((L2.mixKind prog w)).is k e.key) = some i := by
        rw [← hi]
        obtain ⟨l⟩ := es
        simp
      have z := hp.modify hn hl v
      obtain ⟨l⟩ := es
      simpa using z
    · rw [stored, if_pos (any_of_findIdx_some (hidx ▸ hi)), keys_map_store]
      exact hn
  | none =>
    have out : k ∉ kvs.map (·.1) := not_mem_of_findIdx_none (hidx ▸ hi)
    have hany : ¬ (kvs.any fun kv => decide (kv.1 = k)) = true := fun z => by
      obtain ⟨kv, h1, h2⟩ := List.any_eq_true.mp z
      exact out (List.mem_map.mpr ⟨kv, h1, of_decide_eq_true h2⟩)
    refine wpAny_updateDictKeys (hz := hes) ho hd (hQ _ ⟨_, _, ep + 1, Heap.get?_update_self _ ho (Obj.isFreed_of_dict (Obj.data_mapDictKeys hd _)), hc.mapDictKeys _, Obj.data_mapDictKeys hd _, hk.push hkey _, ?_, ?_⟩ (Heap.SameBut.update ..))
    · rw [stored, if_neg hany]
      have z := hp.append hkey (((L2.mixKind prog w)).hash k) v
      obtain ⟨l⟩ := es
      simpa using z
    · rw [stored, if_neg hany, List.map_append, List.nodup_append]
      refine ⟨hn, by simp, fun a ha b hb => ?_⟩
      simp only [List.map_cons, List.map_nil, List.mem_singleton] at hb
      subst hb
      exact fun z => out (z ▸ ha)
theorem key_noref {k : L2.Key} {key : Value} (h : ((L2.mixKind prog w)).is k key = true) : ∀ b, key ≠ .ref b := fun b z => by
  rcases L2.keyIs_shape (k := k) (v := key) h with ⟨i, t, e1, e2⟩ | ⟨x, t, e1, e2⟩ <;> rw [e2] at z <;> cases z
theorem merge_pairs {d o : Addr} {kvs more : List (L2.Key × Value)} {Q : Unit → Shared → Prop} (hdo : d ≠ o) (hoS : (o == sysModules) = false) (hd : s.heap.DictOf (L2.mixKind prog w) d kvs) (ho : s.heap.DictOf (L2.mixKind prog w) o more) (hsz : kvs.length + more.length ≤ sizeLine)
    (hQ : ∀ h', h'.DictOf (L2.mixKind prog w) d (merged kvs more) → Heap.SameBut d s.heap h' → Q () { s with heap := h' }) : wpAny (model prog w) A (mergeMapping d (.ref o) false) Q E s := by
  obtain ⟨od, esd, epd, hod, hcd, hdd, hkd, hpd, hnd⟩ := id hd
  obtain ⟨oo, eso, epo, hoo, hco, hdo', hko, hpo, hno⟩ := id ho
  have hlen : more.length = eso.size := by
    rw [← hpo.length]
    simp
  have loop : ∀ X : DictEntry → Sem Unit, (∀ e, X e = dictPut d e.hash e.key e.val) → wpAny (model prog w) A (do
      let l ← dictEntries o
      let epoch ← dictEpoch o
      forIn (List.range l.size) PUnit.unit fun i (_ : PUnit) => (do
          let l' ← dictEntries o
          match l'[i]? with
            | some e => do
              holding [e.key, e.val] (X e)
              let ep' ← dictEpoch o
              if (ep' != epoch) = true then do
                  (unsupported "dict.changed-during-merge" : Sem PUnit)
                  pure (ForInStep.yield PUnit.unit)
                else pure (ForInStep.yield PUnit.unit)
            | _ => do
              (unsupported "dict.changed-during-merge" : Sem PUnit)
              pure (ForInStep.yield PUnit.unit) : Sem (ForInStep PUnit))
      pure ()) Q E s := by
    intro X hX
    refine wpAny_bind (wpAny_dictEntries hoo hdo' ?_)
    refine wpAny_bind (wpAny_dictEpoch hoo hdo' ?_)
    refine wpAny_bind ?_
    refine wpAny_forIn_list _
      (fun rest _ s' => ∃ h' i, s' = { s with heap := h' } ∧ rest = List.range' i (eso.size - i) ∧ i ≤ eso.size ∧ h'.DictOf (L2.mixKind prog w) d (merged kvs (more.take i)) ∧ h'.get? o = some oo ∧ Heap.SameBut d s.heap h')
      _ ?_ ?_ _ _ ⟨s.heap, 0, rfl, by rw [List.range_eq_range']; rfl, Nat.zero_le _, by simpa [merged] using hd, hoo, Heap.SameBut.refl _ _⟩
    · rintro x rest b s' ⟨h', i, rfl, hr, hi, hd', hoo', hs'⟩
      have hlt : i < eso.size := by
        rcases Nat.lt_or_ge i eso.size with h | h
        · exact h
        · rw [Nat.sub_eq_zero_of_le h] at hr
          simp at hr
      obtain ⟨rfl, hrest⟩ : x = i ∧ rest = List.range' (i + 1) (eso.size - (i + 1)) := by
        have e : eso.size - i = (eso.size - (i + 1)) + 1 := by omega
        rw [e, List.range'_succ] at hr
        injection hr with h1 h2
        exact ⟨h1, h2⟩
      refine wpAny_bind (wpAny_dictEntries hoo' hdo' ?_)
      rw [Array.getElem?_eq_getElem hlt]
      obtain ⟨⟨k, v⟩, hkv⟩ : ∃ kv, more[x]? = some kv := ⟨more[x]'(by rw [hlen]; exact hlt), List.getElem?_eq_getElem _⟩
      obtain ⟨hkey, hval⟩ := hpo.get? (e := eso[x]) (by simp [hlt]) hkv
      obtain ⟨k', hkey', hhash⟩ := hko eso[x] (Array.getElem_mem hlt)
      obtain rfl : k' = k := ((L2.mixKind prog w)).inj _ _ _ hkey' hkey
      show wpAny _ _ (holding [eso[x].key, eso[x].val] (X eso[x]) >>= _) _ _ _
      rw [hX, hhash, hval]
      have hmx : (merged kvs (more.take x)).length ≤ sizeLine := by
        have e1 := merged_length_le kvs (more.take x)
        have e2 : (more.take x).length ≤ more.length := by rw [List.length_take]; omega
        omega
      refine wpAny_bind (wpAny_holding (put_pairs hkey hd' hmx fun h'' hd'' hs'' => ?_))
      have hoo'' : h''.get? o = some oo := (hs''.2 o (Ne.symm hdo)).trans hoo'
      refine wpAny_bind (wpAny_dictEpoch hoo'' hdo' ?_)
      rw [if_neg (by simp)]
      exact wpAny_pure ⟨h'', x + 1, rfl, hrest, hlt, by rw [merged_take_succ kvs more x (k', v) hkv]; exact hd'', hoo'', hs'.trans hs''⟩
    · rintro b s' ⟨h', i, rfl, hr, hi, hd', hoo', hs'⟩
      have hin : i = eso.size := by
        rcases Nat.lt_or_ge i eso.size with h | h
        · have e : eso.size - i = (eso.size - (i + 1)) + 1 := by omega
          rw [e, List.range'_succ] at hr
          exact nomatch hr
        · exact Nat.le_antisymm hi h
      refine wpAny_pure (hQ h' ?_ hs')
      rw [hin, ← hlen, List.take_length] at hd'
      exact hd'
  unfold mergeMapping
  refine wpAny_bind (wpAny_isInstance ho.typeIs isSubtype_dict_dict ?_)
  rw [if_pos rfl]
  refine wpAny_bind (wpAny_specialOf ho.typeIs F.slot_dict_iter.lookup ?_)
  refine wpAny_bind (wpAny_pure ?_)
  dsimp only
  rw [show (some (Value.builtin "dict.__iter__") == some (Value.builtin "dict.__iter__")) = true by decide +kernel]
  dsimp only
  rw [if_neg (by rw [hoS]; exact Bool.false_ne_true)]
  refine wpAny_bind (wpAny_dictEntries hod hdd ?_)
  split
  · refine wpAny_bind (wpAny_dictEntries hoo hdo' ?_)
    rw [← Array.forIn_toList]
    refine wpAny_bind (wpAny_forIn_list _ (fun rest _ s' => s' = s ∧ ∀ e ∈ rest, e ∈ eso) _ ?_ ?_ _ _ ⟨rfl, fun e he => Array.mem_toList_iff.mp he⟩)
    · rintro e rest b s' ⟨rfl, hm⟩
      obtain ⟨k, hkey, _⟩ := hko e (hm e List.mem_cons_self)
      have z := key_noref hkey
      split
      · rename_i b2 hb2
        exact absurd hb2 (z b2)
      · exact wpAny_pure ⟨rfl, fun e he => hm e (List.mem_cons_of_mem _ he)⟩
    · rintro b s' ⟨rfl, _⟩
      exact loop _ fun e => rfl
  · exact loop _ fun e => rfl
theorem display_splat {mt kt vt : Sem Value} {Q : Value → Shared → Prop}
    (h : wpAny (model prog w) A mt (fun m s1 => ∃ (o : Addr) (more : List (L2.Key × Value)), m = .ref o ∧ o ≠ s.heap.objs.size ∧ (o == sysModules) = false ∧ s1.heap.DictOf (L2.mixKind prog w) o more ∧ s1.heap.DictOf (L2.mixKind prog w) s.heap.objs.size [] ∧ more.length + 1 ≤ sizeLine ∧
      ∀ h1, h1.DictOf (L2.mixKind prog w) s.heap.objs.size (merged [] more) → Heap.SameBut s.heap.objs.size s1.heap h1 →
        wpAny (model prog w) A (evalPairs [(kt, vt)]) (fun vs s2 => ∃ (k : L2.Key) (key v : Value) (vs2 : List (L2.Key × Value)), vs = [(key, v)] ∧ ((L2.mixKind prog w)).is k key = true ∧ s.heap.objs.size ≠ h1.objs.size ∧ (h1.objs.size == sysModules) = false ∧ s2.heap.DictOf (L2.mixKind prog w) h1.objs.size [] ∧ s2.heap.DictOf (L2.mixKind prog w) s.heap.objs.size vs2 ∧ vs2.length + 1 ≤ sizeLine ∧
          ∀ h2, h2.DictOf (L2.mixKind prog w) h1.objs.size [(k, v)] → Heap.SameBut h1.objs.size s2.heap h2 → ∀ h3, h3.DictOf (L2.mixKind prog w) s.heap.objs.size (merged vs2 [(k, v)]) → Heap.SameBut s.heap.objs.size h2 h3 → ∀ tk, Q (.ref s.heap.objs.size) { s2 with heap := h3, toks := tk }) E
          { s1 with heap := h1.push { cls := .type "dict", data := .dict #[] } }) E { s with heap := s.heap.push { cls := .type "dict", data := .dict #[] } }) :
    wpAny (model prog w) A (dictDisplay [(none, mt), (some kt, vt)]) Q E s := by
  unfold dictDisplay
  dsimp only
  rw [List.forIn_cons]
  refine wpAny_bind (wpAny_bind ?_)
  dsimp only
  rw [if_pos (show ([] : List (Sem Value × Sem Value)).isEmpty = true from rfl)]
  refine wpAny_bind (wpAny_pure ?_)
  dsimp only
  refine wpAny_bind (wpAny_alloc ?_)
  refine wpAny_bind (wpAny_holding ?_)
  refine wpAny_mono h (fun m s1 hh => ?_) (fun _ _ e => e)
  obtain ⟨o, more, rfl, hdo, hoS, ho, hd, hz, hk⟩ := hh
  refine wpAny_bind (wpAny_onRaise (wpAny_tryCatch (wpAny_onRaise (wpAny_holding (merge_pairs (Ne.symm hdo) hoS hd ho (by rw [List.length_nil]; omega) fun h1 hd1 sb1 => ?_)))))
  refine wpAny_pure (wpAny_pure ?_)
  have hk := hk h1 hd1 sb1
  refine wpAny_bind ?_
  dsimp only
  rw [if_neg (show ¬ (([] : List (Sem Value × Sem Value)) ++ [(kt, vt)]).isEmpty = true from fun z => by simp at z)]
  refine wpAny_bind (wpAny_holding (wpAny_subDict (knd := (L2.mixKind prog w)) (by show 1 ≤ 15; decide) (wpAny_mono hk (fun vs s2 hh => ?_) fun _ _ e => e)))
  obtain ⟨k, key, v, vs2, rfl, hkey, hne, hs2, hd2, hd2', hz3, fin⟩ := hh
  refine ⟨[(k, v)], ⟨hkey, rfl, True.intro⟩, hd2, fun h2 hd3 sb2 => ?_⟩
  have e1 : merged ([] : List (L2.Key × Value)) [(k, v)] = [(k, v)] := by simp [merged, stored]
  rw [e1] at hd3
  have hd4 : h2.DictOf (L2.mixKind prog w) s.heap.objs.size vs2 := hd2'.sameBut sb2 hne
  refine wpAny_bind (wpAny_onRaise (wpAny_holding (merge_pairs hne hs2 hd4 hd3 (by show _ + 1 ≤ _; exact hz3) fun h3 hd5 sb3 => ?_)))
  exact wpAny_pure (wpAny_pure (fin h2 hd3 sb2 h3 hd5 sb3 _))
end
end EfR
end PySem
namespace Ef
open PySem PySem.Spec PyProof.Rows L2 He
def tSplat (ta tk tv : TE) : TE := fun σ H Q => ∀ p, H p = none → ta σ (upd H p (.dK [])) fun x H1 => ∃ (a : Addr) (kvs : List (Key × V)), x = .ref a ∧ a ≠ p ∧ H1 a = some (.dK kvs) ∧ H1 p = some (.dK []) ∧ kvs.length + 1 ≤ sizeLine ∧
  ∀ q, H1 q = none → tk σ (upd (upd H1 p (.dK (mergeK [] kvs))) q (.dK [])) fun y H2 => tv σ H2 fun z H3 => ∃ k : Key, y = kV k ∧ H3 p = some (.dK (mergeK [] kvs)) ∧ H3 q = some (.dK []) ∧ Q (.ref p) (upd (upd H3 q (.dK [(k, z)])) p (.dK (mergeK (mergeK [] kvs) [(k, z)])))
theorem kv_len {κ : Type} {kvs : List (κ × V)} {vs : List (κ × Value)} (h : KV kvs vs) : kvs.length = vs.length := Paired.length h
/-- {**a, k: v} -/
theorem pe_splat {X : Cx} {ea ek ev : Expr} {ta tk tv : TE} {pos : Pos} (ha : PE X ea ta) (hk : PE X ek tk) (hv : PE X ev tv) : PE X (.Dict [none, some ek] [ea, ev] pos) (tSplat ta tk tv) := by
  refine ⟨fun pins s σ H Q I hq => ?_⟩
  rw [arm_eval_Dict]
  refine wpAny_bind (wpAny_standAt ?_)
  show wpAny _ _ (dictDisplay [(none, do let x ← eval ea X.env; standAt pos; pure x), (some (eval ek X.env), do let x ← eval ev X.env; standAt pos; pure x)]) _ _ _
  have hn := I.hok.fresh (Nat.le_refl s.heap.objs.size)
  have I1 := I.laid (a := s.heap.objs.size) (o := .dK []) (h' := s.heap.push { cls := .type "dict", data := .dict #[] }) (t' := s.toks) (fun _ _ q => Heap.get?_push_of_some _ q) (Nat.le_refl _) (dk_empty s.heap I.big)
  refine PySem.EfR.display_splat (prog := X.prog) (w := X.w) (wpAny_bind (thn (ha.run pins _ σ _ _ I1 (hq _ hn)) fun u s1 ⟨x, H1, I2, rx, a, kvs, ex, hap, hka, hkp, hz, q⟩ => wpAny_bind (wpAny_standAt (wpAny_pure ?_))))
  subst ex
  obtain rfl : u = Value.ref a := rx
  obtain ⟨_, hS, more, rel, dd⟩ := dk_of I2.hok hka
  obtain ⟨_, hSp, vs0, rel0, dd0⟩ := dk_of I2.hok hkp
  cases rel0
  have hl := kv_len rel
  have hm1 := merged_length_le ([] : List (Key × Value)) more
  rw [List.length_nil] at hm1
  refine ⟨a, more, rfl, hap, hS, dd, dd0, by omega, fun h1 hd1 sb1 => ?_⟩
  have relm : KV (mergeK [] kvs) (merged [] more) := rel.merge .nil
  have hlm := kv_len relm
  have he1 : ∃ q, h1.get? s.heap.objs.size = some q := let ⟨q, _, _, hq, _⟩ := hd1; ⟨q, hq⟩
  have I3 : Inv X pins σ (upd H1 s.heap.objs.size (.dK (mergeK [] kvs))) { s1 with heap := h1 } := d_write (t' := s1.toks) I2 (by rw [hkp]; exact True.intro) sb1 he1 (dk_new (by omega) hSp relm hd1)
  have hn3 := I3.hok.fresh (Nat.le_refl h1.objs.size)
  have hne3 : h1.objs.size ≠ s.heap.objs.size := fun z => by
    rw [z, upd_same] at hn3
    cases hn3
  have hnq : H1 h1.objs.size = none := by
    rw [upd_ne hne3] at hn3
    exact hn3
  have I4 := I3.laid (a := h1.objs.size) (o := .dK []) (h' := h1.push { cls := .type "dict", data := .dict #[] }) (t' := s1.toks) (fun _ _ q => Heap.get?_push_of_some _ q) (Nat.le_refl _) (dk_empty h1 I3.big)
  have q4 := q _ hnq
  refine evalPairs_cons (thn (hk.run pins _ σ _ _ I4 q4) fun kv s2 ⟨y, H2, I5, ry, q5⟩ => wpAny_bind (thn (hv.run pins s2 σ H2 _ I5 q5) fun vv s3 ⟨z, H3, I6, rz, k, ey, h3p, h3q, q6⟩ => wpAny_bind (wpAny_standAt (wpAny_pure (evalPairs_nil ?_)))))
  subst ey
  obtain ⟨_, hSq, vs1, rel1, dd1⟩ := dk_of I6.hok h3q
  cases rel1
  obtain ⟨_, _, vs2, rel2, dd2⟩ := dk_of I6.hok h3p
  have hl2 := kv_len rel2
  refine ⟨k, kv, vv, vs2, rfl, kV_is ry, Ne.symm hne3, hSq, dd1, dd2, by omega, fun h2 hd2 sb2 h3 hd3 sb3 tk => ?_⟩
  have he2 : ∃ q, h2.get? h1.objs.size = some q := let ⟨q, _, _, hq, _⟩ := hd2; ⟨q, hq⟩
  have he3 : ∃ q, h3.get? s.heap.objs.size = some q := let ⟨q, _, _, hq, _⟩ := hd3; ⟨q, hq⟩
  have relq : KV [(k, z)] [(k, vv)] := .cons ⟨rfl, rz⟩ .nil
  have I7 : Inv X pins σ (upd H3 h1.objs.size (.dK [(k, z)])) { s3 with heap := h2 } := d_write (t' := s3.toks) I6 (by rw [h3q]; exact True.intro) sb2 he2 (dk_new (by show 1 ≤ sizeLine; decide) hSq relq hd2)
  have h7p : upd H3 h1.objs.size (.dK [(k, z)]) s.heap.objs.size = some (.dK (mergeK [] kvs)) := by
    rw [upd_ne (Ne.symm hne3)]
    exact h3p
  have hlm2 := length_mergeK [(k, z)] (mergeK [] kvs)
  have I8 := d_write (t' := tk) (ob := .dK (mergeK (mergeK [] kvs) [(k, z)])) I7 (by rw [h7p]; exact True.intro) sb3 he3 (dk_new (by rw [List.length_singleton] at hlm2; omega) hSp (relq.merge rel2) hd3)
  exact ⟨.ref s.heap.objs.size, _, I8, rfl, q6⟩
end Ef

set_option Elab.async false
set_option linter.all false
set_option maxRecDepth 100000
set_option maxHeartbeats 4000000
namespace Ef
open PySem PySem.Spec PyProof.Rows L2 He
/-! ### dicts with whole keys, told by what stands at a key -/
structure WK (kvs : List (Key × V)) (W : Int → Option V) : Prop where
  ks : ∃ l : List Int, kvs.map (·.1) = l.map Sum.inl ∧ l.Nodup
  at_ : ∀ i : Int, valV kvs (.inl i) = W i
def putW (W : Int → Option V) (i : Int) (v : V) : Int → Option V := fun j => if j = i then some v else W j
def filW (p : Int → Bool) (W : Int → Option V) : Int → Option V := fun j => if p j = true then W j else none
def InW (n : Int) (W : Int → Option V) : Prop := ∀ i v, W i = some v → 0 ≤ i ∧ i < n
theorem WK.nil : WK [] (fun _ => none) := ⟨⟨[], rfl, List.nodup_nil⟩, fun _ => rfl⟩
theorem valV_mem {kvs : List (Key × V)} {k : Key} : (valV kvs k).isSome = true ↔ k ∈ kvs.map (·.1) := by
  rw [← valV_any, List.any_eq_true]
  constructor
  · rintro ⟨x, h1, h2⟩
    exact List.mem_map.mpr ⟨x, h1, of_decide_eq_true h2⟩
  · intro h
    obtain ⟨x, h1, h2⟩ := List.mem_map.mp h
    exact ⟨x, h1, decide_eq_true h2⟩
theorem WK.mem {kvs : List (Key × V)} {W : Int → Option V} (h : WK kvs W) {i : Int} : (W i).isSome = true ↔ Sum.inl i ∈ kvs.map (·.1) := by
  rw [← h.at_ i]
  exact valV_mem
theorem WK.put {kvs : List (Key × V)} {W : Int → Option V} (h : WK kvs W) (i : Int) (v : V) : WK (putK kvs (.inl i) v) (putW W i v) := by
  refine ⟨?_, fun j => ?_⟩
  · obtain ⟨l, e, nd⟩ := h.ks
    cases q : valV kvs (.inl i) with
    | none =>
      rw [putK_new v q, List.map_append, e]
      refine ⟨l ++ [i], by rw [List.map_append]; rfl, ?_⟩
      have out : i ∉ l := fun z => by
        have h2 : (valV kvs (.inl i)).isSome = true := valV_mem.mpr (by rw [e]; exact List.mem_map.mpr ⟨i, z, rfl⟩)
        rw [q] at h2
        cases h2
      rw [List.nodup_append]
      exact ⟨nd, by simp, fun a ha b hb => by
        rw [List.mem_singleton.mp hb]
        exact fun z => out (z ▸ ha)⟩
    | some x =>
      have ha : (kvs.any fun kv => decide (kv.1 = Sum.inl i)) = true := by rw [valV_any, q]; rfl
      refine ⟨l, ?_, nd⟩
      unfold putK
      rw [if_pos ha, List.map_map, ← e]
      refine List.map_congr_left fun x _ => ?_
      show (if x.1 = Sum.inl i then (x.1, v) else x).1 = x.1
      split <;> rfl
  · rw [valV_put]
    unfold putW
    by_cases e : j = i
    · rw [if_pos e, if_pos (by rw [e])]
    · rw [if_neg e, if_neg (fun z => e (Sum.inl.inj z)), h.at_]
def keyP (p : Int → Bool) : Key → Bool
  | .inl i => p i
  | .inr _ => false
def filK (p : Int → Bool) (kvs : List (Key × V)) : List (Key × V) := kvs.filter fun kv => keyP p kv.1
theorem valV_fil (p : Int → Bool) (i : Int) : ∀ kvs : List (Key × V), valV (filK p kvs) (.inl i) = if p i = true then valV kvs (.inl i) else none
  | [] => by simp [filK, valV]
  | kv :: r => by
    have ih := valV_fil p i r
    unfold filK at ih ⊢
    by_cases e : kv.1 = Sum.inl i
    · rw [valV_pos e]
      by_cases hp : p i = true
      · rw [List.filter_cons_of_pos (by rw [e]; exact hp), valV_pos e, if_pos hp]
      · rw [List.filter_cons_of_neg (by rw [e]; exact hp), ih, if_neg hp, if_neg hp]
    · rw [valV_neg e]
      by_cases hk : keyP p kv.1 = true
      · rw [List.filter_cons_of_pos (p := fun kv : Key × V => keyP p kv.1) hk, valV_neg e, ih]
      · rw [List.filter_cons_of_neg (p := fun kv : Key × V => keyP p kv.1) hk, ih]
theorem fil_keys (p : Int → Bool) : ∀ (kvs : List (Key × V)) (l : List Int), kvs.map (·.1) = l.map Sum.inl → (filK p kvs).map (·.1) = (l.filter p).map Sum.inl
  | [], [], _ => rfl
  | [], _ :: _, h => by cases h
  | _ :: _, [], h => by cases h
  | kv :: r, i :: l, h => by
    have e : kv.1 = Sum.inl i := by injection h
    have h2 : r.map (·.1) = l.map Sum.inl := by injection h
    have ih := fil_keys p r l h2
    unfold filK at ih ⊢
    by_cases hp : p i = true
    · rw [List.filter_cons_of_pos (by rw [e]; exact hp), List.filter_cons_of_pos hp, List.map_cons, List.map_cons, ih, e]
    · rw [List.filter_cons_of_neg (by rw [e]; exact hp), List.filter_cons_of_neg hp, ih]
theorem WK.fil {kvs : List (Key × V)} {W : Int → Option V} (h : WK kvs W) (p : Int → Bool) : WK (filK p kvs) (filW p W) := by
  obtain ⟨l, e, nd⟩ := h.ks
  refine ⟨⟨l.filter p, fil_keys p kvs l e, nd.filter p⟩, fun i => ?_⟩
  rw [valV_fil, h.at_]
  rfl
theorem pigeon : ∀ (n : Nat) (l : List Int), l.Nodup → (∀ i ∈ l, 0 ≤ i ∧ i < (n : Int)) → l.length ≤ n
  | 0, [], _, _ => Nat.le_refl _
  | 0, i :: l, _, h => by
    have := h i List.mem_cons_self
    omega
  | n + 1, l, nd, h => by
    have ih := pigeon n (l.erase (n : Int)) (nd.erase _) fun i hi => by
      obtain ⟨h1, h2⟩ := (nd.mem_erase_iff).mp hi
      have := h i h2
      omega
    have := List.length_erase_le (a := (n : Int)) (l := l)
    have h3 : l.length ≤ (l.erase (n : Int)).length + 1 := by
      rw [List.length_erase]
      split <;> omega
    omega
theorem WK.keys_in {kvs : List (Key × V)} {W : Int → Option V} (h : WK kvs W) {n : Int} (hn : InW n W) {l : List Int} (e : kvs.map (·.1) = l.map Sum.inl) : ∀ i ∈ l, 0 ≤ i ∧ i < n := fun i hi => by
  have h2 : (W i).isSome = true := h.mem.mpr (by rw [e]; exact List.mem_map.mpr ⟨i, hi, rfl⟩)
  cases q : W i with
  | none => rw [q] at h2; cases h2
  | some v => exact hn i v q
theorem WK.len {kvs : List (Key × V)} {W : Int → Option V} (h : WK kvs W) {n : Int} (hn : InW n W) (h0 : 0 ≤ n) : (kvs.length : Int) ≤ n := by
  obtain ⟨l, e, nd⟩ := h.ks
  have z := pigeon n.toNat l nd fun i hi => by
    have := h.keys_in hn e i hi
    omega
  have e2 : kvs.length = l.length := by
    have := congrArg List.length e
    simpa using this
  omega
theorem WK.item {kvs : List (Key × V)} {W : Int → Option V} (h : WK kvs W) {i : Nat} {kv : Key × V} (hi : kvs[i]? = some kv) : ∃ j, kv.1 = .inl j ∧ W j = some kv.2 ∧ ∀ i' kv', kvs[i']? = some kv' → kv'.1 = kv.1 → i' = i := by
  obtain ⟨l, e, nd⟩ := h.ks
  have h1 : (kvs.map (·.1))[i]? = some kv.1 := by rw [List.getElem?_map, hi]; rfl
  have h2 := h1
  rw [e, List.getElem?_map] at h2
  cases q : l[i]? with
  | none => rw [q] at h2; cases h2
  | some j =>
    rw [q] at h2
    have ej : Sum.inl j = kv.1 := Option.some.inj h2
    have ndk : (kvs.map (·.1)).Nodup := by
      rw [e]
      exact List.Pairwise.map Sum.inl (fun a b h z => h (Sum.inl.inj z)) nd
    have uq : ∀ i' kv', kvs[i']? = some kv' → kv'.1 = kv.1 → i' = i := fun i' kv' hi' ek => by
      have g1 : (kvs.map (·.1))[i']? = some kv.1 := by rw [List.getElem?_map, hi', Option.map_some, ek]
      exact (List.getElem?_inj (List.getElem?_eq_some_iff.mp g1).1 ndk).mp (g1.trans h1.symm)
    refine ⟨j, ej.symm, ?_, uq⟩
    rw [← h.at_ j]
    unfold valV
    have hf : kvs.find? (fun kv => decide (kv.1 = Sum.inl j)) = some kv := by
      rw [List.find?_eq_some_iff_getElem]
      obtain ⟨a1, a2⟩ := List.getElem?_eq_some_iff.mp hi
      refine ⟨decide_eq_true ej.symm, i, a1, a2, fun m hm => ?_⟩
      have hne : kvs[m].1 ≠ Sum.inl j := fun z => by
        have := uq m kvs[m] (by simp) (z.trans ej)
        omega
      simpa using hne
    rw [hf]
    rfl
theorem merge_self : ∀ (more acc : List (Key × V)), ((acc ++ more).map (·.1)).Nodup → mergeK acc more = acc ++ more
  | [], acc, _ => by
    rw [List.append_nil]
    rfl
  | kv :: r, acc, nd => by
    have out : valV acc kv.1 = none := by
      cases q : valV acc kv.1 with
      | none => rfl
      | some x =>
        have h2 : kv.1 ∈ acc.map (·.1) := valV_mem.mp (by rw [q]; rfl)
        rw [List.map_append, List.nodup_append] at nd
        exact absurd rfl (nd.2.2 kv.1 h2 kv.1 List.mem_cons_self)
    show mergeK (putK acc kv.1 kv.2) r = _
    rw [putK_new kv.2 out, merge_self r _ (by simpa using nd)]
    simp
theorem WK.nodup {kvs : List (Key × V)} {W : Int → Option V} (h : WK kvs W) : (kvs.map (·.1)).Nodup := by
  obtain ⟨l, e, nd⟩ := h.ks
  rw [e]
  exact List.Pairwise.map Sum.inl (fun a b h z => h (Sum.inl.inj z)) nd
theorem WK.merge {kvs : List (Key × V)} {W : Int → Option V} (h : WK kvs W) : mergeK [] kvs = kvs := by
  have z := merge_self kvs [] (by simpa using h.nodup)
  simpa using z
end Ef

set_option Elab.async false
set_option linter.all false
set_option maxRecDepth 100000
set_option maxHeartbeats 4000000
namespace Ef
open PySem PySem.Spec PyProof.Rows L2 He
/-- a dict comprehension over a walk -/
theorem dc_it {J : It} {n : Nat} {G : Hp → Prop} {Y : Nat → Hp → V → Hp → Prop} (w : Walk J n G Y) {g : TG} {tt : TT} {tk tv : TE} {vs : List Nat} {σ : L2.St} {H1 : Hp} {D : Addr} {Qd : Hp → Prop} (Pv : Nat → Hp → Prop) (h0 : Pv 0 (upd H1 D (.dK []))) (hG : ∀ i H, i ≤ n → Pv i H → G H)
    (hs : ∀ i x H H', i < n → Pv i H → Y i H x H' → g x (wipe σ vs) H' fun σ2 H2 => wipe σ2 vs = wipe σ vs ∧ tt σ2 H2 fun b H3 =>
      if b = true then tk σ2 H3 fun y H4 => tv σ2 H4 fun z H5 => ∃ kvs k, y = kV k ∧ H5 D = some (.dK kvs) ∧ kvs.length < sizeLine ∧ Pv (i + 1) (upd H5 D (.dK (putK kvs k z))) else Pv (i + 1) H3) (hd : ∀ H, Pv n H → Qd H) :
    ∃ W : Nat → Nat → Hp → Prop, (∃ m, W 0 m (upd H1 D (.dK []))) ∧ ∀ i m H, W i m H →
      (J.stop i H ∧ Qd H) ∨ (J.go i H ∧ ∃ Nx : Hp → Prop, (∀ H', Nx H' → ∃ m', m' < m ∧ W (i + 1) m' H') ∧ ∀ x H', J.yld i H x H' → g x (wipe σ vs) H' fun σ2 H2 => wipe σ2 vs = wipe σ vs ∧ tt σ2 H2 fun b H3 =>
        if b = true then tk σ2 H3 fun y H4 => tv σ2 H4 fun z H5 => ∃ kvs k, y = kV k ∧ H5 D = some (.dK kvs) ∧ kvs.length < sizeLine ∧ Nx (upd H5 D (.dK (putK kvs k z))) else Nx H3) := by
  refine ⟨fun i m H => m = n - i ∧ i ≤ n ∧ Pv i H, ⟨n, by simp, Nat.zero_le _, h0⟩, ?_⟩
  rintro i m H ⟨rfl, hi, p⟩
  have q := hG i H hi p
  rcases Nat.lt_or_ge i n with hlt | hge
  · exact .inr ⟨w.goes i H hlt q, Pv (i + 1), fun H' p' => ⟨n - (i + 1), by omega, rfl, hlt, p'⟩, fun x H' y => hs i x H H' hlt p (w.yields i H x H' hlt q y)⟩
  · obtain rfl : i = n := by omega
    exact .inl ⟨w.stops H q, hd H p⟩
/-! ### wishes in the heap -/
def WAt (H : Hp) (v : V) (W : Int → Option V) : Prop := ∃ a kvs, v = .ref a ∧ H a = some (.dK kvs) ∧ WK kvs W
theorem WAt.same {H H1 : Hp} {v : V} {W : Int → Option V} (k : Same H H1) (h : WAt H v W) : WAt H1 v W := by
  obtain ⟨a, kvs, e, h, q⟩ := h
  exact ⟨a, kvs, e, k _ _ h, q⟩
/-- the state: a song and its wishes -/
def StP (K : PySem.W.Frag) (H : Hp) (v : V) (s : Sg) (W : Int → Option V) : Prop := ∃ p sv wv, v = .ref p ∧ H p = some (.tup [sv, wv]) ∧ SongAt K H sv s ∧ WAt H wv W
theorem StP.same {K : PySem.W.Frag} {H H1 : Hp} {v : V} {s : Sg} {W : Int → Option V} (k : Same H H1) (h : StP K H v s W) : StP K H1 v s W := by
  obtain ⟨p, sv, wv, e, h, h1, h2⟩ := h
  exact ⟨p, sv, wv, e, k _ _ h, h1.same k, h2.same k⟩
/-- {k: v for k, v in d.items() if p(k)} over a dict with whole keys, under the lock: the walk's bookkeeping -/
theorem fil_take {p : Int → Bool} {kvs : List (Key × V)} {i : Nat} {kv : Key × V} (h : kvs[i]? = some kv) : filK p (kvs.take (i + 1)) = if keyP p kv.1 = true then filK p (kvs.take i) ++ [kv] else filK p (kvs.take i) := by
  rw [take_more h]
  unfold filK
  rw [List.filter_append]
  split
  · rename_i hp
    rw [List.filter_cons_of_pos (p := fun kv : Key × V => keyP p kv.1) hp]
    rfl
  · rename_i hp
    rw [List.filter_cons_of_neg (p := fun kv : Key × V => keyP p kv.1) hp]
    simp
theorem fil_out {p : Int → Bool} {kvs : List (Key × V)} {W : Int → Option V} (w : WK kvs W) {i : Nat} {kv : Key × V} (h : kvs[i]? = some kv) : valV (filK p (kvs.take i)) kv.1 = none := by
  cases q : valV (filK p (kvs.take i)) kv.1 with
  | none => rfl
  | some x =>
    have h2 : kv.1 ∈ (filK p (kvs.take i)).map (·.1) := valV_mem.mp (by rw [q]; rfl)
    obtain ⟨kv', h3, h4⟩ := List.mem_map.mp h2
    have h5 : kv' ∈ kvs.take i := (List.mem_filter.mp h3).1
    obtain ⟨j, hj, e⟩ := List.getElem_of_mem h5
    rw [List.length_take] at hj
    have h6 : kvs[j]? = some kv' := by
      rw [List.getElem_take] at e
      rw [List.getElem?_eq_getElem (by omega), e]
    obtain ⟨_, _, _, uq⟩ := w.item h
    have := uq j kv' h6 h4
    omega
theorem fil_len {p : Int → Bool} {kvs : List (Key × V)} : (filK p kvs).length ≤ kvs.length := List.length_filter_le _ _
end Ef

set_option Elab.async false
set_option linter.all false
set_option maxRecDepth 100000
set_option maxHeartbeats 4000000
namespace Ef
open PySem PySem.Spec PyProof.Rows L2 He
theorem Same.unlock {H H1 : Hp} {d : Addr} {u z : HO} (h : H d = some u) (k : Same (upd H d z) H1) : Same H (upd H1 d u) := fun a o e => by
  by_cases ha : a = d
  · rw [ha] at e ⊢
    rw [upd_same, ← e, h]
  · rw [upd_ne ha]
    exact k a o (by rw [upd_ne ha]; exact e)
section
variable {P : Program} {w : World} {K : PySem.W.Frag} {mg : Str → Option Value} {base : Heap}
/-- what a deed's function gives: the state behind it, or an error -/
def GivesSt (K : PySem.W.Frag) (H : Hp) (Q : VK) (E : XK) (ok : Bool) (s : Sg) (W : Int → Option V) : Prop :=
  if ok = true then ∀ H' v', Same H H' → StP K H' v' s W → Q v' H' else ∀ H' c d, Same H H' → XOk K H' c d → E c d H'
theorem GivesSt.yes {H : Hp} {Q : VK} {E : XK} {ok : Bool} {s : Sg} {W : Int → Option V} (h : GivesSt K H Q E ok s W) (e : ok = true) : ∀ H' v', Same H H' → StP K H' v' s W → Q v' H' := by
  unfold GivesSt at h
  rw [if_pos e] at h
  exact h
theorem GivesSt.no {H : Hp} {Q : VK} {E : XK} {ok : Bool} {s : Sg} {W : Int → Option V} (h : GivesSt K H Q E ok s W) (e : ok = false) : ∀ H' c d, Same H H' → XOk K H' c d → E c d H' := by
  unfold GivesSt at h
  rw [e, if_neg Bool.false_ne_true] at h
  exact h
theorem bnd_with_wish : BindN "with_wish" "with_wish" s_with_wish ["song", "wishes", "place", "prices"] := fun _ _ _ _ _ _ us hl => match us, hl with | [_, _, _, _], _ => rfl
theorem sc_with_wish : FnScope ["song", "wishes", "place", "prices"] ["song", "wishes", "place", "prices"] (defScope s_with_wish) := ⟨rfl, rfl, rfl, by decide +kernel, rfl, by decide +kernel, by decide +kernel⟩
def pWithWish (K : PySem.W.Frag) (v wv pl pr : V) (H : Hp) (Q : VK) (E : XK) : Prop := ∃ s W o, SongAt K H v s ∧ OkSg s ∧ WAt H wv W ∧ InW s.n W ∧ AnyD H pl ∧ AnyD H pr ∧ TupV H pr o ∧
  GivesSt K H Q E (isI pl (some 0) (some (s.n - 1)) && vPr s.k o) s (putW W (dI pl) pr)
theorem TupV.same {H H1 : Hp} (k : Same H H1) {v : V} {o : Option (List V)} (hk : ∀ a, v = .ref a → ∃ ob, H a = some ob) (h : TupV H v o) : TupV H1 v o := by
  cases o with
  | some xs =>
    obtain ⟨a, e, h⟩ := h
    exact ⟨a, e, k _ _ h⟩
  | none =>
    intro a xs e h2
    obtain ⟨ob, hob⟩ := hk a e
    rw [k _ _ hob] at h2
    cases h2
    exact h a xs e hob
theorem AnyD.there {H : Hp} {v : V} (h : AnyD H v) : ∀ a, v = .ref a → ∃ ob, H a = some ob := by
  obtain ⟨b, d, h, _⟩ := h
  intro a e
  cases h with
  | lst h _ _ => cases e; exact ⟨_, h⟩
  | tup h _ => cases e; exact ⟨_, h⟩
  | dK h _ => cases e; exact ⟨_, h⟩
  | dP h => cases e; exact ⟨_, h⟩
  | odd h => cases e; exact ⟨_, h⟩
  | _ => cases e
theorem with_wish (T : Top K mg) : Clb P w K mg base (L2N.CX P w) 5 "with_wish" (sp4 (pWithWish K)) := by
  obtain ⟨fd, F⟩ := T.d_with_wish
  refine Clb.of T.g_with_wish F (fn4 F sc_with_wish bnd_with_wish fun cdv A outer s0 H v wv pl pr Q E hr h => ?_)
  obtain ⟨s, W, o, hs, ok, hw, hin, hpl, hpr, ho, q⟩ := h
  refine ⟨_, pss_cons (ps_expr (pe_f (need_place T) hr (L2N.passes_call (L2N.takes_of rfl rfl rfl rfl) (fun _ _ _ _ z => z)) (pa_cons (pv 0) (pa_cons (pv 2) pa_nil))))
    (pss_cons (ps_if (pt_not (pt_val (pe_f (are_prices T) (hr.mono (by decide)) pass0 (pa_cons (pv 0) (pa_cons (pv 3) pa_nil))))) (pss_one (L2N.ps_raise rfl (L2N.takes_of rfl rfl rfl rfl) (pmk1 (xcl_InvalidWishes T) (hr.mono (by decide)) (pa_cons (pv 3) pa_nil)))) pss_nil)
    (pss_one (ps_ret (pe_tup (pa_cons (pv 0) (pa_cons (pe_splat (pv 1) (pv 2) (pv 3)) pa_nil)))))), ?_⟩
  refine ⟨_, rfl, _, rfl, _, _, rfl, s, hs, hpl, ?_⟩
  cases hI : isI pl (some 0) (some (s.n - 1)) with
  | false => exact iteF (q.no (by rw [hI]; rfl))
  | true =>
    refine iteT ⟨_, rfl, _, rfl, _, _, rfl, s, o, hs, ok, hpr, ho, fun H1 s1 => ⟨_, rfl, ?_⟩⟩
    cases hv : vPr s.k o with
    | false => exact iteT ⟨_, rfl, _, rfl, fun d hd => q.no (by rw [hI, hv]; rfl) _ _ _ (Same.snd s1 hd) (.wishes upd_same (xok_new hd (hpr.same s1)))⟩
    | true =>
      have q2 := q.yes (by rw [hI, hv]; rfl)
      obtain ⟨i, rfl, hi0, hi1⟩ := isI_int hI
      obtain ⟨a, kvs, rfl, ha, wk⟩ := hw
      have hz := wk.len hin (by have := ok.n1; omega)
      have hn := ok.n40
      refine iteF ⟨_, rfl, fun p hp => ?_⟩
      have ha1 := s1 _ _ ha
      refine ⟨_, rfl, a, kvs, rfl, ne_of_none ha1 hp, by rw [upd_ne (ne_of_none ha1 hp)]; exact ha1, upd_same, by rw [sizeLine_eq]; omega, fun r hr' => ?_⟩
      have hpr' : p ≠ r := fun z => by
        rw [← z, upd_same] at hr'
        cases hr'
      rw [wk.merge]
      refine ⟨_, rfl, _, rfl, .inl i, rfl, ?_, upd_same, ?_⟩
      · rw [upd_ne hpr', upd_same]
      · refine ⟨by show 2 ≤ sizeLine; decide, fun t ht => ?_⟩
        have hrn : H1 r = none := by
          rw [upd_ne (Ne.symm hpr')] at hr'
          exact hr'
        have sm : Same H1 (upd (upd (upd (upd (upd H1 p (.dK [])) p (.dK kvs)) r (.dK [])) r (.dK [(.inl i, pr)])) p (.dK (mergeK kvs [(.inl i, pr)]))) := fun b ob e => by
          rw [upd_ne (ne_of_none e hp), upd_ne (ne_of_none e hrn), upd_ne (ne_of_none e hrn), upd_ne (ne_of_none e hp), upd_ne (ne_of_none e hp)]
          exact e
        have s2 := Same.trans s1 sm
        have s3 := Same.snd (o := .tup [v, .ref p]) s2 ht
        refine q2 _ _ s3 ⟨t, v, .ref p, rfl, upd_same, hs.same s3, p, putK kvs (.inl i) pr, rfl, ?_, wk.put i pr⟩
        rw [upd_ne (ne_of_none upd_same ht), upd_same]
        rfl
theorem bnd_without_wish : BindN "without_wish" "without_wish" s_without_wish ["song", "wishes", "place"] := fun _ _ _ _ _ _ us hl => match us, hl with | [_, _, _], _ => rfl
theorem sc_without_wish : FnScope ["song", "wishes", "place", "own", "prices"] ["song", "wishes", "place"] (defScope s_without_wish) := ⟨rfl, rfl, rfl, by decide +kernel, rfl, by decide +kernel, by decide +kernel⟩
def neP (i : Int) : Int → Bool := fun j => !decide (j = i)
def pWithoutWish (K : PySem.W.Frag) (v wv pl : V) (H : Hp) (Q : VK) (E : XK) : Prop := ∃ s W, SongAt K H v s ∧ OkSg s ∧ WAt H wv W ∧ InW s.n W ∧ AnyD H pl ∧
  GivesSt K H Q E (isI pl (some 0) (some (s.n - 1))) s (filW (neP (dI pl)) W)
theorem without_wish (T : Top K mg) : Clb P w K mg base (L2N.CX P w) 5 "without_wish" (sp3 (pWithoutWish K)) := by
  obtain ⟨fd, F⟩ := T.d_without_wish
  refine Clb.of T.g_without_wish F (fn3 F sc_without_wish bnd_without_wish fun cdv A outer s0 H v wv pl Q E hr h => ?_)
  obtain ⟨s, W, hs, ok, hw, hin, hpl, q⟩ := h
  refine ⟨_, pss_cons (ps_expr (pe_f (need_place T) hr (L2N.passes_call (L2N.takes_of rfl rfl rfl rfl) (fun _ _ _ _ z => z)) (pa_cons (pv 0) (pa_cons (pv 2) pa_nil))))
    (pss_one (ps_ret (pe_tup (pa_cons (pv 0) (pa_cons (pe_lock (pe_dc (own := [("own", 3), ("prices", 4)]) (g := gTup K 2 (gCons (gName 3) (gCons (gName 4) gNil))) rfl sc_without_wish.nd (pi_items (pv 1)) (blkOk_by (N := ["song", "wishes", "place", "own", "prices"]) (sc := defScope s_without_wish) (by decide +kernel))
      (fun _ _ _ _ _ => pg_tup rfl (pgs_cons (pg_name (i := 3) sc_without_wish.nd rfl (.inl rfl)) (pgs_cons (pg_name (i := 4) sc_without_wish.nd rfl (.inl rfl)) pgs_nil)))
      (fun _ _ _ _ _ => pts_one (pt_cmp (pc_neI (pv 3) (pv 2)))) (fun _ _ _ _ _ => pv 3) (fun _ _ _ _ _ => pv 4))) pa_nil))))), ?_⟩
  refine ⟨_, rfl, _, rfl, _, _, rfl, s, hs, hpl, ?_⟩
  cases hI : isI pl (some 0) (some (s.n - 1)) with
  | false => exact iteF (q.no hI)
  | true =>
    have q2 := q.yes hI
    obtain ⟨i, rfl, hi0, hi1⟩ := isI_int hI
    obtain ⟨a, kvs, rfl, ha, wk⟩ := hw
    have hz := wk.len hin (by have := ok.n1; omega)
    have hn := ok.n40
    refine iteT ⟨_, rfl, a, _, ha, True.intro, fun od => ?_⟩
    refine ⟨_, rfl, a, od, kvs, rfl, upd_same, fun D nD => dc_it (walk_items (d := a) (o := od) (kvs := kvs)) (fun j H2 => Same (upd H a (.frz od (.dK kvs))) H2 ∧ H2 D = some (.dK (filK (neP i) (kvs.take j)))) ⟨Same.new nD, upd_same⟩ (fun j H2 _ h => h.1 _ _ upd_same) ?_ ?_⟩
    · rintro j x H2 H3 hj ⟨s2, d2⟩ ⟨Ta, x1, x2, rfl, hTa, rfl, e1, e2⟩
      have hkv : kvs[j]? = some kvs[j] := by simp [hj]
      have e1 : (kvs[j]?).map (fun kv => kV kv.1) = some x1 := e1
      have e2 : (kvs[j]?).map Prod.snd = some x2 := e2
      rw [hkv] at e1 e2
      obtain ⟨jj, ek, _, _⟩ := wk.item hkv
      rw [Option.map_some, ek] at e1
      obtain rfl : V.int jj = x1 := Option.some.inj e1
      obtain rfl : kvs[j].2 = x2 := Option.some.inj e2
      have s3 := Same.snd (o := .tup [V.int jj, kvs[j].2]) s2 hTa
      have d3 : (upd H2 Ta (.tup [V.int jj, kvs[j].2])) D = some (.dK (filK (neP i) (kvs.take j))) := by
        rw [upd_ne (ne_of_none d2 hTa)]
        exact d2
      have ht := fil_take (p := neP i) hkv
      refine ⟨Ta, _, rfl, SqT.of upd_same, rfl, _, _, rfl, _, _, rfl, ⟨rfl, ?_⟩⟩
      refine ⟨rfl, ?_⟩
      refine ⟨_, rfl, _, rfl, _, _, rfl, rfl, _, rfl, ?_⟩
      rw [ek] at ht
      by_cases hji : jj = i
      · rw [if_neg (by simp [keyP, neP, hji])] at ht
        exact itF (by simp [hji]) ⟨s3, by rw [ht]; exact d3⟩
      · rw [if_pos (by simp [keyP, neP, hji])] at ht
        refine itT (by simp [hji]) ⟨_, rfl, _, rfl, _, .inl jj, rfl, d3, ?_, Same.mut s3 nD, ?_⟩
        · have := fil_len (p := neP i) (kvs := kvs.take j)
          rw [List.length_take] at this
          rw [sizeLine_eq]
          omega
        · rw [upd_same, ht]
          have z := fil_out (p := neP i) wk hkv
          rw [ek] at z
          rw [putK_new _ z, ← ek]
    · rintro H2 ⟨s2, d2⟩
      rw [List.take_length] at d2
      refine ⟨s2 _ _ upd_same, by show 2 ≤ sizeLine; decide, fun t ht => ?_⟩
      have sm := Same.unlock ha s2
      have hDa : D ≠ a := fun z => by
        rw [z, upd_same] at nD
        cases nD
      have s3 := Same.snd (o := .tup [v, .ref D]) sm ht
      have hD3 : (upd H2 a (.dK kvs)) D = some (.dK (filK (neP i) kvs)) := by
        rw [upd_ne hDa]
        exact d2
      refine q2 _ _ s3 ⟨t, v, .ref D, rfl, upd_same, hs.same s3, D, _, rfl, ?_, wk.fil _⟩
      rw [upd_ne (ne_of_none hD3 ht)]
      exact hD3
end
end Ef

set_option Elab.async false
set_option linter.all false
set_option maxRecDepth 100000
set_option maxHeartbeats 4000000
namespace Ef
open PySem PySem.Spec PyProof.Rows L2 He
section
variable {P : Program} {w : World} {K : PySem.W.Frag} {mg : Str → Option Value} {base : Heap}
theorem bnd_lengthened : BindN "lengthened" "lengthened" s_lengthened ["song", "wishes", "length"] := fun _ _ _ _ _ _ us hl => match us, hl with | [_, _, _], _ => rfl
theorem sc_lengthened : FnScope ["song", "wishes", "length", "place", "prices"] ["song", "wishes", "length"] (defScope s_lengthened) := ⟨rfl, rfl, rfl, by decide +kernel, rfl, by decide +kernel, by decide +kernel⟩
def ltP (m : Int) : Int → Bool := fun j => decide (j < m)
def lenOk (s : Sg) (l : V) : Bool := isI l (some 1) (some G30) && (decide (dI l ≤ 40) && okEs s.k (dI l) s.es)
def pLengthened (K : PySem.W.Frag) (v wv l : V) (H : Hp) (Q : VK) (E : XK) : Prop := ∃ s W, SongAt K H v s ∧ OkSg s ∧ WAt H wv W ∧ InW s.n W ∧ AnyD H l ∧
  GivesSt K H Q E (lenOk s l) ⟨s.k, dI l, s.es⟩ (filW (ltP (dI l)) W)
theorem lengthened (T : Top2 w K mg) : Clb P w K mg base (L2N.CX P w) 8 "lengthened" (sp3 (pLengthened K)) := by
  obtain ⟨fd, F⟩ := T.d_lengthened
  obtain ⟨un, hcn⟩ := T.con_NEAR
  refine Clb.of T.g_lengthened F (fn3 F sc_lengthened bnd_lengthened fun cdv A outer s0 H v wv l Q E hr h => ?_)
  obtain ⟨s, W, hs, ok, hw, hin, hl, q⟩ := h
  refine ⟨_, pss_cons (ps_if (pt_not (pt_val (pe_f (is_integer3 T.toTop) (hr.mono (by decide)) pass0 (pa_cons (pv 2) (pa_cons pe_int (pa_cons (C8.pe_gc (by rfl) T.v_FARTHEST) pa_nil)))))) (pss_one (L2N.ps_raise rfl (L2N.takes_of rfl rfl rfl rfl) (pmk1 (xcl_InvalidNumber T.toTop) (hr.mono (by decide)) (pa_cons (pv 2) pa_nil)))) pss_nil)
    (pss_cons (ps_if (pt_cmp (pc_gt (pv 2) (pe_con (pv 0) rfl))) (pss_one (L2N.ps_raise rfl (L2N.takes_of rfl rfl rfl rfl) (pmk1 (xcl_TooFar T.toTop) (hr.mono (by decide)) (pa_cons (pe_con (pv 0) rfl) pa_nil)))) pss_nil)
    (pss_one (ps_ret (pe_tup (pa_cons (pe_m T.c_Song (Song_with_length T.toTop) hr (L2N.passes_call (L2N.takes_of rfl rfl rfl rfl) (fun _ _ _ _ z => z)) (pv 0) (pa_cons (pv 2) pa_nil))
      (pa_cons (pe_lock (pe_dc (own := [("place", 3), ("prices", 4)]) (g := gTup K 2 (gCons (gName 3) (gCons (gName 4) gNil))) rfl sc_lengthened.nd (pi_items (pv 1)) (blkOk_by (N := ["song", "wishes", "length", "place", "prices"]) (sc := defScope s_lengthened) (by decide +kernel))
      (fun _ _ _ _ _ => pg_tup rfl (pgs_cons (pg_name (i := 3) sc_lengthened.nd rfl (.inl rfl)) (pgs_cons (pg_name (i := 4) sc_lengthened.nd rfl (.inl rfl)) pgs_nil)))
      (fun _ _ _ _ _ => pts_one (pt_cmp (pc_lt (pv 3) (pv 2)))) (fun _ _ _ _ _ => pv 3) (fun _ _ _ _ _ => pv 4))) pa_nil)))))), ?_⟩
  obtain ⟨b, dx, c, xs, rfl, hb, hc, pr⟩ := id hs
  obtain ⟨kd, hkd, hkb⟩ := hl.kd (K := K)
  refine ⟨_, rfl, _, _, _, rfl, kd, some 1, some G30, hkd, hkb, rfl, rfl, _, rfl, ?_⟩
  cases hI : isI l (some 1) (some G30) with
  | false => exact iteT ⟨_, rfl, _, rfl, fun d hd => q.no (by rw [lenOk, hI]; rfl) _ _ _ (Same.new hd) (.number upd_same (xok_new hd hl))⟩
  | true =>
    obtain ⟨m, rfl, hm1, hm2⟩ := isI_int hI
    have m1 : 1 ≤ m := by simpa [loB] using hm1
    have m30 : m ≤ G30 := by simpa [hiB] using hm2
    refine iteF ⟨_, rfl, _, rfl, b, _, dx, _, _, un, rfl, hb, T.c_Song, hcn, lk3n (by decide +kernel) (by decide +kernel) (by decide +kernel), _, _, rfl, rfl, _, rfl, ?_⟩
    by_cases h40 : m ≤ 40
    · refine itF (decide_eq_false (by omega)) ⟨_, rfl, b, dx, _, rfl, hb, lk3n (by decide +kernel) (by decide +kernel) (by decide +kernel), _, rfl, _, _, rfl, s, m, hs, ok, rfl, m1, m30, ?_⟩
      cases hE : okEs s.k m s.es with
      | false => exact iteF (q.no (by rw [lenOk, show dI (.int m) = m from rfl, hE]; simp))
      | true =>
        have q2 := q.yes (by rw [lenOk, show dI (.int m) = m from rfl, hE, hI]; simp [h40])
        refine iteT fun H1 sv s1 hsv => ?_
        obtain ⟨a, kvs, rfl, ha0, wk⟩ := hw
        have ha := s1 _ _ ha0
        have hz := wk.len hin (by have := ok.n1; omega)
        have hn := ok.n40
        refine ⟨a, _, ha, True.intro, fun od => ?_⟩
        refine ⟨_, rfl, a, od, kvs, rfl, upd_same, fun D nD => dc_it (walk_items (d := a) (o := od) (kvs := kvs)) (fun j H2 => Same (upd H1 a (.frz od (.dK kvs))) H2 ∧ H2 D = some (.dK (filK (ltP m) (kvs.take j)))) ⟨Same.new nD, upd_same⟩ (fun j H2 _ h => h.1 _ _ upd_same) ?_ ?_⟩
        · rintro j x H2 H3 hj ⟨s2, d2⟩ ⟨Ta, x1, x2, rfl, hTa, rfl, e1, e2⟩
          have hkv : kvs[j]? = some kvs[j] := by simp [hj]
          have e1 : (kvs[j]?).map (fun kv => kV kv.1) = some x1 := e1
          have e2 : (kvs[j]?).map Prod.snd = some x2 := e2
          rw [hkv] at e1 e2
          obtain ⟨jj, ek, _, _⟩ := wk.item hkv
          rw [Option.map_some, ek] at e1
          obtain rfl : V.int jj = x1 := Option.some.inj e1
          obtain rfl : kvs[j].2 = x2 := Option.some.inj e2
          have s3 := Same.snd (o := .tup [V.int jj, kvs[j].2]) s2 hTa
          have d3 : (upd H2 Ta (.tup [V.int jj, kvs[j].2])) D = some (.dK (filK (ltP m) (kvs.take j))) := by
            rw [upd_ne (ne_of_none d2 hTa)]
            exact d2
          have ht := fil_take (p := ltP m) hkv
          refine ⟨Ta, _, rfl, SqT.of upd_same, rfl, _, _, rfl, _, _, rfl, ⟨rfl, ?_⟩⟩
          refine ⟨rfl, ?_⟩
          refine ⟨_, rfl, _, rfl, _, _, rfl, rfl, _, rfl, ?_⟩
          rw [ek] at ht
          by_cases hji : jj < m
          · rw [if_pos (by simp [keyP, ltP, hji])] at ht
            refine itT (decide_eq_true hji) ⟨_, rfl, _, rfl, _, .inl jj, rfl, d3, ?_, Same.mut s3 nD, ?_⟩
            · have := fil_len (p := ltP m) (kvs := kvs.take j)
              rw [List.length_take] at this
              rw [sizeLine_eq]
              omega
            · rw [upd_same, ht]
              have z := fil_out (p := ltP m) wk hkv
              rw [ek] at z
              rw [putK_new _ z, ← ek]
          · rw [if_neg (by simp [keyP, ltP, hji])] at ht
            exact itF (decide_eq_false hji) ⟨s3, by rw [ht]; exact d3⟩
        · rintro H2 ⟨s2, d2⟩
          rw [List.take_length] at d2
          refine ⟨s2 _ _ upd_same, by show 2 ≤ sizeLine; decide, fun t ht => ?_⟩
          have sm := Same.unlock ha s2
          have hDa : D ≠ a := fun z => by
            rw [z, upd_same] at nD
            cases nD
          have s3 := Same.snd (o := .tup [sv, .ref D]) sm ht
          have hD3 : (upd H2 a (.dK kvs)) D = some (.dK (filK (ltP m) kvs)) := by
            rw [upd_ne hDa]
            exact d2
          refine q2 _ _ (Same.trans s1 s3) ⟨t, sv, .ref D, rfl, upd_same, hsv.same s3, D, _, rfl, ?_, wk.fil _⟩
          rw [upd_ne (ne_of_none hD3 ht)]
          exact hD3
    · refine itT (decide_eq_true (by omega)) ⟨_, rfl, b, _, dx, _, _, un, rfl, hb, T.c_Song, hcn, lk3n (by decide +kernel) (by decide +kernel) (by decide +kernel), _, rfl, fun d hd => q.no ?_ _ _ _ (Same.new hd) (.far upd_same)⟩
      rw [lenOk, show dI (.int m) = m from rfl, decide_eq_false h40]
      simp
end
end Ef

set_option Elab.async false
set_option linter.all false
set_option maxRecDepth 100000
set_option maxHeartbeats 4000000
namespace Ef
open PySem PySem.Spec PyProof.Rows L2 He
/-! ### match over texts -/
structure PMs (X : Cx) (cs : List MatchCase) (t : Str → TS) : Prop where
  run : ∀ (pins : List (Addr × Obj)) (s : Shared) (σ : L2.St) (H : Hp) (x : Str) (tk : Tok) (b : Bool) (D : Ends), Inv X pins σ H s → t x D σ H → wpAny (model X.prog X.w) X.A (matchCases cs X.env (.str x tk) b) (SP X pins D) X.xe s
theorem pms_str {X : Cx} {y : Str} {j : Nat} {p0 p : Pos} {body : List Stmt} {rest : List MatchCase} {tb : TS} {tr : Str → TS} (hb : PSs X body tb) (hr : PMs X rest tr) :
    PMs X (⟨.MatchValue (.Constant (.str y) j p0) p, none, body⟩ :: rest) (fun x D σ H => if x = y then tb D σ H else tr x D σ H) := by
  refine ⟨fun pins s σ H x tk b D I h => ?_⟩
  refine wpAny_matchCases_cons (wpAny_matchPattern_Value (Calls.Constant_str ?_))
  refine PySem.P.eq_str (wpAny_truthy_bool ?_)
  by_cases e : x = y
  · rw [if_pos e] at h
    rw [show (x.cps.toList == y.cps.toList) = true from beq_iff_eq.mpr (by rw [e])]
    exact wpAny_assignInOrder_none (hb.run pins _ σ H D (I.tok _) h)
  · rw [if_neg e] at h
    rw [show (x.cps.toList == y.cps.toList) = false from beq_eq_false_iff_ne.mpr fun z => e (by
      obtain ⟨a⟩ := x
      obtain ⟨b⟩ := y
      exact congrArg Str.mk (Array.toList_inj.mp z))]
    exact hr.run pins _ σ H x tk false D (I.tok _) h
theorem pms_any {X : Cx} {p : Pos} {body : List Stmt} {rest : List MatchCase} {tb : TS} (hb : PSs X body tb) : PMs X (⟨.MatchAs none none p, none, body⟩ :: rest) (fun _ D σ H => tb D σ H) := by
  refine ⟨fun pins s σ H x tk b D I h => ?_⟩
  exact wpAny_matchCases_cons (wpAny_matchPattern_Capture (wpAny_assignInOrder_none (hb.run pins _ σ H D I h)))
theorem ps_match {X : Cx} {e : Expr} {te : TE} {cs : List MatchCase} {t : Str → TS} {pos : Pos} (he : PE X e te) (hc : PMs X cs t) : PS X (.Match e cs pos) (fun D σ H => te σ H fun v H1 => ∃ x, v = .str x ∧ t x D σ H1) := by
  refine ⟨fun pins s σ H D I h => ?_⟩
  refine wpAny_Match (thn (he.run pins s σ H _ I h) fun u s1 ⟨v, H1, I1, r, x, ex, q⟩ => ?_)
  subst ex
  obtain ⟨tk, rfl⟩ := r
  exact hc.run pins s1 σ H1 x tk true D I1 q
end Ef

set_option Elab.async false
set_option linter.all false
set_option maxRecDepth 100000
set_option maxHeartbeats 4000000
namespace Ef
open PySem PySem.Spec PyProof.Rows L2 He
/-! ### deeds -/
inductive Dd where
  | wish (pl pr : V) (o : Option (List V))
  | free (pl : V)
  | len (l : V)
  | echo (dl t : V) (o : Option Rw)
  | drop (i : V)
def BigI : Int := 1000000000000000000000000000000000000000000000000000000000000
def DeedAt (K : PySem.W.Frag) (H : Hp) (v : V) : Dd → Prop
  | .wish pl pr o => ∃ a, v = .ref a ∧ H a = some (.tup [.str "wish", pl, pr]) ∧ AnyD H pl ∧ AnyD H pr ∧ TupV H pr o ∧ ∀ xs, o = some xs → ∀ i, V.int i ∈ xs → i ≤ BigI
  | .free pl => ∃ a, v = .ref a ∧ H a = some (.tup [.str "free", pl]) ∧ AnyD H pl
  | .len l => ∃ a, v = .ref a ∧ H a = some (.tup [.str "length", l]) ∧ AnyD H l
  | .echo dl t o => ∃ a, v = .ref a ∧ H a = some (.tup [.str "echo", dl, t]) ∧ AnyD H dl ∧ TabQ K H t o ∧ ∀ R, o = some R → ∃ n, OkR n R
  | .drop i => ∃ a, v = .ref a ∧ H a = some (.tup [.str "drop", i]) ∧ AnyD H i
theorem DeedAt.same {K : PySem.W.Frag} {H H1 : Hp} (k : Same H H1) {v : V} {d : Dd} (h : DeedAt K H v d) : DeedAt K H1 v d := by
  cases d with
  | wish pl pr o =>
    obtain ⟨a, e, h, h1, h2, h3, h4⟩ := h
    exact ⟨a, e, k _ _ h, h1.same k, h2.same k, h3.same k h2.there, h4⟩
  | free pl =>
    obtain ⟨a, e, h, h1⟩ := h
    exact ⟨a, e, k _ _ h, h1.same k⟩
  | len pl =>
    obtain ⟨a, e, h, h1⟩ := h
    exact ⟨a, e, k _ _ h, h1.same k⟩
  | echo dl t o =>
    obtain ⟨a, e, h, h1, h2, h3⟩ := h
    exact ⟨a, e, k _ _ h, h1.same k, h2.same k, h3⟩
  | drop pl =>
    obtain ⟨a, e, h, h1⟩ := h
    exact ⟨a, e, k _ _ h, h1.same k⟩
theorem DeedAt.deed {K : PySem.W.Frag} {H : Hp} {v : V} {d : Dd} (h : DeedAt K H v d) : ∃ a x rest, v = .ref a ∧ H a = some (.tup (.str x :: rest)) ∧ (x, (rest.length : Int)) ∈ things := by
  cases d with
  | wish pl pr o => obtain ⟨a, e, h, _⟩ := h; exact ⟨a, _, _, e, h, by simp [things]⟩
  | free pl => obtain ⟨a, e, h, _⟩ := h; exact ⟨a, _, _, e, h, by simp [things]⟩
  | len pl => obtain ⟨a, e, h, _⟩ := h; exact ⟨a, _, _, e, h, by simp [things]⟩
  | echo dl t o => obtain ⟨a, e, h, _⟩ := h; exact ⟨a, _, _, e, h, by simp [things]⟩
  | drop pl => obtain ⟨a, e, h, _⟩ := h; exact ⟨a, _, _, e, h, by simp [things]⟩
def okD (s : Sg) : Dd → Bool
  | .wish pl _ o => isI pl (some 0) (some (s.n - 1)) && vPr s.k o
  | .free pl => isI pl (some 0) (some (s.n - 1))
  | .len l => lenOk s l
  | .echo dl _ o => echoesOk s.k s.n (s.es.map vE ++ [(dl, o)])
  | .drop i => isI i (some 0) (some ((s.es.length : Int) - 1))
def sgD (s : Sg) : Dd → Sg
  | .len l => ⟨s.k, dI l, s.es⟩
  | .echo dl _ (some R) => ⟨s.k, s.n, s.es ++ [(dI dl, R)]⟩
  | .drop i => ⟨s.k, s.n, s.es.eraseIdx (dI i).toNat⟩
  | _ => s
def wD (W : Int → Option V) : Dd → Int → Option V
  | .wish pl pr _ => putW W (dI pl) pr
  | .free pl => filW (neP (dI pl)) W
  | .len l => filW (ltP (dI l)) W
  | _ => W
section
variable {P : Program} {w : World} {K : PySem.W.Frag} {mg : Str → Option Value} {base : Heap}
theorem bnd_state_after : BindN "state_after" "state_after" s_state_after ["state", "deed"] := fun _ _ _ _ _ _ us hl => match us, hl with | [_, _], _ => rfl
theorem sc_state_after : FnScope ["state", "deed", "song", "wishes"] ["state", "deed"] (defScope s_state_after) := ⟨rfl, rfl, rfl, by decide +kernel, rfl, by decide +kernel, by decide +kernel⟩
def pStateAfter (K : PySem.W.Frag) (v dv : V) (H : Hp) (Q : VK) (E : XK) : Prop := ∃ s W d, StP K H v s W ∧ OkSg s ∧ InW s.n W ∧ DeedAt K H dv d ∧ GivesSt K H Q E (okD s d) (sgD s d) (wD W d)
theorem state_after (T : Top2 w K mg) : Clb P w K mg base (L2N.CX P w) 9 "state_after" (sp2 (pStateAfter K)) := by
  obtain ⟨fd, F⟩ := T.d_state_after
  refine Clb.of T.g_state_after F (fn2 F sc_state_after bnd_state_after fun cdv A outer s0 H v dv Q E hr h => ?_)
  obtain ⟨s, W, d, ⟨p, sv, wv, rfl, hp, hs, hw⟩, ok, hin, hd, q⟩ := h
  refine ⟨_, pss_cons (ps_asg (pv 0) (pg_tup rfl (pgs_cons (pg_name (i := 2) sc_state_after.nd rfl (.inl rfl)) (pgs_cons (pg_name (i := 3) sc_state_after.nd rfl (.inl rfl)) pgs_nil))))
    (pss_one (ps_match (pe_ix ix_tup (pv 1) pe_int (fun _ _ => rfl))
      (pms_str (pss_one (ps_ret (pe_f (with_wish T.toTop) (hr.mono (by decide)) (L2N.passes_call (L2N.takes_of rfl rfl rfl rfl) (fun _ _ _ _ z => z)) (pa_cons (pv 2) (pa_cons (pv 3) (pa_cons (pe_ix ix_tup (pv 1) pe_int (fun _ _ => rfl)) (pa_cons (pe_ix ix_tup (pv 1) pe_int (fun _ _ => rfl)) pa_nil)))))))
      (pms_str (pss_one (ps_ret (pe_f (without_wish T.toTop) (hr.mono (by decide)) (L2N.passes_call (L2N.takes_of rfl rfl rfl rfl) (fun _ _ _ _ z => z)) (pa_cons (pv 2) (pa_cons (pv 3) (pa_cons (pe_ix ix_tup (pv 1) pe_int (fun _ _ => rfl)) pa_nil))))))
      (pms_str (pss_one (ps_ret (pe_f (lengthened T) hr (L2N.passes_call (L2N.takes_of rfl rfl rfl rfl) (fun _ _ _ _ z => z)) (pa_cons (pv 2) (pa_cons (pv 3) (pa_cons (pe_ix ix_tup (pv 1) pe_int (fun _ _ => rfl)) pa_nil))))))
      (pms_str (pss_one (ps_ret (pe_tup (pa_cons (pe_m T.c_Song (Song_with_echo T.toTop) (hr.mono (by decide)) (L2N.passes_call (L2N.takes_of rfl rfl rfl rfl) (fun _ _ _ _ z => z)) (pv 2) (pa_cons (pe_ix ix_tup (pv 1) pe_int (fun _ _ => rfl)) (pa_cons (pe_ix ix_tup (pv 1) pe_int (fun _ _ => rfl)) pa_nil))) (pa_cons (pv 3) pa_nil)))))
      (pms_any (pss_one (ps_ret (pe_tup (pa_cons (pe_m T.c_Song (Song_without_echo T.toTop) (hr.mono (by decide)) (L2N.passes_call (L2N.takes_of rfl rfl rfl rfl) (fun _ _ _ _ z => z)) (pv 2) (pa_cons (pe_ix ix_tup (pv 1) pe_int (fun _ _ => rfl)) pa_nil)) (pa_cons (pv 3) pa_nil)))))))))))), ?_⟩
  refine ⟨_, rfl, p, _, rfl, SqT.of hp, rfl, _, _, rfl, _, _, rfl, ⟨rfl, ?_⟩⟩
  cases d with
  | wish pl pr o =>
    obtain ⟨a, rfl, ha, h1, h2, h3, h4⟩ := hd
    refine ⟨_, rfl, a, _, 0, _, rfl, rfl, SqT.of ha, rfl, _, rfl, ?_⟩
    rw [if_pos rfl]
    exact ⟨_, rfl, _, rfl, _, rfl, a, _, 1, _, rfl, rfl, SqT.of ha, rfl, _, rfl, a, _, 2, _, rfl, rfl, SqT.of ha, rfl, _, _, _, _, rfl, s, W, o, hs, ok, hw, hin, h1, h2, h3, q⟩
  | free pl =>
    obtain ⟨a, rfl, ha, h1⟩ := hd
    refine ⟨_, rfl, a, _, 0, _, rfl, rfl, SqT.of ha, rfl, _, rfl, ?_⟩
    rw [if_neg (by decide +kernel), if_pos rfl]
    exact ⟨_, rfl, _, rfl, _, rfl, a, _, 1, _, rfl, rfl, SqT.of ha, rfl, _, _, _, rfl, s, W, hs, ok, hw, hin, h1, q⟩
  | len pl =>
    obtain ⟨a, rfl, ha, h1⟩ := hd
    refine ⟨_, rfl, a, _, 0, _, rfl, rfl, SqT.of ha, rfl, _, rfl, ?_⟩
    rw [if_neg (by decide +kernel), if_neg (by decide +kernel), if_pos rfl]
    exact ⟨_, rfl, _, rfl, _, rfl, a, _, 1, _, rfl, rfl, SqT.of ha, rfl, _, _, _, rfl, s, W, hs, ok, hw, hin, h1, q⟩
  | echo dl t o =>
    obtain ⟨a, rfl, ha, h1, h2, h3⟩ := hd
    refine ⟨_, rfl, a, _, 0, _, rfl, rfl, SqT.of ha, rfl, _, rfl, ?_⟩
    rw [if_neg (by decide +kernel), if_neg (by decide +kernel), if_neg (by decide +kernel), if_pos rfl]
    obtain ⟨b, dx, c, xs, rfl, hb, hc, pr⟩ := id hs
    refine ⟨_, rfl, b, dx, _, rfl, hb, lk3n (by decide +kernel) (by decide +kernel) (by decide +kernel), _, rfl, a, _, 1, _, rfl, rfl, SqT.of ha, rfl, _, rfl, a, _, 2, _, rfl, rfl, SqT.of ha, rfl, _, _, _, rfl, s, o, hs, ok, h1, h2, ?_⟩
    cases hk : echoesOk s.k s.n (s.es.map vE ++ [(dl, o)]) with
    | false => exact iteF (q.no hk)
    | true =>
      have q2 := q.yes hk
      refine iteT fun H1 v' d R e1 e2 s1 hv => ⟨_, rfl, by show 2 ≤ sizeLine; decide, fun t ht => ?_⟩
      subst e1 e2
      have s2 := Same.snd (o := .tup [v', wv]) s1 ht
      exact q2 _ _ s2 ⟨t, v', wv, rfl, upd_same, hv.same (Same.new ht), hw.same s2⟩
  | drop pl =>
    obtain ⟨a, rfl, ha, h1⟩ := hd
    refine ⟨_, rfl, a, _, 0, _, rfl, rfl, SqT.of ha, rfl, _, rfl, ?_⟩
    rw [if_neg (by decide +kernel), if_neg (by decide +kernel), if_neg (by decide +kernel), if_neg (by decide +kernel)]
    obtain ⟨b, dx, c, xs, rfl, hb, hc, pr⟩ := id hs
    refine ⟨_, rfl, b, dx, _, rfl, hb, lk3n (by decide +kernel) (by decide +kernel) (by decide +kernel), _, rfl, a, _, 1, _, rfl, rfl, SqT.of ha, rfl, _, _, rfl, s, hs, ok, h1, ?_⟩
    cases hk : isI pl (some 0) (some ((s.es.length : Int) - 1)) with
    | false => exact iteF (q.no hk)
    | true =>
      have q2 := q.yes hk
      refine iteT fun H1 v' s1 hv => ⟨_, rfl, by show 2 ≤ sizeLine; decide, fun t ht => ?_⟩
      have s2 := Same.snd (o := .tup [v', wv]) s1 ht
      exact q2 _ _ s2 ⟨t, v', wv, rfl, upd_same, hv.same (Same.new ht), hw.same s2⟩
end
end Ef

set_option Elab.async false
set_option linter.all false
set_option maxRecDepth 100000
set_option maxHeartbeats 4000000
/-! except (A, B, ..): a suite that raises; every exception of the body is named -/
namespace PySem
namespace EfT
open PySem.W
/-- is it one of them -/
theorem exm_list {M : Model} {K : Frag} {h : Heap} {cls : Value} {tp e : Addr} {cs : List Value} {b : Bool} (X : K.In h) (LT : Looks M h (typeOf (.ref e)) cls) (hp : h.get? tp = some { cls := .type "tuple", data := .seq cs.toArray }) (hx : exmAny K cls cs = some b) :
    Looks M h (excMatches (.ref e) (.ref tp)) b := by
  intro A Q E s k q
  have LT0 : Looks M h (isInstance (.ref tp) (.type "tuple")) true := ((Looks.ld hp).andThen .now).andThen (Looks.of_pure isSubtype_tuple_tuple)
  have all : ∀ (l : List Value) (b : Bool), exmAny K cls l = some b → ∀ c ∈ l, ∃ v, exmOne K cls c = some v := by
    intro l
    induction l with
    | nil => intro b _ c hc; cases hc
    | cons c r ih =>
      intro b hb c' hc
      obtain ⟨b1, d1, h1, h2, _⟩ := exmAny_cons hb
      rcases List.mem_cons.mp hc with rfl | hc
      · exact ⟨b1, h1⟩
      · exact ih d1 h2 c' hc
  unfold excMatches
  refine wpAny_bind ((LT0.keeps k).here ?_)
  dsimp only
  rw [if_pos rfl]
  refine wpAny_bind (wpAny_seqItems (k _ _ hp) rfl ?_)
  refine wpAny_bind (wpAny_pure ?_)
  dsimp only [Option.getD_some, Option.getD]
  refine wpAny_bind (wpAny_forIn_list _ (fun rest _ s' => s' = s ∧ ∀ c ∈ rest, c ∈ cs) _ ?_ ?_ _ _ ⟨rfl, fun c hc => hc⟩)
  · rintro c rest u s' ⟨rfl, hm⟩
    obtain ⟨v, hv⟩ := all cs b hx c (hm c List.mem_cons_self)
    obtain ⟨e1, _⟩ := exm_cls (M := M) X hv
    refine wpAny_bind ((e1.keeps k).here ?_)
    simp only [Bool.not_true, Bool.false_eq_true, if_false]
    exact wpAny_pure ⟨rfl, fun c hc => hm c (List.mem_cons_of_mem _ hc)⟩
  · rintro u s' ⟨rfl, _⟩
    refine wpAny_bind ((LT.keeps k).here ?_)
    refine wpAny_bind (wpAny_mono (wpAny_forIn_list _ (fun rest st s'' => st.1 = none ∧ s'' = s' ∧ exmAny K cls rest = some b) (fun st s'' => s'' = s' ∧ (st.1 = none ∧ b = false ∨ st.1 = some b)) ?_ ?_ _ _ ⟨rfl, rfl, hx⟩) (fun st s'' h => ?_) fun _ _ x => x)
    · rintro c rest st s'' ⟨h1, rfl, h2⟩
      obtain ⟨b1, d1, g1, g2, g3⟩ := exmAny_cons h2
      obtain ⟨_, S1⟩ := exm_cls (M := M) X g1
      refine wpAny_bind ((S1.keeps k).here ?_)
      cases b1 with
      | true =>
        simp only [if_true]
        exact wpAny_pure ⟨rfl, .inr (by rw [g3]; rfl)⟩
      | false =>
        simp only [Bool.false_eq_true, if_false]
        exact wpAny_pure ⟨rfl, rfl, by rw [g2, g3]; rfl⟩
    · rintro st s'' ⟨h1, rfl, h2⟩
      exact ⟨rfl, .inl ⟨h1, (Option.some.inj h2).symm⟩⟩
    · obtain ⟨r, _⟩ := st
      obtain ⟨rfl, h | h⟩ := h
      · obtain ⟨h1, rfl⟩ := h
        obtain rfl : r = none := h1
        exact wpAny_pure q
      · obtain rfl : r = some b := h
        exact wpAny_pure q
end EfT
end PySem
namespace Ef
open PySem PySem.Spec PyProof.Rows L2 L2H HotX He
theorem flying_keeps {h h' B : Heap} {l : List Env} {a : Addr} {Z : Obj → Prop} (k : ∀ b o, h.get? b = some o → h'.get? b = some o) (x : PySem.HandSPX.FlyingZ B l a Z h) : PySem.HandSPX.FlyingZ B l a Z h' := by
  obtain ⟨k1, k2, k3, oe, vs, T, oT, ts, he, hz, hd, h1, hT, hne, hg, r⟩ := x
  exact ⟨fun b o e => k _ _ (k1 b o e), k2, Heap.FunFrames.of_keeps (fun b o e _ => ⟨o, k b o e, rfl⟩) k3, oe, vs, T, oT, ts, k _ _ he, hz, hd, h1, hT, hne, k _ _ hg, r⟩
/-- names of the module, their values -/
inductive NamesL (X : Cx) : List Expr → List Value → Prop
  | nil : NamesL X [] []
  | cons {x : Str} {c : Value} {np : Pos} {es : List Expr} {cs : List Value} (hc : Names X x c) (r : NamesL X es cs) : NamesL X (.Name x np :: es) (c :: cs)
theorem namesL_run {X : Cx} {es : List Expr} {cs : List Value} (h : NamesL X es cs) {a : Addr} {pn pins : List (Addr × Obj)} {σ : L2.St} {H : Hp} {s : Shared} {pos : Pos} (S : Inv (X.suite a pn) pins σ H s) {Q : List Value → Shared → Prop} {E : Value → Shared → Prop} (q : Q cs s) :
    wpAny (model X.prog X.w) (X.A.mark (some (.ref a))) (spliced (backTo pos (starEach es X.env))) Q E s := by
  induction h generalizing Q with
  | nil => exact Calls.spliced_nil q
  | @cons x c np es cs hc r ih =>
    have test : ∀ {Q : Value → Shared → Prop} {E : Value → Shared → Prop}, Q c s → wpAny (model X.prog X.w) (X.A.mark (some (.ref a))) (eval (.Name x np) X.env) Q E s := fun {Q E} q => by
      obtain ⟨hg, hdbg, hm | ⟨hm, hv, hnn⟩⟩ := hc
      · exact ld_glob (X := X.suite a pn) S hg hm q hdbg
      · exact ld_blt (X := X.suite a pn) S hg hm hv q hnn hdbg
    exact Calls.spliced_cons (test (ih q))
def wTup (K : PySem.W.Frag) (cs : List Value) (ts : Addr → Value → Option Addr → TS) (D : Ends) : WX := fun cls d σ H => PySem.W.exmAny K cls cs = some true ∧ ∀ a, H a = none → ts a cls d D σ H
theorem ps_try_tup {X : Cx} {es : List Expr} {cs : List Value} {body suite : List Stmt} {b₀ : Stmt} {kk : Nat} {tp pos pos' : Pos} {tb : WX → TS} {ts : Addr → Value → Option Addr → TS} {Wout : WX}
    (hs : X.stack = X.env :: X.outer) (hf : X.env.frame = some X.env.locals) (hc : NamesL X es cs) (hl : cs.length ≤ sizeLine) (hpa : ∀ hd : Option Value, PassesOwnAt (model X.prog X.w) (X.A.mark hd) X.A X.env X.xe) (tk : L2.Takes X Wout)
    (hb : ∀ (W : WX) (pn : List (Addr × Obj)) (xe : Value → Shared → Prop), L2N.Takes (X.tr pn xe) W → PassesOwn (model X.prog X.w) X.A X.env xe → PSs (X.tr pn xe) body (tb W))
    (hsu : ∀ (a : Addr) (oe : Obj) (cls : Value) (d : Option Addr) (pn : List (Addr × Obj)), L2N.Zn cls d oe → (∃ vs, oe.data = .fields vs) → L2.Takes (suiteX X a ((a, oe) :: pn)) Wout → HotC (suiteX X a ((a, oe) :: pn)) →
      PSs (suiteX X a ((a, oe) :: pn)) (b₀ :: suite) (ts a cls d)) :
    PS X (.Try body [.ExceptHandler (some (.Tuple es kk tp)) none (b₀ :: suite) pos'] [] [] pos) (fun D σ H => tb (wTup X.K cs ts D) D σ H) := by
  refine ⟨fun pins s σ H D I h => ?_⟩
  have ok := I.ok
  have hfr : X.A.frames = some (X.env :: X.outer) := by rw [ok.frames, hs]
  refine wpAny_Try_except ?_
  refine wpAny_mono ((hb (wTup X.K cs ts D) (X.pn ++ pins) (fun e s₁ => wpAny (model X.prog X.w) X.A (noteFrame e X.env) (fun _ s₂ => wpAny (model X.prog X.w) X.A (setFlight e none) (fun _ s₃ =>
    wpAny (model X.prog X.w) X.A (handleBy e X.env [.ExceptHandler (some (.Tuple es kk tp)) none (b₀ :: suite) pos']) (SP X pins D) X.xe s₃) X.xe s₂) X.xe s₁) (fun u s' xx => ?_) PassesOwn.looking).run [] s σ H D (I.toTry _) h) (fun f s1 hsp => ?_) (fun e s1 he => he)
  · obtain ⟨a, B, sI, pins', σ', H', cls, d, rfl, J', nb, up, sky, na, os, ag, hm, hts⟩ := xx
    have J : Inv X pins σ' H' sI := J'.ofTry ok
    have sky' : Sky B (X.env :: X.outer) a (L2N.Zn cls d) X.env.locals s'.heap := by
      rw [← hs]
      exact sky
    show wpAny (model X.prog X.w) X.A (noteFrame (.ref a) X.env) _ _ _
    refine L2N.Sky.land L2N.Zn.steady hfr hf sky' fun h3 fl3 up3 => ?_
    have J3 : Inv X pins σ' H' { s' with heap := h3 } := J.landed nb fl3.1 (up.trans up3) os ag
    obtain ⟨oe3, vs3, he3, hz3, hd3⟩ := fl3.there
    have nfr : a ∉ frs (X.env :: X.outer) := fun hmm => by
      obtain ⟨_, o', e', hnf⟩ := Heap.FunFrames.mem fl3.2.2.1 hmm
      rw [he3] at e'
      cases e'
      exact hnf _ hd3
    have nL : a ≠ X.env.locals := fun z => nfr (List.mem_filterMap.mpr ⟨X.env, List.mem_cons_self, by rw [hf, z]⟩)
    have nF : a ∉ X.fs := fun hmm => by
      obtain ⟨e, he, q⟩ := List.mem_filterMap.mp hmm
      exact nfr (List.mem_filterMap.mpr ⟨e, List.mem_cons_of_mem _ he, q⟩)
    have S3 := J3.suite he3 hd3 na nL nF
    refine wpAny_handleBy_cons (codeAny_handlers_test ?_) (by intro q; cases q)
    refine wpAny_Tuple_spliced (namesL_run hc S3 ⟨hl, ?_⟩)
    have kp : ∀ b o, h3.get? b = some o → (h3.push ({ cls := .type "tuple", data := .seq cs.toArray } : Obj)).get? b = some o := fun b o e => Heap.get?_push_of_some _ e
    have fl3' := flying_keeps kp fl3
    have up3' : s'.heap.UpToSlots (h3.push ({ cls := .type "tuple", data := .seq cs.toArray } : Obj)) := up3.trans (Heap.UpToSlots.of_keeps kp)
    have LT : PySem.W.Looks (model X.prog X.w) (h3.push ({ cls := .type "tuple", data := .seq cs.toArray } : Obj)) (typeOf (.ref a)) cls := fun A Q E s k q => wpAny_typeOf_ref (k _ _ (kp _ _ he3)) (by rw [hz3.1]; exact q)
    have LM := PySem.EfT.exm_list (M := model X.prog X.w) (PySem.W.Frag.In.keeps J3.kIn kp) LT (Heap.get?_push_size h3 rfl) hm
    refine LM.here ?_
    refine codeAny_handlers_suite ?_
    refine PySem.HandSPX.lands_againZ fl3' fun h4 fl4 up4 => ?_
    have J4 : Inv X pins σ' H' { s' with heap := h4 } := J.landed nb fl4.1 ((up.trans up3').trans up4) os ag
    obtain ⟨oe4, vs4, he4, hz4, hd4⟩ := fl4.there
    have S4 := J4.suite he4 hd4 na nL nF
    have tkS : L2.Takes (suiteX X a ((a, oe4) :: (X.pn ++ pins))) Wout := fun u2 s2 x2 => by
      obtain ⟨a2, B2, sI2, pn2, σ2, H2, cls2, d2, e2, I2, nb2, up2, sky2, na2, os2, ag2, w2⟩ := x2
      exact tk u2 s2 ⟨a2, B2, sI2, pins, σ2, H2, cls2, d2, e2, unsuiteX I2 ok, nb2, up2, sky2, na2, os2, ag2, w2⟩
    have hot : HotC (suiteX X a ((a, oe4) :: (X.pn ++ pins))) := ⟨(a, oe4), ⟨rfl, vs4, hd4, hz4.2.2 vs4 hd4⟩, List.mem_cons_self⟩
    refine wpAny_mono ((hsu a oe4 cls d (X.pn ++ pins) hz4 ⟨_, hd4⟩ tkS hot).run [] _ _ H' _ (suiteX_of S4) (hts a na)) (fun f s6 hsp => ?_) (fun e6 s6 z => hpa (some (.ref a)) e6 s6 z)
    cases f with
    | next =>
      obtain ⟨σ6, H6, S6, q6⟩ := hsp
      exact ⟨_, _, unsuiteX S6 ok, q6⟩
    | brk =>
      obtain ⟨σ6, H6, S6, q6⟩ := hsp
      exact ⟨_, _, unsuiteX S6 ok, q6⟩
    | cont =>
      obtain ⟨σ6, H6, S6, q6⟩ := hsp
      exact ⟨_, _, unsuiteX S6 ok, q6⟩
    | ret u =>
      obtain ⟨v6, σ6, H6, S6, r6, q6⟩ := hsp
      exact ⟨_, _, _, unsuiteX S6 ok, r6, q6⟩
  · cases f with
    | next =>
      obtain ⟨σ', H', J', q⟩ := hsp
      exact wpAny_execs_nil ⟨σ', H', J'.ofTry ok, q⟩
    | brk =>
      obtain ⟨σ', H', J', q⟩ := hsp
      exact ⟨σ', H', J'.ofTry ok, q⟩
    | cont =>
      obtain ⟨σ', H', J', q⟩ := hsp
      exact ⟨σ', H', J'.ofTry ok, q⟩
    | ret u =>
      obtain ⟨v, σ', H', J', r, q⟩ := hsp
      exact ⟨v, σ', H', J'.ofTry ok, r, q⟩
end Ef

set_option Elab.async false
set_option linter.all false
set_option maxRecDepth 100000
set_option maxHeartbeats 4000000
/-! raise InvalidDeed(index) from None, in an except suite -/
namespace Ef
open PySem PySem.Spec PyProof.Rows L2 L2H HotX He PySem.EfX
structure XclH (P : Program) (w : World) (K : PySem.W.Frag) (mg : Str → Option Value) (base : Heap) (k : Nat) (x : Str) (C : Addr) (f : Str) : Prop where
  ex : ∃ B newId initId bm fI fd, Oxb K C B newId initId bm ∧ PySem.W.findIn K (.ref C) "__init__" = some (some (.ref fI)) ∧ PySem.W.typeIn K (.ref fI) = some (.type "function") ∧ FnH P w K mg base CX0 k fI fd (("self" : Str) :: [f]) (sp2 (pXin1 C f)) ∧ Binds K fd (("self" : Str) :: [f]) [] ∧ mg x = some (.ref C)
section
variable {P : Program} {w : World} {K : PySem.W.Frag} {mg : Str → Option Value} {base : Heap}
theorem bnd_InvalidDeed : BindN "__init__" "InvalidDeed.__init__" s_InvalidDeed_init ["self", "index"] := fun _ _ _ _ _ _ us hl => match us, hl with | [_, _], _ => rfl
theorem sc_InvalidDeed : FnScope ["self", "index"] ["self", "index"] (defScope s_InvalidDeed_init) := ⟨rfl, rfl, rfl, by decide +kernel, rfl, by decide +kernel, by decide +kernel⟩
theorem xclH_InvalidDeed (T : Top2 w K mg) : XclH P w K mg base 1 "InvalidDeed" (ga K "InvalidDeed") "index" := by
  obtain ⟨fd, F⟩ := T.d_InvalidDeed_init
  refine ⟨_, _, _, _, _, fd, T.x_InvalidDeed, T.xi_InvalidDeed, T.xt_InvalidDeed, ?_, F.bindsN bnd_InvalidDeed, T.xg_InvalidDeed⟩
  obtain ⟨oc, od, dV, kV, doc, pm, an, cdv, ct, osl, rfl, lk, hcd, _, _⟩ := F.ex
  refine fn_ofH lk hcd sc_InvalidDeed len2 fun A outer s H vs Q E p hot hr h => ?_
  obtain ⟨a, v, rfl, e, rfl, he, q⟩ := h
  refine ⟨_, pss_cons (ps_expr (pe_bin (newId := "ValueError.__new__") (bm := [.type "ValueError", .type "Exception", .type "BaseException", .type "object"]) T.bi_ValueError rfl T.b_ValueError (pa_cons (pv 0) (pa_cons pe_str pa_nil)))) (pss_one (ps_fst (pv 0) (pv 1))), ?_⟩
  exact ⟨_, rfl, e, _, _, rfl, (by decide), T.x_InvalidDeed, he, _, rfl, _, rfl, e, _, _, _, _, _, rfl, T.x_InvalidDeed, T.xf_InvalidDeed, he, q⟩
end
section
variable {X : Cx} {x f : Str} {C : Addr} {k : Nat} {e : Expr} {ta : TA} {p pos : Pos}
theorem pmk1H (h : XclH X.prog X.w X.K X.mg X.base k x C f) (hr : RoomH (k + 1) X.A) (hc : HotC X) (ha : PA X [e] ta) (hg : Gl X x := by rfl) (hdb : (x == ("__debug__" : Str)) = false := by decide)
    (he : starEach (e :: []) X.env = (false, eval e X.env) :: starEach [] X.env := by rfl) (hpl : (backTo pos (starEach [] X.env)).any (·.1) = false := by rfl) :
    PMk5 X (.Call (.Name x p) [e] [] pos) (tMk1 C f ta) := by
  obtain ⟨B, n1, n2, bm, fI, fd, T, iC, tI, F, hb, hm⟩ := h.ex
  intro pins s σ H Q I h
  obtain ⟨nm, q, N, bs, sn, sub, ab, col, dd, k0, k1, k2, k3, k5, hC⟩ := T.lk
  obtain ⟨pn, hot, hpn⟩ := hc
  refine wpAny_Call_Name_kw (ld_glob I hg hm ?_ hdb)
  refine PySem.W.callWith_K (h₀ := X.base) I.ok.mod.kin T.kC (thn (ha.run pos pins s σ H _ I h) fun us s1 hh => ?_) he hpl
  obtain ⟨vs, H1, I1, r1, v, ev, q1⟩ := hh
  subst ev
  refine ⟨I1.kIn, ?_⟩
  show wpAny _ _ (call (.ref C) us) _ _ _
  obtain ⟨hp, g, dr, tk, os⟩ := s1
  have big : hp.objs.size ≤ hp.objs.size + 1 := Nat.le_succ _
  have free : H1 (hp.objs.size + 1) = none := I1.hok.fresh big
  have I2 : Inv X pins σ (upd H1 (hp.objs.size + 1) (exo (hp.objs.size + 1) C none)) ⟨two hp us C, g, dr, tk, os⟩ :=
    I1.laid (t' := tk) (a := hp.objs.size + 1) (o := exo (hp.objs.size + 1) C none) (h' := two hp us C) (fun b o z => two_old z) big (exo_ok two_new)
  have r2 : Vals (V.ref (hp.objs.size + 1) :: [v]) (Value.ref (hp.objs.size + 1) :: us) := .cons rfl r1
  have hus : us.length ≤ sizeLine := by
    rw [← Paired.length r1, sizeLine_eq]
    show 1 ≤ 16777216
    decide
  have hl : (Value.ref (hp.objs.size + 1) :: us ++ []).length = ((["self"] : List Str) ++ [f]).length := by
    rw [List.append_nil, ← r2.length]
    rfl
  have b2 := hb _ (Value.ref (hp.objs.size + 1) :: us) I2.kIn hl
  rw [List.append_nil] at b2
  have P1 := I2.pin pn (List.mem_append_left _ hpn)
  have hpin : PinOk X.stack (upd H1 (hp.objs.size + 1) (exo (hp.objs.size + 1) C none)) ⟨two hp us C, g, dr, tk, os⟩ pn :=
    ⟨P1.1, P1.2.1, fun hmm => (List.mem_cons.mp (I2.stkSub pn.1 hmm)).elim P1.2.2.1 P1.2.2.2.1, P1.2.2.2.2⟩
  refine wpAny_call (PySem.HandSPX.call_own T.fb (fun _ => rfl) (I1.kIn _ _ hC) (PySem.W.looks_findIn I1.kIn iC) (fun self => PySem.W.bind_fn I1.kIn self tI) hus
    (codeAny_mono (F.run _ X.stack _ _ ⟨Value.ref (hp.objs.size + 1) :: us, []⟩ (Value.ref (hp.objs.size + 1) :: us) _ (fun v' H2 => v' = V.non ∧ ∃ d, H1 d = none ∧ d ≠ hp.objs.size + 1 ∧ H2 = upd (upd (upd H1 (hp.objs.size + 1) (exo (hp.objs.size + 1) C none)) d (exd d [(f, v)])) (hp.objs.size + 1) (exo (hp.objs.size + 1) C (some d))) (fun _ _ _ => False) pn
      (hr.make C us []) ⟨hot.1, hot.2⟩ hpin (I2.env0.make C us []) b2 r2 ⟨_, _, rfl, _, rfl, upd_same, fun dx n ne => ⟨rfl, dx, by rw [upd_ne ne] at n; exact n, ne, rfl⟩⟩) fun r s2 hq => ?_))
  cases r with
  | error er => exact False.elim hq
  | ok fl =>
    cases fl with
    | next => exact False.elim hq
    | brk => exact False.elim hq
    | cont => exact False.elim hq
    | ret u =>
      obtain ⟨v', H2, os2, bare2, un2, hok2, rv, ev, d, hd, dne, eH⟩ := hq
      subst ev
      obtain ⟨h2, g2, d2, t2, os'⟩ := s2
      have ea : H2 (hp.objs.size + 1) = some (exo (hp.objs.size + 1) C (some d)) := by rw [eH, upd_same]
      have ed : H2 d = some (exd d [(f, v)]) := by rw [eH, upd_ne dne, upd_same]
      have eq : upd (del H2 (hp.objs.size + 1)) d (.xd [(f, v)]) = upd H1 d (.xd [(f, v)]) := funext fun b => by
        by_cases hb : b = d
        · rw [hb, upd_same, upd_same]
        · rw [upd_ne hb, upd_ne hb]
          by_cases hb2 : b = hp.objs.size + 1
          · rw [hb2, del_same, free]
          · rw [del_ne hb2, eH, upd_ne hb2, upd_ne hb, upd_ne hb2]
      obtain ⟨t0, G, J, kG, ge, hoe, na⟩ := mk_end0 (d2 := d2) (t2 := t2) I1 big (fun b o z => two_old z) un2 hok2 os2 bare2 ea ed hd
      refine ⟨rv, ⟨hp.objs.size + 1, _, _, ⟨G, g2, d2, t2, os'⟩, _, .ref C, some d, rfl, J, kG, ge, hoe, ⟨rfl, rfl, fun vs hv => by cases hv; rfl⟩, rfl, rfl, na, rfl, bare2, raises_own T.exC T.tyC, (by rw [eq]; exact q1 d hd)⟩, fun a oe vs ea2 hg2 hd2 => ?_⟩
      cases ea2
      have hg3 : h2.get? (hp.objs.size + 1) = some oe := hg2
      rw [hoe] at hg3
      cases hg3
      cases hd2
      show (4 : Nat) < 6
      decide
end
end Ef

set_option Elab.async false
set_option linter.all false
set_option maxRecDepth 100000
set_option maxHeartbeats 4000000
namespace Ef
open PySem PySem.Spec PyProof.Rows L2 He
/-! ### what stays as deeds are done, plain -/
def TabD : Dd → Prop
  | .echo _ _ o => ∀ R, o = some R → ∃ n, OkR n R
  | _ => True
theorem okD_sg {s : Sg} (ok : OkSg s) {d : Dd} (ht : TabD d) (h : okD s d = true) : OkSg (sgD s d) := by
  cases d with
  | wish pl pr o => exact ok
  | free pl => exact ok
  | len l =>
    unfold okD lenOk at h
    rw [Bool.and_eq_true, Bool.and_eq_true] at h
    obtain ⟨h1, h2, h3⟩ := h
    obtain ⟨i, rfl, e2, e3⟩ := isI_int h1
    have h2 : i ≤ 40 := of_decide_eq_true h2
    have e2 : 1 ≤ i := by simpa [loB] using e2
    rw [okEs_iff ok] at h3
    refine ⟨ok.k1, ok.k5, e2, h2, ok.l2, ok.es, fun hl => ?_⟩
    have hl : s.es.length = 2 := hl
    show dI (.int i) ≤ (s.es.map (·.1)).sum
    simpa [hl] using h3
  | echo dl t o =>
    have h : echoesOk s.k s.n (s.es.map vE ++ [(dl, o)]) = true := h
    have hv : vEcho s.k (dl, o) = true := by
      unfold echoesOk at h
      simp only [Bool.and_eq_true, List.all_append] at h
      simpa using h.1.2.2
    obtain ⟨d1, d2, d3⟩ := vEcho_int hv
    cases o with
    | none => simp [vEcho] at hv
    | some R =>
      obtain ⟨n, hR⟩ := ht R rfl
      have hk : R.length = s.k := by
        unfold vEcho at hv
        rw [Bool.and_eq_true] at hv
        exact of_decide_eq_true hv.2
      have hn : n = s.k := by rw [← hk]; exact hR.len.symm
      subst hn
      unfold echoesOk at h
      rw [Bool.and_eq_true, Bool.and_eq_true] at h
      obtain ⟨⟨h1, h2⟩, h3⟩ := h
      have h1 : (s.es.map vE ++ [(dl, some R)]).length ≤ 2 := of_decide_eq_true h1
      rw [List.length_append, List.length_map, List.length_singleton] at h1
      refine ⟨ok.k1, ok.k5, ok.n1, ok.n40, ?_, ?_, fun hl => ?_⟩
      · show (s.es ++ [(dI dl, R)]).length ≤ 2
        rw [List.length_append, List.length_singleton]
        exact h1
      · intro e he
        have he : e ∈ s.es ++ [(dI dl, R)] := he
        rcases List.mem_append.mp he with he | he
        · exact ok.es e he
        · rw [List.mem_singleton.mp he]
          exact ⟨d2, d3, hR⟩
      · have hl : (s.es ++ [(dI dl, R)]).length = 2 := hl
        rw [List.length_append, List.length_singleton] at hl
        have e : s.es.map vE ++ [(dl, some R)] = (s.es ++ [(dI dl, R)]).map vE := by
          rw [List.map_append]
          show _ = _ ++ [(V.int (dI dl), some R)]
          rw [← d1]
        rw [e, reach_map] at h3
        have h4 : ((s.es ++ [(dI dl, R)]).map vE).length = 2 := by
          rw [List.length_map, List.length_append, List.length_singleton]
          exact hl
        rw [h4] at h3
        show s.n ≤ ((s.es ++ [(dI dl, R)]).map (·.1)).sum
        simpa using h3
  | drop i =>
    have hlen : (s.es.eraseIdx (dI i).toNat).length ≤ 1 := by
      have h : isI i (some 0) (some ((s.es.length : Int) - 1)) = true := h
      obtain ⟨j, rfl, e2, e3⟩ := isI_int h
      have e2 : 0 ≤ j := by simpa [loB] using e2
      have e3 : j ≤ (s.es.length : Int) - 1 := by simpa [hiB] using e3
      rw [List.length_eraseIdx]
      have := ok.l2
      show (if j.toNat < _ then _ else _) ≤ 1
      split <;> omega
    refine ⟨ok.k1, ok.k5, ok.n1, ok.n40, ?_, fun e he => ok.es e (List.mem_of_mem_eraseIdx he), fun hl => ?_⟩
    · show (s.es.eraseIdx (dI i).toNat).length ≤ 2
      omega
    · have hl : (s.es.eraseIdx (dI i).toNat).length = 2 := hl
      omega
theorem okD_in {s : Sg} {W : Int → Option V} (hin : InW s.n W) {d : Dd} (h : okD s d = true) : InW (sgD s d).n (wD W d) := by
  cases d with
  | wish pl pr o =>
    have h : (isI pl (some 0) (some (s.n - 1)) && vPr s.k o) = true := h
    rw [Bool.and_eq_true] at h
    obtain ⟨j, rfl, e2, e3⟩ := isI_int h.1
    have e2 : 0 ≤ j := by simpa [loB] using e2
    have e3 : j ≤ s.n - 1 := by simpa [hiB] using e3
    intro i v hv
    have hv : (if i = j then some pr else W i) = some v := hv
    show 0 ≤ i ∧ i < s.n
    split at hv
    · omega
    · exact hin i v hv
  | free pl =>
    intro i v hv
    have hv : (if neP (dI pl) i = true then W i else none) = some v := hv
    split at hv
    · exact hin i v hv
    · cases hv
  | len l =>
    intro i v hv
    have hv : (if ltP (dI l) i = true then W i else none) = some v := hv
    split at hv
    · rename_i hc
      have := hin i v hv
      exact ⟨this.1, of_decide_eq_true hc⟩
    · cases hv
  | echo dl t o => cases o <;> exact hin
  | drop i => exact hin
/-- one deed after another, till one fails -/
def runD (s : Sg) (W : Int → Option V) : List Dd → Option (Sg × (Int → Option V))
  | [] => some (s, W)
  | d :: r => if okD s d = true then runD (sgD s d) (wD W d) r else none
theorem DeedAt.tabD {K : PySem.W.Frag} {H : Hp} {v : V} {d : Dd} (h : DeedAt K H v d) : TabD d := by
  cases d with
  | echo dl t o => obtain ⟨_, _, _, _, _, h⟩ := h; exact h
  | _ => exact True.intro
/-! ### a book in the heap -/
structure BookAt (K : PySem.W.Frag) (H : Hp) (v : V) (b pa la : Addr) (st : V) (ps ls : List V) : Prop where
  ev : v = .ref b
  ins : ∃ dx, H b = some (.ins (ga K "Book") dx [(("state" : Str), st), (("past" : Str), .ref pa), (("later" : Str), .ref la)])
  pst : H pa = some (.lst ps)
  ltr : H la = some (.lst ls)
  ne : pa ≠ la
theorem BookAt.same {K : PySem.W.Frag} {H H1 : Hp} {v : V} {b pa la : Addr} {st : V} {ps ls : List V} (k : Same H H1) (h : BookAt K H v b pa la st ps ls) : BookAt K H1 v b pa la st ps ls :=
  ⟨h.ev, let ⟨dx, e⟩ := h.ins; ⟨dx, k _ _ e⟩, k _ _ h.pst, k _ _ h.ltr, h.ne⟩
def Fb (b pa la : Addr) (H H' : Hp) : Prop := ∀ c o, H c = some o → c ≠ b → c ≠ pa → c ≠ la → H' c = some o
theorem Fb.fi {K : PySem.W.Frag} {H H' : Hp} {v : V} {b pa la : Addr} {st : V} {ps ls : List V} (h : BookAt K H v b pa la st ps ls) (f : Fb b pa la H H') : Fi K H H' := fun c o e n => by
  obtain ⟨dx, e1⟩ := h.ins
  refine f c o e (fun z => ?_) (fun z => ?_) (fun z => ?_)
  · rw [z, e1] at e
    cases e
    simp [imm] at n
  · rw [z, h.pst] at e
    cases e
    simp [imm] at n
  · rw [z, h.ltr] at e
    cases e
    simp [imm] at n
theorem Fb.same {b pa la : Addr} {H H1 H2 : Hp} (f : Same H H1) (k : Fb b pa la H1 H2) : Fb b pa la H H2 := fun c o e => k c o (f c o e)
theorem Fb.then {b pa la : Addr} {H H1 H2 : Hp} (f : Fb b pa la H H1) (k : Same H1 H2) : Fb b pa la H H2 := fun c o e h1 h2 h3 => k c o (f c o e h1 h2 h3)
theorem WK.imm {K : PySem.W.Frag} {kvs : List (Key × V)} {W : Int → Option V} (h : WK kvs W) : imm K (.dK kvs) = true := by
  obtain ⟨l, e, _⟩ := h.ks
  match kvs, e with
  | [], _ => rfl
  | (.inl i, v) :: r, _ => rfl
  | (.inr x, v) :: r, e =>
    cases l with
    | nil => cases e
    | cons a l => injection e with e1 _; cases e1
theorem AnyD.int {H : Hp} {i : Int} (h : AnyD H (.int i)) (H1 : Hp) : AnyD H1 (.int i) := by
  obtain ⟨b, d, h, s⟩ := h
  cases h
  exact ⟨true, _, .int i, s⟩
theorem SongAt.fi {w : World} {K : PySem.W.Frag} {mg : Str → Option Value} (T : Top2 w K mg) {H H1 : Hp} (k : Fi K H H1) {v : V} {s : Sg} (h : SongAt K H v s) : SongAt K H1 v s := by
  obtain ⟨a, dx, c, xs, e, h1, h2, p⟩ := h
  refine ⟨a, dx, c, xs, e, k _ _ h1 (by simp [imm, T.ne_SB]), k _ _ h2 rfl, ?_⟩
  have all : ∀ (xs : List V) (es : List (Int × Rw)), Paired (EchoV K H) xs (es.map vE) → Paired (EchoV K H1) xs (es.map vE) := by
    intro xs
    induction xs with
    | nil =>
      intro es p
      cases es with
      | nil => exact .nil
      | cons e r => cases p
    | cons x xs ih =>
      intro es p
      cases es with
      | nil => cases p
      | cons e r =>
        cases p with
        | cons h t =>
          obtain ⟨a, t', e1, g1, g2, g3⟩ := h
          exact .cons ⟨a, t', e1, k _ _ g1 rfl, g2.int H1, TabAt.fi T.ne_TB k g3⟩ (ih r t)
  exact all xs s.es p
theorem WAt.fi {K : PySem.W.Frag} {H H1 : Hp} (k : Fi K H H1) {v : V} {W : Int → Option V} (h : WAt H v W) : WAt H1 v W := by
  obtain ⟨a, kvs, e, h, q⟩ := h
  exact ⟨a, kvs, e, k _ _ h q.imm, q⟩
theorem StP.fi {w : World} {K : PySem.W.Frag} {mg : Str → Option Value} (T : Top2 w K mg) {H H1 : Hp} (k : Fi K H H1) {v : V} {s : Sg} {W : Int → Option V} (h : StP K H v s W) : StP K H1 v s W := by
  obtain ⟨p, sv, wv, e, h, h1, h2⟩ := h
  exact ⟨p, sv, wv, e, k _ _ h rfl, h1.fi T k, h2.fi k⟩
end Ef

set_option Elab.async false
set_option linter.all false
set_option maxRecDepth 100000
set_option maxHeartbeats 4000000
namespace Ef
open PySem PySem.Spec PyProof.Rows L2 He
section
variable {P : Program} {w : World} {K : PySem.W.Frag} {mg : Str → Option Value} {base : Heap}
theorem bnd_Book_song : BindN "song" "Book.song" s_Book_song ["self"] := fun _ _ _ _ _ _ us hl => match us, hl with | [_], _ => rfl
theorem sc_Book_song : FnScope ["self"] ["self"] (defScope s_Book_song) := ⟨rfl, rfl, rfl, by decide +kernel, rfl, by decide +kernel, by decide +kernel⟩
def pBookSong (K : PySem.W.Frag) (v : V) (H : Hp) (Q : VK) (_ : XK) : Prop := ∃ b pa la p sv wv ps ls, BookAt K H v b pa la (.ref p) ps ls ∧ H p = some (.tup [sv, wv]) ∧ Q sv H
theorem Book_song (T : Top K mg) : Prp P w K mg base CX0 1 (ga K "Book") "song" (sp1 (pBookSong K)) := by
  obtain ⟨fd, F⟩ := T.d_Book_song
  refine prp_of T.p_Book_song F bnd_Book_song (okN1 F sc_Book_song fun cdv A outer s H v Q E hr h => ?_)
  obtain ⟨b, pa, la, p, sv, wv, ps, ls, ⟨rfl, ⟨dx, hb⟩, _, _, _⟩, hp, q⟩ := h
  exact ⟨_, pss_one (ps_ret (pe_ix ix_tup (pe_fld (pv 0) rfl) pe_int (fun _ _ => rfl))), _, rfl, b, _, dx, _, _, rfl, hb, T.c_Book, T.n_Book_state, lk_hd, p, _, 0, _, rfl, rfl, SqT.of hp, rfl, q⟩
theorem bnd_Book_moment : BindN "moment" "Book.moment" s_Book_moment ["self"] := fun _ _ _ _ _ _ us hl => match us, hl with | [_], _ => rfl
theorem sc_Book_moment : FnScope ["self"] ["self"] (defScope s_Book_moment) := ⟨rfl, rfl, rfl, by decide +kernel, rfl, by decide +kernel, by decide +kernel⟩
def pBookMoment (K : PySem.W.Frag) (v : V) (H : Hp) (Q : VK) (_ : XK) : Prop := ∃ b pa la st ps ls, BookAt K H v b pa la st ps ls ∧ Q (.int (ps.length : Int)) H
theorem Book_moment (T : Top K mg) : Prp P w K mg base CX0 1 (ga K "Book") "moment" (sp1 (pBookMoment K)) := by
  obtain ⟨fd, F⟩ := T.d_Book_moment
  refine prp_of T.p_Book_moment F bnd_Book_moment (okN1 F sc_Book_moment fun cdv A outer s H v Q E hr h => ?_)
  obtain ⟨b, pa, la, st, ps, ls, ⟨rfl, ⟨dx, hb⟩, hpa, _, _⟩, q⟩ := h
  refine ⟨_, pss_one (ps_ret (pe_callB call_len (by rfl) T.b_len (by decide +kernel) (pa_cons (pe_fld (pv 0) rfl) pa_nil))), ?_⟩
  exact ⟨_, rfl, b, _, dx, _, _, rfl, hb, T.c_Book, T.n_Book_past, lk2 (by decide +kernel), _, ps.length, rfl, .inl ⟨_, SqL.of hpa, rfl⟩, q⟩
theorem bnd_go_on : BindN "go_on" "Book.go_on" s_Book_go_on ["self", "state"] := fun _ _ _ _ _ _ us hl => match us, hl with | [_, _], _ => rfl
theorem sc_go_on : FnScope ["self", "state"] ["self", "state"] (defScope s_Book_go_on) := ⟨rfl, rfl, rfl, by decide +kernel, rfl, by decide +kernel, by decide +kernel⟩
def pGoOn (K : PySem.W.Frag) (v u : V) (H : Hp) (Q : VK) (_ : XK) : Prop := ∃ b pa la st ps ls, BookAt K H v b pa la st ps ls ∧ ps.length < sizeLine ∧ ∀ H' l, Fb b pa la H H' → H l = none → BookAt K H' v b pa l u (ps ++ [st]) [] → Q .non H'
theorem Book_go_on (T : Top K mg) : Mtd P w K mg base CX0 1 (ga K "Book") "go_on" (sp2 (pGoOn K)) := by
  obtain ⟨fd, F⟩ := T.d_Book_go_on
  refine ⟨_, T.m_Book_go_on, fnN2 F sc_go_on bnd_go_on fun cdv A outer s H v u Q E hr h => ?_⟩
  obtain ⟨b, pa, la, st, ps, ls, ⟨rfl, ⟨dx, hb⟩, hpa, hla, hne⟩, hz, q⟩ := h
  refine ⟨_, pss_cons (ps_expr (pe_bm PySem.F.plainAttrs_list PySem.F.slot_list_append PySem.F.type_list_append mt_append (pe_fld (pv 0) rfl) (pa_cons (pe_fld (pv 0) rfl) pa_nil)))
    (pss_cons (ps_fld (pv 0) (pe_lst pa_nil) rfl) (pss_one (ps_fld (pv 0) (pv 1) rfl))), ?_⟩
  have hbp : b ≠ pa := ne_of hb hpa (by intro z; cases z)
  have hbl : b ≠ la := ne_of hb hla (by intro z; cases z)
  refine ⟨_, rfl, b, _, dx, _, _, rfl, hb, T.c_Book, T.n_Book_past, lk2 (by decide +kernel), .inl ⟨rfl, _, SqL.of hpa⟩, _, rfl, b, _, dx, _, _, rfl, hb, T.c_Book, T.n_Book_state, lk_hd, pa, _, _, rfl, rfl, hpa, hz, ?_⟩
  refine ⟨by decide, fun l hl => ?_⟩
  have hlp : l ≠ pa := fun z => by rw [z, upd_same] at hl; cases hl
  have hln : H l = none := by rw [upd_ne hlp] at hl; exact hl
  have hlb : b ≠ l := ne_of_none hb hln
  refine ⟨_, rfl, b, _, dx, _, rfl, by rw [upd_ne hlb, upd_ne hbp]; exact hb, T.c_Book, T.n_Book_later, by show 3 < 1000; decide, ?_⟩
  rw [pf_tl (by decide +kernel), pf_tl (by decide +kernel), pf_hd]
  refine ⟨_, rfl, _, rfl, b, _, dx, _, rfl, upd_same, T.c_Book, T.n_Book_state, by show 3 < 1000; decide, ?_⟩
  rw [pf_hd]
  refine q _ l (fun c o e h1 h2 h3 => ?_) hln ⟨rfl, ⟨dx, upd_same⟩, ?_, ?_, Ne.symm hlp⟩
  · rw [upd_ne h1, upd_ne h1, upd_ne (ne_of_none e hln), upd_ne h2]
    exact e
  · rw [upd_ne (Ne.symm hbp), upd_ne (Ne.symm hbp), upd_ne (Ne.symm hlp), upd_same]
  · rw [upd_ne (Ne.symm hlb), upd_ne (Ne.symm hlb), upd_same]
theorem bnd_Book_init : BindN "__init__" "Book.__init__" s_Book_init ["self", "song"] := fun _ _ _ _ _ _ us hl => match us, hl with | [_, _], _ => rfl
theorem sc_Book_init : FnScope ["self", "song"] ["self", "song"] (defScope s_Book_init) := ⟨rfl, rfl, rfl, by decide +kernel, rfl, by decide +kernel, by decide +kernel⟩
def pBookInit (K : PySem.W.Frag) (self v : V) (H : Hp) (Q : VK) (_ : XK) : Prop := ∃ p dx s, self = .ref p ∧ H p = some (.ins (ga K "Book") dx []) ∧ SongAt K H v s ∧ OkSg s ∧
  ∀ H' t pa la, (∀ c o, H c = some o → c ≠ p → H' c = some o) → H pa = none → H la = none → BookAt K H' self p pa la (.ref t) [] [] → (∃ d, H' t = some (.tup [v, .ref d]) ∧ H' d = some (.dK [])) → Q .non H'
theorem Book_init (T : Top2 w K mg) {f : Addr} {fd : FuncData} (F : FnP K "__init__" "Book.__init__" s_Book_init f fd) : FnR P w K mg base CX0 4 f (sp2 (pBookInit K)) := by
  refine fnN2 F sc_Book_init bnd_Book_init fun cdv A outer s0 H self v Q E hr h => ?_
  obtain ⟨p, dx, s, rfl, hp, hs, ok, q⟩ := h
  refine ⟨_, pss_cons (ps_expr (pe_f (need_near T) hr pass0 (pa_cons (pv 1) pa_nil)))
    (pss_cons (ps_fld (pv 0) (pe_tup (pa_cons (pv 1) (pa_cons pe_dnewK pa_nil))) rfl)
    (pss_cons (ps_fld (pv 0) (pe_lst pa_nil) rfl) (pss_one (ps_fld (pv 0) (pe_lst pa_nil) rfl)))), ?_⟩
  refine ⟨_, rfl, _, rfl, s, hs, ok.n40, ?_⟩
  refine ⟨_, rfl, fun d hd => ⟨by show 2 ≤ sizeLine; decide, fun t ht => ?_⟩⟩
  have hpd : p ≠ d := ne_of_none hp hd
  have htd : t ≠ d := fun z => by rw [z, upd_same] at ht; cases ht
  have htn : H t = none := by rw [upd_ne htd] at ht; exact ht
  have hpt : p ≠ t := ne_of_none hp htn
  refine ⟨_, rfl, p, _, dx, _, rfl, by rw [upd_ne hpt, upd_ne hpd]; exact hp, T.c_Book, T.n_Book_state, by decide, ?_⟩
  rw [pf_nil]
  refine ⟨by decide, fun pa hpa => ?_⟩
  have hpap : pa ≠ p := fun z => by rw [z, upd_same] at hpa; cases hpa
  have hpat : pa ≠ t := fun z => by rw [z, upd_ne (Ne.symm hpt), upd_same] at hpa; cases hpa
  have hpad : pa ≠ d := fun z => by rw [z, upd_ne (Ne.symm hpd), upd_ne (Ne.symm htd), upd_same] at hpa; cases hpa
  have hpan : H pa = none := by rw [upd_ne hpap, upd_ne hpat, upd_ne hpad] at hpa; exact hpa
  refine ⟨_, rfl, p, _, dx, _, rfl, by rw [upd_ne (Ne.symm hpap)]; exact upd_same, T.c_Book, T.n_Book_past, by show 1 < 1000; decide, ?_⟩
  rw [pf_tl (by decide +kernel), pf_nil]
  refine ⟨by decide, fun la hla => ?_⟩
  have hlap : la ≠ p := fun z => by rw [z, upd_same] at hla; cases hla
  have hlapa : la ≠ pa := fun z => by rw [z, upd_ne hpap, upd_same] at hla; cases hla
  have hlat : la ≠ t := fun z => by rw [z, upd_ne (Ne.symm hpt), upd_ne (Ne.symm hpat), upd_ne (Ne.symm hpt), upd_same] at hla; cases hla
  have hlad : la ≠ d := fun z => by rw [z, upd_ne (Ne.symm hpd), upd_ne (Ne.symm hpad), upd_ne (Ne.symm hpd), upd_ne (Ne.symm htd), upd_same] at hla; cases hla
  have hlan : H la = none := by rw [upd_ne hlap, upd_ne hlapa, upd_ne hlap, upd_ne hlat, upd_ne hlad] at hla; exact hla
  refine ⟨_, rfl, p, _, dx, _, rfl, by rw [upd_ne (Ne.symm hlap)]; exact upd_same, T.c_Book, T.n_Book_later, by show 2 < 1000; decide, ?_⟩
  rw [pf_tl (by decide +kernel), pf_tl (by decide +kernel), pf_nil]
  refine q _ t pa la (fun c o e h1 => ?_) hpan hlan ⟨rfl, ⟨dx, upd_same⟩, ?_, ?_, Ne.symm hlapa⟩ ⟨d, ?_, ?_⟩
  · rw [upd_ne h1, upd_ne (ne_of_none e hlan), upd_ne h1, upd_ne (ne_of_none e hpan), upd_ne h1, upd_ne (ne_of_none e htn), upd_ne (ne_of_none e hd)]
    exact e
  · rw [upd_ne hpap, upd_ne (Ne.symm hlapa), upd_ne hpap, upd_same]
  · rw [upd_ne hlap, upd_same]
  · rw [upd_ne (Ne.symm hpt), upd_ne (Ne.symm hlat), upd_ne (Ne.symm hpt), upd_ne (Ne.symm hpat), upd_ne (Ne.symm hpt), upd_same]
  · rw [upd_ne (Ne.symm hpd), upd_ne (Ne.symm hlad), upd_ne (Ne.symm hpd), upd_ne (Ne.symm hpad), upd_ne (Ne.symm hpd), upd_ne (Ne.symm htd), upd_same]
end
end Ef

set_option Elab.async false
set_option linter.all false
set_option maxRecDepth 100000
set_option maxHeartbeats 4000000
namespace Ef
open PySem PySem.Spec PyProof.Rows L2 He
/-! ### calls whose errors are told by the slots as they stand -/
def tFA (sp : Sp) (E : L2.St → XK) (t : TA) : TE := fun σ H Q => t σ H fun vs H1 => sp vs H1 Q (E σ)
theorem pe_fA {X : Cx} {CX : CXT} {k : Nat} {x : Str} {sp : Sp} {E : L2.St → XK} {e : Expr} {es : List Expr} {t : TA} {p pos : Pos} (c : Clb X.prog X.w X.K X.mg X.base CX k x sp) (hr : Room k X.A) (hx : ∀ σ, PassesAt CX X σ (E σ)) (ha : PA X (e :: es) t) (hg : Gl X x := by rfl)
    (hd : (x == ("__debug__" : Str)) = false := by decide) (he : starEach (e :: es) X.env = (false, eval e X.env) :: starEach es X.env := by rfl) (hpl : (backTo pos (starEach es X.env)).any (·.1) = false := by rfl) : PE X (.Call (.Name x p) (e :: es) [] pos) (tFA sp E t) := by
  obtain ⟨f, F, hm, hk⟩ := c.ex
  refine ⟨fun pins s σ H Q I h => ?_⟩
  refine wpAny_Call_Name_kw (ld_glob I hg hm ?_ hd)
  refine PySem.W.callWith_K (h₀ := X.base) I.ok.mod.kin hk (thn (ha.run pos pins s σ H _ I h) fun us s1 ⟨vs, H1, I1, r, q⟩ => ⟨I1.kIn, wpAny_call (codeAny_mono (F X.A X.stack s1 H1 us vs Q (E σ) hr I1.env0 r q) fun r s' hq => ?_)⟩) he hpl
  cases r with
  | error e => exact hx σ pins H1 s1 e s' I1 hq
  | ok fl =>
    cases fl with
    | ret u => exact I1.after hq
    | next => exact False.elim hq
    | brk => exact False.elim hq
    | cont => exact False.elim hq
theorem passAtN {X : Cx} {W : WX} (tk : L2N.Takes X W) (σ : L2.St) : PassesAt (L2N.CX X.prog X.w) X σ (WE W σ) := fun _ _ _ e s' I c => tk e s' (L2N.XE.of_call I (fun _ _ _ h => h) c)
section
variable {P : Program} {w : World} {K : PySem.W.Frag} {mg : Str → Option Value} {base : Heap}
theorem cx_weak {outer : List Env} {H : Hp} {s : Shared} {E : XK} {e : Value} {s' : Shared} (h : L2N.CX P w outer H s E e s') : L2.CX P w outer H s E e s' := by
  obtain ⟨a, B, H', cls, d, ea, fl, r⟩ := h
  exact ⟨a, B, H', cls, d, ea, L2H.flyingZ_imp (fun o z => z.zc) fl, r⟩
theorem FnR.weak {k : Nat} {f : Addr} {sp : Sp} (F : FnR P w K mg base (L2N.CX P w) k f sp) : FnR P w K mg base (L2.CX P w) k f sp := fun A outer s H us vs Q E hr e0 r h =>
  codeAny_mono (F A outer s H us vs Q E hr e0 r h) fun r s' hq => by
    cases r with
    | error e => exact cx_weak hq
    | ok fl => cases fl <;> exact hq
/-! ### Book.do -/
theorem bnd_Book_do : BindN "do" "Book.do" s_Book_do ["self", "deed"] := fun _ _ _ _ _ _ us hl => match us, hl with | [_, _], _ => rfl
theorem sc_Book_do : FnScope ["self", "deed"] ["self", "deed"] (defScope s_Book_do) := ⟨rfl, rfl, rfl, by decide +kernel, rfl, by decide +kernel, by decide +kernel⟩
def pDo (K : PySem.W.Frag) (v dv : V) (H : Hp) (Q : VK) (E : XK) : Prop := ∃ b pa la st ps ls s W d, BookAt K H v b pa la st ps ls ∧ ps.length < sizeLine ∧ StP K H st s W ∧ OkSg s ∧ InW s.n W ∧ DeedAt K H dv d ∧
  if okD s d = true then ∀ H' l st', Fb b pa la H H' → H l = none → BookAt K H' v b pa l st' (ps ++ [st]) [] → StP K H' st' (sgD s d) (wD W d) → Q .non H' else ∀ H' c dd, Same H H' → XOk K H' c dd → E c dd H'
theorem none_same {H H1 : Hp} (k : Same H H1) {l : Addr} (h : H1 l = none) : H l = none := by
  cases e : H l with
  | none => rfl
  | some o => rw [k l o e] at h; cases h
theorem Book_do (T : Top2 w K mg) : Mtd P w K mg base (L2N.CX P w) 10 (ga K "Book") "do" (sp2 (pDo K)) := by
  obtain ⟨fd, F⟩ := T.d_Book_do
  refine ⟨_, T.m_Book_do, fn2 F sc_Book_do bnd_Book_do fun cdv A outer s0 H v dv Q E hr h => ?_⟩
  obtain ⟨b, pa, la, st, ps, ls, s, W, d, B, hz, hst, ok, hin, hd, q⟩ := h
  obtain ⟨a, x, rest, rfl, ha, hx⟩ := hd.deed
  obtain ⟨rfl, ⟨dx, hb⟩, hpa, hla, hne⟩ := id B
  refine ⟨_, pss_cons (ps_if (pt_not (pt_val (pe_f (is_deed T) (hr.mono (by decide)) pass0 (pa_cons (pv 1) pa_nil)))) (pss_one ps_never) pss_nil)
    (pss_one (ps_expr (pe_m T.c_Book (Book_go_on T.toTop) (hr.mono (by decide)) pass0 (pv 0) (pa_cons (pe_f (state_after T) hr (L2N.passes_call (L2N.takes_of rfl rfl rfl rfl) (fun _ _ _ _ z => z)) (pa_cons (pe_fld (pv 0) rfl) (pa_cons (pv 1) pa_nil))) pa_nil)))), ?_⟩
  refine ⟨_, rfl, _, rfl, a, x, rest, rfl, ha, hx, fun H1 s1 => ⟨_, rfl, iteF ?_⟩⟩
  have hb1 := s1 _ _ hb
  refine ⟨_, rfl, b, dx, _, rfl, hb1, lk3n (by decide +kernel) (by decide +kernel) (by decide +kernel), _, rfl, b, _, dx, _, _, rfl, hb1, T.c_Book, T.n_Book_state, lk_hd, _, rfl, _, _, rfl, s, W, d, hst.same s1, ok, hin, hd.same s1, ?_⟩
  cases hk : okD s d with
  | false =>
    rw [hk] at q
    exact iteF fun H' c dd s2 hx => (show ∀ H' c dd, Same H H' → XOk K H' c dd → E c dd H' from q) H' c dd (Same.trans s1 s2) hx
  | true =>
    rw [hk] at q
    have q := (show ∀ H' l st', Fb b pa la H H' → H l = none → BookAt K H' (.ref b) b pa l st' (ps ++ [st]) [] → StP K H' st' (sgD s d) (wD W d) → Q .non H' from q)
    refine iteT fun H2 v' s2 hv' => ?_
    have s3 := Same.trans s1 s2
    refine ⟨_, _, rfl, b, pa, la, st, ps, ls, B.same s3, hz, fun H3 l fb hl B3 => ?_⟩
    exact q H3 l v' (Fb.same s3 fb) (none_same s3 hl) B3 (hv'.fi T (Fb.fi (B.same s3) fb))
/-! ### Book.state_behind -/
theorem bnd_state_behind : BindN "state_behind" "Book.state_behind" s_Book_state_behind ["self", "deeds"] := fun _ _ _ _ _ _ us hl => match us, hl with | [_, _], _ => rfl
theorem sc_state_behind : FnScope ["self", "deeds", "state", "index", "deed"] ["self", "deeds"] (defScope s_Book_state_behind) := ⟨rfl, rfl, rfl, by decide +kernel, rfl, by decide +kernel, by decide +kernel⟩
def pStateBehind (K : PySem.W.Frag) (v dv : V) (H : Hp) (Q : VK) (E : XK) : Prop := ∃ b pa la st ps ls s W t xs ds, BookAt K H v b pa la st ps ls ∧ StP K H st s W ∧ OkSg s ∧ InW s.n W ∧ dv = .ref t ∧ H t = some (.tup xs) ∧ Paired (DeedAt K H) xs ds ∧
  (∀ s' W', runD s W ds = some (s', W') → ∀ H' v', Same H H' → StP K H' v' s' W' → Q v' H') ∧ (runD s W ds = none → ∀ H' dd i, Same H H' → H' dd = some (.xd [(("index" : Str), .int i)]) → E (.ref (ga K "InvalidDeed")) (some dd) H')
def seven : List Str := ["InvalidPlace", "InvalidWishes", "InvalidNumber", "InvalidEcho", "TooFar", "TooLong", "NoEcho"]
theorem exmAny_of {cls : Value} {f : Str → Bool} : ∀ (ys : List Str), (∀ y ∈ ys, PySem.W.exmOne K cls (.ref (ga K y)) = some (f y)) → PySem.W.exmAny K cls (ys.map fun y => .ref (ga K y)) = some (ys.any f)
  | [], _ => rfl
  | y :: ys, h => by
    have ih := exmAny_of ys fun z hz => h z (List.mem_cons_of_mem _ hz)
    rw [List.map_cons, List.any_cons]
    unfold PySem.W.exmAny
    rw [h y List.mem_cons_self, ih]
theorem seven_sub : ∀ y ∈ seven, y ∈ xall := by decide +kernel
theorem exm_seven (T : Top2 w K mg) {H : Hp} {c : Value} {d : Option Addr} (h : XOk K H c d) : PySem.W.exmAny K c (seven.map fun y => .ref (ga K y)) = some true := by
  have go : ∀ x ∈ xall, PySem.W.exmAny K (.ref (ga K x)) (seven.map fun y => .ref (ga K y)) = some (seven.any fun y => decide (x = y)) := fun x hx => exmAny_of seven fun y hy => T.exm x hx y (seven_sub y hy)
  cases h with
  | place => rw [go _ (by decide +kernel)]; decide +kernel
  | wishes => rw [go _ (by decide +kernel)]; decide +kernel
  | number => rw [go _ (by decide +kernel)]; decide +kernel
  | far => rw [go _ (by decide +kernel)]; decide +kernel
  | long => rw [go _ (by decide +kernel)]; decide +kernel
  | echo => rw [go _ (by decide +kernel)]; decide +kernel
  | noecho => rw [go _ (by decide +kernel)]; decide +kernel
theorem drop_get {α : Type} : ∀ {l : List α} {i : Nat} {x : α}, l[i]? = some x → l.drop i = x :: l.drop (i + 1)
  | [], _, _, h => by simp at h
  | a :: l, 0, x, h => by simp at h; subst h; rfl
  | a :: l, i + 1, x, h => drop_get (l := l) (i := i) (by simpa using h)
theorem Book_state_behind (T : Top2 w K mg) : Mtd P w K mg base (L2.CX P w) 10 (ga K "Book") "state_behind" (sp2 (pStateBehind K)) := by
  obtain ⟨fd, F⟩ := T.d_Book_state_behind
  refine ⟨_, T.m_Book_state_behind, fn2 F sc_state_behind bnd_state_behind fun cdv A outer s0 H v dv Q E hr h => ?_⟩
  obtain ⟨b, pa, la, st, ps, ls, s, W, t, xs, ds, B, hst, ok, hin, rfl, ht, pr, qy, qn⟩ := h
  obtain ⟨rfl, ⟨dx, hb⟩, hpa, hla, hne⟩ := id B
  have hr9 : Room 9 _ := hr
  refine ⟨_, pss_cons (ps_set (i := 2) sc_state_behind.nd rfl (.inl rfl) (pe_fld (pv 0) rfl))
    (pss_cons (ps_for (passes_of rfl) rfl (pi_enumT (by rfl) T.b_enumerate (pa_cons (pv 1) pa_nil)) (pg_tup rfl (pgs_cons (pg_name (i := 3) sc_state_behind.nd rfl (.inl rfl)) (pgs_cons (pg_name (i := 4) sc_state_behind.nd rfl (.inl rfl)) pgs_nil)))
      (pss_cons (ps_if (pt_not (pt_val (pe_f (is_deed T) (hr.mono (by decide)) pass0 (pa_cons (pv 4) pa_nil)))) (pss_one ps_never) pss_nil)
      (pss_one (ps_try_tup (cs := seven.map fun y => .ref (ga K y)) (Wout := fun c d _ H => E c d H) (tb := fun W => tAsg (tFA (sp2 (pStateAfter K)) (WE W) (tCons (tVar 2) (tCons (tVar 4) tNil))) (gName 2)) (ts := fun _ _ _ => fun D σ H => tMk1 (ga K "InvalidDeed") "index" (tCons (tVar 3) tNil) σ H fun c d H' => E c d H') rfl rfl
        (.cons ⟨rfl, by decide, .inl T.xg_InvalidPlace⟩ (.cons ⟨rfl, by decide, .inl T.xg_InvalidWishes⟩ (.cons ⟨rfl, by decide, .inl T.xg_InvalidNumber⟩ (.cons ⟨rfl, by decide, .inl T.xg_InvalidEcho⟩ (.cons ⟨rfl, by decide, .inl T.xg_TooFar⟩ (.cons ⟨rfl, by decide, .inl T.xg_TooLong⟩ (.cons ⟨rfl, by decide, .inl T.xg_NoEcho⟩ .nil))))))) (by rw [List.length_map]; decide)
        (L2H.passesAt_of rfl) (L2.takes_of rfl rfl rfl rfl)
        (fun W pn xe tk po => pss_one (ps_set (i := 2) sc_state_behind.nd rfl (.inl rfl) (pe_fA (state_after T) hr9 (passAtN tk) (pa_cons (pv 2) (pa_cons (pv 4) pa_nil)))))
        (fun a oe cls d pn hz hv tkS hot => pss_one (L2H.ps_raiseHN hot tkS (pmk1H (xclH_InvalidDeed T) (L2H.roomH_mark (hr.mono (by decide)) _) hot (pa_cons (pv 3) pa_nil))))))))
    (pss_one (ps_ret (pv 2)))), ?_⟩
  refine ⟨_, rfl, b, _, dx, _, _, rfl, hb, T.c_Book, T.n_Book_state, lk_hd, _, rfl, t, xs, rfl, SqT.of ht, for_enumT (K := K) (a := t) (xs := xs) (fun i σ H2 => ∃ sv u1 u2 s' W', σ = [some (.ref b), some (.ref t), some sv, u1, u2] ∧ Same H H2 ∧ StP K H2 sv s' W' ∧ OkSg s' ∧ InW s'.n W' ∧ runD s W ds = runD s' W' (ds.drop i))
    ⟨st, none, none, s, W, rfl, Same.refl H, hst, ok, hin, rfl⟩ (fun i σ H2 _ ⟨_, _, _, _, _, _, s2, _⟩ => SqT.of (s2 _ _ ht)) ?_ ?_⟩
  · rintro i x Ta σ H2 hi ⟨sv, u1, u2, s', W', rfl, s2, hsv, ok', hin', hrun⟩ hTa
    obtain ⟨d, hd, hD⟩ := paired_get pr hi
    have s3 : Same H (upd H2 Ta (.tup [.int (i : Int), x])) := Same.snd s2 hTa
    have hD3 := hD.same s3
    obtain ⟨a, z, rest, rfl, ha, hx⟩ := hD3.deed
    refine ⟨Ta, _, rfl, SqT.of upd_same, rfl, _, _, rfl, _, _, rfl, ⟨rfl, ?_⟩⟩
    refine ⟨_, rfl, _, rfl, a, z, rest, rfl, ha, hx, fun H4 s4 => ⟨_, rfl, iteF ?_⟩⟩
    have s5 := Same.trans s3 s4
    rw [drop_get hd] at hrun
    refine ⟨_, rfl, _, rfl, _, _, rfl, s', W', d, hsv.same (Same.trans (Same.new hTa) s4), ok', hin', hD3.same s4, ?_⟩
    cases hk : okD s' d with
    | true =>
      refine itT rfl fun H6 v' s6 hv' => ⟨v', _, _, sgD s' d, wD W' d, rfl, Same.trans s5 s6, hv', okD_sg ok' hD3.tabD hk, okD_in hin' hk, ?_⟩
      rw [hrun]
      show (if okD s' d = true then _ else _) = _
      rw [if_pos hk]
    | false =>
      refine itF rfl fun H6 c dd s6 hx6 => ⟨exm_seven T hx6, fun ae _ => ?_⟩
      refine ⟨_, rfl, _, rfl, fun d7 hd7 => qn ?_ _ d7 (i : Int) (Same.snd (Same.trans s5 s6) hd7) upd_same⟩
      rw [hrun]
      show (if okD s' d = true then _ else _) = _
      rw [hk, if_neg Bool.false_ne_true]
  · rintro σ H2 ⟨sv, u1, u2, s', W', rfl, s2, hsv, ok', hin', hrun⟩
    rw [show xs.length = ds.length from Paired.length pr, List.drop_length] at hrun
    exact ⟨_, rfl, qy s' W' hrun H2 sv s2 hsv⟩
end
end Ef

set_option Elab.async false
set_option linter.all false
set_option maxRecDepth 100000
set_option maxHeartbeats 4000000
namespace Ef
open PySem PySem.Spec PyProof.Rows L2 He
section
variable {P : Program} {w : World} {K : PySem.W.Frag} {mg : Str → Option Value} {base : Heap}
/-! ### Book.run -/
theorem sc_Book_run : FnScope ["self", "deeds"] ((["self"] : List Str) ++ (["deeds"] : List Str)) (defScope s_Book_run) := ⟨rfl, rfl, rfl, by decide +kernel, rfl, by decide +kernel, by decide +kernel⟩
def pRunI (K : PySem.W.Frag) : Sp := fun vs H Q E => ∃ v t b pa la st ps ls s W xs ds, vs = [v, .ref t] ∧ BookAt K H v b pa la st ps ls ∧ ps.length < sizeLine ∧ StP K H st s W ∧ OkSg s ∧ InW s.n W ∧ H t = some (.tup xs) ∧ Paired (DeedAt K H) xs ds ∧
  (∀ s' W', runD s W ds = some (s', W') → ∀ H' l st', Fb b pa la H H' → H l = none → BookAt K H' v b pa l st' (ps ++ [st]) [] → StP K H' st' s' W' → Q .non H') ∧ (runD s W ds = none → ∀ H' dd i, Same H H' → H' dd = some (.xd [(("index" : Str), .int i)]) → E (.ref (ga K "InvalidDeed")) (some dd) H')
def pRunS (K : PySem.W.Frag) : Sp := fun vs H Q E => ∃ ws rest, vs = ws ++ rest ∧ ws.length = (["self"] : List Str).length ∧ rest.length ≤ sizeLine ∧ ∀ p, H p = Option.none → pRunI K (ws ++ [V.ref p]) (upd H p (.tup rest)) Q E
theorem Book_run (T : Top2 w K mg) : Mtd P w K mg base (L2.CX P w) 11 (ga K "Book") "run" (pRunS K) := by
  obtain ⟨fd, F⟩ := T.d_Book_run
  obtain ⟨oc, od, dV, kV, doc, pm, an, cdv, ct, osl, rfl, lk, hcd, hD, hK⟩ := F.ex
  obtain ⟨_, rfl⟩ | ⟨e, _⟩ := hD
  · refine ⟨_, T.m_Book_run, StX.fn_star (ps := ["self"]) (pv := "deeds") (sp := pRunI K) lk hcd sc_Book_run StX.cxUp (StX.bind_star1 (B := fun us => bindArgs _ ⟨us, []⟩) (fun _ => rfl) (fun _ _ _ => rfl)) fun A outer s0 H vs Q E hr h => ?_⟩
    obtain ⟨v, t, b, pa, la, st, ps, ls, s, W, xs, ds, rfl, B, hz, hst, ok, hin, ht, pr, qy, qn⟩ := h
    obtain ⟨rfl, ⟨dx, hb⟩, hpa, hla, hne⟩ := id B
    refine ⟨_, pss_one (ps_expr (pe_m T.c_Book (Book_go_on T.toTop) (hr.mono (by decide)) pass0 (pv 0) (pa_cons (pe_m T.c_Book (Book_state_behind T) hr (passes_call (takes_of rfl rfl rfl rfl) (fun _ _ _ _ z => z)) (pv 0) (pa_cons (pv 1) pa_nil)) pa_nil))), ?_⟩
    refine ⟨_, rfl, b, dx, _, rfl, hb, lk3n (by decide +kernel) (by decide +kernel) (by decide +kernel), _, rfl, b, dx, _, rfl, hb, lk3n (by decide +kernel) (by decide +kernel) (by decide +kernel), _, rfl, _, _, rfl, b, pa, la, st, ps, ls, s, W, t, xs, ds, B, hst, ok, hin, rfl, ht, pr, fun s' W' hrun H1 v' s1 hv' => ?_, qn⟩
    exact ⟨_, _, rfl, b, pa, la, st, ps, ls, B.same s1, hz, fun H3 l fb hl B3 => qy s' W' hrun H3 l v' (Fb.same s1 fb) (none_same s1 hl) B3 (hv'.fi T (Fb.fi (B.same s1) fb))⟩
  · exact absurd rfl e
/-- the promise, the new tuple out of sight -/
theorem run_star {H : Hp} {v : V} {Q : VK} {E : XK} {rest : List V} {b pa la : Addr} {st : V} {ps ls : List V} {s : Sg} {W : Int → Option V} {ds : List Dd} (B : BookAt K H v b pa la st ps ls) (hz : ps.length < sizeLine) (hst : StP K H st s W) (ok : OkSg s) (hin : InW s.n W) (hr : rest.length ≤ sizeLine) (pr : Paired (DeedAt K H) rest ds)
    (qy : ∀ s' W', runD s W ds = some (s', W') → ∀ H' l st', Fb b pa la H H' → H l = none → BookAt K H' v b pa l st' (ps ++ [st]) [] → StP K H' st' s' W' → Q .non H') (qn : runD s W ds = none → ∀ H' dd i, Same H H' → H' dd = some (.xd [(("index" : Str), .int i)]) → E (.ref (ga K "InvalidDeed")) (some dd) H') :
    pRunS K (v :: rest) H Q E := by
  refine ⟨[v], rest, rfl, rfl, hr, fun p hp => ?_⟩
  have s1 := Same.new (o := .tup rest) hp
  exact ⟨v, p, b, pa, la, st, ps, ls, s, W, rest, ds, rfl, B.same s1, hz, hst.same s1, ok, hin, upd_same, paired_mono pr fun _ _ z => z.same s1, fun s' W' hrun H' l st' fb hl => qy s' W' hrun H' l st' (Fb.same s1 fb) (none_same s1 hl), fun hrun H' dd i s2 => qn hrun H' dd i (Same.trans s1 s2)⟩
/-! ### Book.undo, Book.redo -/
theorem bnd_undo : BindN "undo" "Book.undo" s_Book_undo ["self"] := fun _ _ _ _ _ _ us hl => match us, hl with | [_], _ => rfl
theorem sc_undo : FnScope ["self"] ["self"] (defScope s_Book_undo) := ⟨rfl, rfl, rfl, by decide +kernel, rfl, by decide +kernel, by decide +kernel⟩
def pUndo (K : PySem.W.Frag) (v : V) (H : Hp) (Q : VK) (E : XK) : Prop := ∃ b pa la st ps ls, BookAt K H v b pa la st ps ls ∧ ls.length < sizeLine ∧
  (∀ y ys, ps = ys ++ [y] → ∀ H', Fb b pa la H H' → BookAt K H' v b pa la y ys (ls ++ [st]) → Q .non H') ∧ (ps = [] → ∀ H', Same H H' → E (.ref (ga K "NothingToUndo")) none H')
theorem last_of {α : Type} (ys : List α) (y : α) : (ys ++ [y])[(ys ++ [y]).length - 1]? = some y := by simp
theorem Book_undo (T : Top K mg) : Mtd P w K mg base (L2.CX P w) 3 (ga K "Book") "undo" (sp1 (pUndo K)) := by
  obtain ⟨fd, F⟩ := T.d_Book_undo
  refine ⟨_, T.m_Book_undo, fn1 F sc_undo bnd_undo fun cdv A outer s0 H v Q E hr h => ?_⟩
  obtain ⟨b, pa, la, st, ps, ls, ⟨rfl, ⟨dx, hb⟩, hpa, hla, hne⟩, hz, qy, qn⟩ := h
  refine ⟨_, pss_cons (ps_if (pt_cmpR (op_eqE (Nat.lt_of_succ_lt (hu_of hr))) (pe_fld (pv 0) rfl) (pe_lst pa_nil) (nomark _)) (pss_one (ps_raise rfl (takes_of rfl rfl rfl rfl) (pmk0 (xcl_NothingToUndo T) hr))) pss_nil)
    (pss_cons (ps_expr (pe_bm PySem.F.plainAttrs_list PySem.F.slot_list_append PySem.F.type_list_append mt_append (pe_fld (pv 0) rfl) (pa_cons (pe_fld (pv 0) rfl) pa_nil)))
    (pss_one (ps_fld (pv 0) (pe_bm0 PySem.F.plainAttrs_list PySem.F.slot_list_pop PySem.F.type_list_pop mt_pop (pe_fld (pv 0) rfl)) rfl))), ?_⟩
  have hbp : b ≠ pa := ne_of hb hpa (by intro z; cases z)
  have hbl : b ≠ la := ne_of hb hla (by intro z; cases z)
  refine ⟨_, rfl, b, _, dx, _, _, rfl, hb, T.c_Book, T.n_Book_past, lk2 (by decide +kernel), by decide, fun e he => ?_⟩
  have s1 := Same.new (o := .lst []) he
  refine ⟨pa, e, ps, rfl, rfl, .inl ⟨SqL.of (s1 _ _ hpa), SqL.of upd_same⟩, _, rfl, ?_⟩
  by_cases hp : ps = []
  · exact itT (decide_eq_true hp) (qn hp _ s1)
  · refine itF (decide_eq_false hp) ?_
    obtain ⟨ys, y, rfl⟩ : ∃ ys y, ps = ys ++ [y] := ⟨ps.dropLast, ps.getLast hp, (List.dropLast_concat_getLast hp).symm⟩
    have hb1 := s1 _ _ hb
    refine ⟨_, rfl, b, _, dx, _, _, rfl, hb1, T.c_Book, T.n_Book_later, lk3 (by decide +kernel) (by decide +kernel), .inl ⟨rfl, _, SqL.of (s1 _ _ hla)⟩, _, rfl, b, _, dx, _, _, rfl, hb1, T.c_Book, T.n_Book_state, lk_hd, la, _, _, rfl, rfl, s1 _ _ hla, hz, ?_⟩
    refine ⟨_, rfl, b, _, dx, _, .ref pa, rfl, by rw [upd_ne hbl]; exact hb1, T.c_Book, T.n_Book_past, lk2 (by decide +kernel), .inl ⟨rfl, _, SqL.of (by rw [upd_ne hne]; exact s1 _ _ hpa)⟩, pa, ys ++ [y], y, rfl, rfl, by rw [upd_ne hne]; exact s1 _ _ hpa, last_of ys y, ?_⟩
    rw [List.dropLast_concat]
    refine ⟨_, rfl, b, _, dx, _, rfl, by rw [upd_ne hbp, upd_ne hbl]; exact hb1, T.c_Book, T.n_Book_state, by show 3 < 1000; decide, ?_⟩
    rw [pf_hd]
    refine qy y ys rfl _ (fun c o hc h1 h2 h3 => ?_) ⟨rfl, ⟨dx, upd_same⟩, ?_, ?_, hne⟩
    · rw [upd_ne h1, upd_ne h2, upd_ne h3]
      exact s1 _ _ hc
    · rw [upd_ne (Ne.symm hbp), upd_same]
    · rw [upd_ne (Ne.symm hbl), upd_ne (Ne.symm hne), upd_same]
theorem bnd_redo : BindN "redo" "Book.redo" s_Book_redo ["self"] := fun _ _ _ _ _ _ us hl => match us, hl with | [_], _ => rfl
theorem sc_redo : FnScope ["self"] ["self"] (defScope s_Book_redo) := ⟨rfl, rfl, rfl, by decide +kernel, rfl, by decide +kernel, by decide +kernel⟩
def pRedo (K : PySem.W.Frag) (v : V) (H : Hp) (Q : VK) (E : XK) : Prop := ∃ b pa la st ps ls, BookAt K H v b pa la st ps ls ∧ ps.length < sizeLine ∧
  (∀ y ys, ls = ys ++ [y] → ∀ H', Fb b pa la H H' → BookAt K H' v b pa la y (ps ++ [st]) ys → Q .non H') ∧ (ls = [] → ∀ H', Same H H' → E (.ref (ga K "NothingToRedo")) none H')
theorem Book_redo (T : Top K mg) : Mtd P w K mg base (L2.CX P w) 3 (ga K "Book") "redo" (sp1 (pRedo K)) := by
  obtain ⟨fd, F⟩ := T.d_Book_redo
  refine ⟨_, T.m_Book_redo, fn1 F sc_redo bnd_redo fun cdv A outer s0 H v Q E hr h => ?_⟩
  obtain ⟨b, pa, la, st, ps, ls, ⟨rfl, ⟨dx, hb⟩, hpa, hla, hne⟩, hz, qy, qn⟩ := h
  refine ⟨_, pss_cons (ps_if (pt_cmpR (op_eqE (Nat.lt_of_succ_lt (hu_of hr))) (pe_fld (pv 0) rfl) (pe_lst pa_nil) (nomark _)) (pss_one (ps_raise rfl (takes_of rfl rfl rfl rfl) (pmk0 (xcl_NothingToRedo T) hr))) pss_nil)
    (pss_cons (ps_expr (pe_bm PySem.F.plainAttrs_list PySem.F.slot_list_append PySem.F.type_list_append mt_append (pe_fld (pv 0) rfl) (pa_cons (pe_fld (pv 0) rfl) pa_nil)))
    (pss_one (ps_fld (pv 0) (pe_bm0 PySem.F.plainAttrs_list PySem.F.slot_list_pop PySem.F.type_list_pop mt_pop (pe_fld (pv 0) rfl)) rfl))), ?_⟩
  have hbp : b ≠ pa := ne_of hb hpa (by intro z; cases z)
  have hbl : b ≠ la := ne_of hb hla (by intro z; cases z)
  refine ⟨_, rfl, b, _, dx, _, _, rfl, hb, T.c_Book, T.n_Book_later, lk3 (by decide +kernel) (by decide +kernel), by decide, fun e he => ?_⟩
  have s1 := Same.new (o := .lst []) he
  refine ⟨la, e, ls, rfl, rfl, .inl ⟨SqL.of (s1 _ _ hla), SqL.of upd_same⟩, _, rfl, ?_⟩
  by_cases hp : ls = []
  · exact itT (decide_eq_true hp) (qn hp _ s1)
  · refine itF (decide_eq_false hp) ?_
    obtain ⟨ys, y, rfl⟩ : ∃ ys y, ls = ys ++ [y] := ⟨ls.dropLast, ls.getLast hp, (List.dropLast_concat_getLast hp).symm⟩
    have hb1 := s1 _ _ hb
    refine ⟨_, rfl, b, _, dx, _, _, rfl, hb1, T.c_Book, T.n_Book_past, lk2 (by decide +kernel), .inl ⟨rfl, _, SqL.of (s1 _ _ hpa)⟩, _, rfl, b, _, dx, _, _, rfl, hb1, T.c_Book, T.n_Book_state, lk_hd, pa, _, _, rfl, rfl, s1 _ _ hpa, hz, ?_⟩
    refine ⟨_, rfl, b, _, dx, _, .ref la, rfl, by rw [upd_ne hbp]; exact hb1, T.c_Book, T.n_Book_later, lk3 (by decide +kernel) (by decide +kernel), .inl ⟨rfl, _, SqL.of (by rw [upd_ne (Ne.symm hne)]; exact s1 _ _ hla)⟩, la, ys ++ [y], y, rfl, rfl, by rw [upd_ne (Ne.symm hne)]; exact s1 _ _ hla, last_of ys y, ?_⟩
    rw [List.dropLast_concat]
    refine ⟨_, rfl, b, _, dx, _, rfl, by rw [upd_ne hbl, upd_ne hbp]; exact hb1, T.c_Book, T.n_Book_state, by show 3 < 1000; decide, ?_⟩
    rw [pf_hd]
    refine qy y ys rfl _ (fun c o hc h1 h2 h3 => ?_) ⟨rfl, ⟨dx, upd_same⟩, ?_, ?_, hne⟩
    · rw [upd_ne h1, upd_ne h3, upd_ne h2]
      exact s1 _ _ hc
    · rw [upd_ne (Ne.symm hbp), upd_ne hne, upd_same]
    · rw [upd_ne (Ne.symm hbl), upd_same]
/-! ### Book.wishes -/
theorem bnd_Book_wishes : BindN "wishes" "Book.wishes" s_Book_wishes ["self"] := fun _ _ _ _ _ _ us hl => match us, hl with | [_], _ => rfl
theorem sc_Book_wishes : FnScope ["self", "place"] ["self"] (defScope s_Book_wishes) := ⟨rfl, rfl, rfl, by decide +kernel, rfl, by decide +kernel, by decide +kernel⟩
/-- the entries by their keys in order -/
def srt (W : Int → Option V) (l : List Int) : List (Key × V) := l.filterMap fun i => (W i).map fun v => (.inl i, v)
def pBookWishes (K : PySem.W.Frag) (v : V) (H : Hp) (Q : VK) (_ : XK) : Prop := ∃ b pa la p sv wv W n ps ls, BookAt K H v b pa la (.ref p) ps ls ∧ H p = some (.tup [sv, wv]) ∧ WAt H wv W ∧ InW n W ∧ 0 ≤ n ∧ n ≤ 40 ∧
  ∀ H' d l, Same H H' → l.Pairwise (· < ·) → (∀ i : Int, i ∈ l ↔ (W i).isSome = true) → H' d = some (.dK (srt W l)) → Q (.ref d) H'
theorem srt_take {W : Int → Option V} {l : List Int} {i : Nat} {k : Int} {v : V} (h : l[i]? = some k) (hv : W k = some v) : srt W (l.take (i + 1)) = srt W (l.take i) ++ [(.inl k, v)] := by
  rw [take_more h]
  unfold srt
  rw [List.filterMap_append]
  simp [hv]
theorem srt_out {W : Int → Option V} {l : List Int} {k : Int} (h : k ∉ l) : valV (srt W l) (.inl k) = none := by
  cases q : valV (srt W l) (.inl k) with
  | none => rfl
  | some x =>
    have h2 : Sum.inl k ∈ (srt W l).map (·.1) := valV_mem.mp (by rw [q]; rfl)
    obtain ⟨kv, h3, h4⟩ := List.mem_map.mp h2
    obtain ⟨j, h5, h6⟩ := List.mem_filterMap.mp h3
    cases hw : W j with
    | none => rw [hw] at h6; cases h6
    | some u =>
      rw [hw] at h6
      have e := Option.some.inj h6
      rw [← e] at h4
      have : j = k := Sum.inl.inj h4
      exact absurd (this ▸ h5) h
theorem srt_len {W : Int → Option V} {l : List Int} : (srt W l).length ≤ l.length := List.length_filterMap_le _ _
theorem take_nodup {l : List Int} (nd : l.Nodup) {i : Nat} {k : Int} (h : l[i]? = some k) : k ∉ l.take i := fun hm => by
  obtain ⟨j, hj, e⟩ := List.getElem_of_mem hm
  rw [List.length_take] at hj
  rw [List.getElem_take] at e
  have h2 : l[j]? = some k := by rw [List.getElem?_eq_getElem (by omega), e]
  have := (List.getElem?_inj (List.getElem?_eq_some_iff.mp h2).1 nd).mp (h2.trans h.symm)
  omega
end
end Ef

set_option Elab.async false
set_option linter.all false
set_option maxRecDepth 100000
set_option maxHeartbeats 4000000
namespace Ef
open PySem PySem.Spec PyProof.Rows L2 He
theorem sorted_strict {ys ks : List Int} (p : ys.Perm ks) (nd : ks.Nodup) (le : ys.Pairwise (· ≤ ·)) : ys.Pairwise (· < ·) := by
  have h2 : ys.Nodup := p.nodup_iff.mpr nd
  exact (List.Pairwise.and le h2).imp fun h => by
    obtain ⟨h1, h2⟩ := h
    omega
section
variable {P : Program} {w : World} {K : PySem.W.Frag} {mg : Str → Option Value} {base : Heap}
theorem Book_wishes (T : Top K mg) : Prp P w K mg base CX0 1 (ga K "Book") "wishes" (sp1 (pBookWishes K)) := by
  obtain ⟨fd, F⟩ := T.d_Book_wishes
  refine prp_of T.p_Book_wishes F bnd_Book_wishes (okN1 F sc_Book_wishes fun cdv A outer s0 H v Q E hr h => ?_)
  obtain ⟨b, pa, la, p, sv, wv, W, n, ps, ls, ⟨rfl, ⟨dx, hb⟩, _, _, _⟩, hp, ⟨a, kvs, rfl, ha, wk⟩, hin, n0, n40, q⟩ := h
  refine ⟨_, pss_one (ps_ret (pe_dc (own := [("place", 1)]) (g := gName 1) (tt := tYes) (tv := tDGet (tOp (rIxT K) (tFld K (tVar 0) "state") (tC (.int 1))) (tVar 1)) rfl sc_Book_wishes.nd
    (pi_list (pe_callB (call_sortedDI rfl) (by rfl) T.b_sorted (by decide +kernel) (pa_cons (pe_ix ix_tup (pe_fld (pv 0) rfl) pe_int (fun _ _ => rfl)) pa_nil)))
    (blkOk_by (N := ["self", "place"]) (sc := defScope s_Book_wishes) (by decide +kernel)) (fun _ _ _ _ _ => pg_name (i := 1) sc_Book_wishes.nd rfl (.inl rfl)) (fun _ _ _ _ _ => pts_nil) (fun _ _ _ _ _ => pv 1)
    (fun _ _ _ _ _ => pe_dget (by exact hu_of hr) (pe_ix ix_tup (pe_fld (pv 0) (by rfl)) pe_int (by intro _ _; rfl)) (pv 1) (by intro _ _; rfl)))), ?_⟩
  obtain ⟨ks, hks, nd⟩ := wk.ks
  have hkl : ks.length = kvs.length := by
    have := congrArg List.length hks
    simpa using this.symm
  have hz := wk.len hin n0
  refine ⟨_, rfl, b, _, dx, _, _, rfl, hb, T.c_Book, T.n_Book_state, lk_hd, p, _, 1, _, rfl, rfl, SqT.of hp, rfl, a, kvs, ks, rfl, .inl ha, hks, by omega, fun ys sp hperm hle hsp => ?_⟩
  have s1 := Same.new (o := .lst (ys.map V.int)) hsp
  have hlt := sorted_strict hperm nd hle
  have ndy : ys.Nodup := hperm.nodup_iff.mpr nd
  have hyl : ys.length = ks.length := hperm.length_eq
  refine ⟨sp, rfl, ⟨_, SqL.of upd_same⟩, fun D nD => dc_it (walk_list (a := sp) (xs := ys.map V.int)) (fun j H2 => Same (upd H sp (.lst (ys.map V.int))) H2 ∧ H2 D = some (.dK (srt W (ys.take j)))) ⟨Same.new nD, upd_same⟩ (fun j H2 _ h => SqL.of (h.1 _ _ upd_same)) ?_ ?_⟩
  · rintro j x H2 H3 hj ⟨s2, d2⟩ ⟨rfl, hx⟩
    rw [List.getElem?_map] at hx
    cases ej : ys[j]? with
    | none => rw [ej] at hx; cases hx
    | some k =>
      rw [ej] at hx
      obtain rfl : V.int k = x := Option.some.inj hx
      have hmem : (W k).isSome = true := wk.mem.mpr (by rw [hks]; exact List.mem_map.mpr ⟨k, hperm.mem_iff.mp (List.mem_of_getElem? ej), rfl⟩)
      obtain ⟨u, hu⟩ := Option.isSome_iff_exists.mp hmem
      have s3 := Same.trans s1 s2
      have hg : DGet H3 a (.int k) (some u) := by
        have z := DGet.k (k := .inl k) (s3 _ _ ha)
        rw [wk.at_, hu] at z
        exact z
      refine ⟨rfl, ?_⟩
      refine ⟨_, rfl, _, rfl, b, _, dx, _, _, rfl, s3 _ _ hb, T.c_Book, T.n_Book_state, lk_hd, p, _, 1, _, rfl, rfl, SqT.of (s3 _ _ hp), rfl, _, rfl, a, u, rfl, hg, _, .inl k, rfl, d2, ?_, Same.mut s2 nD, ?_⟩
      · have := srt_len (W := W) (l := ys.take j)
        rw [List.length_take] at this
        rw [sizeLine_eq]
        omega
      · rw [upd_same, srt_take ej hu, putK_new _ (srt_out (take_nodup ndy ej))]
  · rintro H2 ⟨s2, d2⟩
    rw [List.length_map, List.take_length] at d2
    refine q _ D ys (Same.trans s1 s2) hlt (fun i => ?_) d2
    rw [hperm.mem_iff, wk.mem, hks]
    constructor
    · exact fun h => List.mem_map.mpr ⟨i, h, rfl⟩
    · intro h
      obtain ⟨j, h1, h2⟩ := List.mem_map.mp h
      exact Sum.inl.inj h2 ▸ h1
end
end Ef

set_option Elab.async false
set_option linter.all false
set_option maxRecDepth 100000
set_option maxHeartbeats 4000000
namespace Ef
open PySem PySem.Spec PyProof.Rows L2 He
/-! ### the pen -/
abbrev kCells : Key := .inr "cells"
abbrev kUsed : Key := .inr "used"
abbrev kRest : Key := .inr "rest"
def penK (l : Addr) (u r : Int) : List (Key × V) := [(kCells, .ref l), (kUsed, .int u), (kRest, .int r)]
theorem key_ne {a b : Str} (h : a ≠ b) : ¬ ((.inr a : Key) = .inr b) := fun z => h (Sum.inr.inj z)
theorem ne1 : ("cells" : Str) ≠ "used" := by decide +kernel
theorem ne2 : ("cells" : Str) ≠ "rest" := by decide +kernel
theorem ne3 : ("used" : Str) ≠ "rest" := by decide +kernel
theorem val_cells {l : Addr} {u r : Int} : valV (penK l u r) kCells = some (.ref l) := valV_pos rfl
theorem val_used {l : Addr} {u r : Int} : valV (penK l u r) kUsed = some (.int u) := (valV_neg (key_ne ne1)).trans (valV_pos rfl)
theorem val_rest {l : Addr} {u r : Int} : valV (penK l u r) kRest = some (.int r) := (valV_neg (key_ne ne2)).trans ((valV_neg (key_ne ne3)).trans (valV_pos rfl))
theorem put_used {l : Addr} {u r x : Int} : putK (penK l u r) kUsed (.int x) = penK l x r := by
  unfold putK
  rw [if_pos (by rw [valV_any, val_used]; rfl)]
  show [if kCells = kUsed then _ else _, if kUsed = kUsed then _ else _, if kRest = kUsed then _ else _] = _
  rw [if_neg (key_ne ne1), if_pos rfl, if_neg (key_ne ne3.symm)]
  rfl
theorem put_rest {l : Addr} {u r x : Int} : putK (penK l u r) kRest (.int x) = penK l u x := by
  unfold putK
  rw [if_pos (by rw [valV_any, val_rest]; rfl)]
  show [if kCells = kRest then _ else _, if kUsed = kRest then _ else _, if kRest = kRest then _ else _] = _
  rw [if_neg (key_ne ne2), if_neg (key_ne ne3), if_pos rfl]
  rfl
def Full : Int := 1099511627776
/-- a pen that has n draws left at the least -/
def Pen (p l : Addr) (n : Nat) (H : Hp) : Prop := ∃ (ns : List Int) (u r : Int), H p = some (.dK (penK l u r)) ∧ H l = some (.lst (ns.map V.int)) ∧ ns.length ≤ 63 ∧ 0 ≤ u ∧ u + n ≤ Full ∧ 0 ≤ r
theorem Pen.less {p l : Addr} {n m : Nat} {H : Hp} (h : Pen p l n H) (k : m ≤ n) : Pen p l m H := by
  obtain ⟨ns, u, r, h1, h2, h3, h4, h5, h6⟩ := h
  exact ⟨ns, u, r, h1, h2, h3, h4, by omega, h6⟩
theorem Pen.same {p l : Addr} {n : Nat} {H H1 : Hp} (k : Same H H1) (h : Pen p l n H) : Pen p l n H1 := by
  obtain ⟨ns, u, r, h1, h2, h3⟩ := h
  exact ⟨ns, u, r, k _ _ h1, k _ _ h2, h3⟩
/-- all but the pen stays -/
def Ex (p : Addr) (H H' : Hp) : Prop := ∀ c o, H c = some o → c ≠ p → H' c = some o
theorem Ex.refl (p : Addr) (H : Hp) : Ex p H H := fun _ _ h _ => h
theorem Ex.trans {p : Addr} {H H1 H2 : Hp} (a : Ex p H H1) (b : Ex p H1 H2) : Ex p H H2 := fun c o h n => b c o (a c o h n) n
theorem Ex.of {p : Addr} {H H1 : Hp} (k : Same H H1) : Ex p H H1 := fun c o h _ => k c o h
theorem Ex.upd {p : Addr} {H H1 : Hp} {o : HO} (k : Ex p H H1) : Ex p H (upd H1 p o) := fun c u h n => by
  rw [upd_ne n]
  exact k c u h n
theorem Ex.fp {p l : Addr} {n : Nat} {H H1 : Hp} (h : Pen p l n H) (k : Ex p H H1) : Fp H H1 := fun c o e np => by
  obtain ⟨ns, u, r, h1, _⟩ := h
  refine k c o e fun z => ?_
  rw [z, h1] at e
  cases e
  have : npen (.dK (penK l u r)) = !decide (("cells" : Str) = "cells") := rfl
  rw [this] at np
  simp at np
theorem Ex.fi {K : PySem.W.Frag} {p l : Addr} {n : Nat} {H H1 : Hp} (h : Pen p l n H) (k : Ex p H H1) : Fi K H H1 := (k.fp h).fi
theorem Pen.upd {p l c : Addr} {n m : Nat} {H0 H1 : Hp} {o : HO} (h0 : Pen p l m H0) (hc : H0 c = none) (h : Pen p l n H1) : Pen p l n (upd H1 c o) := by
  obtain ⟨ns, u, r, h1, h2, h3⟩ := h
  obtain ⟨ns0, u0, r0, g1, g2, _⟩ := h0
  exact ⟨ns, u, r, by rw [upd_ne (ne_of_none g1 hc)]; exact h1, by rw [upd_ne (ne_of_none g2 hc)]; exact h2, h3⟩
theorem Ex.mut {p c : Addr} {H H1 : Hp} {o : HO} (k : Ex p H H1) (hc : H c = none) : Ex p H (L2.upd H1 c o) := fun a u h n => by
  rw [upd_ne (ne_of_none h hc)]
  exact k a u h n
/-- what is new behind draws was new ahead of them -/
theorem Ex.back {p l c : Addr} {n : Nat} {H H1 : Hp} (k : Ex p H H1) (h : Pen p l n H1) (hc : H1 c = none) : H c = none := by
  cases e : H c with
  | none => rfl
  | some o =>
    have hne : c ≠ p := fun z => by
      obtain ⟨ns, u, r, g1, _⟩ := h
      rw [z, g1] at hc
      cases hc
    rw [k _ _ e hne] at hc
    cases hc
theorem pen_ne {p l c : Addr} {n : Nat} {H : Hp} {o : HO} (h : Pen p l n H) (hc : H c = some o) (ho : ∀ kvs, o ≠ .dK kvs) : c ≠ p := by
  obtain ⟨ns, u, r, h1, _⟩ := h
  exact ne_of hc h1 (ho _)
section
variable {P : Program} {w : World} {K : PySem.W.Frag} {mg : Str → Option Value} {base : Heap}
theorem bnd_pen : BindN "_law_pen" "_law_pen" s_l_pen ["_law_script"] := fun _ _ _ _ _ _ us hl => match us, hl with | [_], _ => rfl
theorem sc_pen : FnScope ["_law_script"] ["_law_script"] (defScope s_l_pen) := ⟨rfl, rfl, rfl, by decide +kernel, rfl, by decide +kernel, by decide +kernel⟩
def pPen (v : V) (H : Hp) (Q : VK) (_ : XK) : Prop := ∃ (a : Addr) (ns : List Int), v = .ref a ∧ H a = some (.lst (ns.map V.int)) ∧ ns.length ≤ 63 ∧ ∀ (H' : Hp) (p l : Addr), Same H H' → H p = none → (∀ n : Nat, (n : Int) ≤ Full → Pen p l n H') → Q (.ref p) H'
theorem law_pen (T : Top K mg) : Clb P w K mg base CX0 1 "_law_pen" (sp1 pPen) := by
  obtain ⟨fd, F⟩ := T.d_l_pen
  refine Clb.of T.g_l_pen F (fnN1 F sc_pen bnd_pen fun cdv A outer s H v Q E hr h => ?_)
  obtain ⟨a, ns, rfl, ha, h63, q⟩ := h
  refine ⟨_, pss_one (ps_ret (pe_disp (pps_cons pe_str (pe_callTy call_list_of (by rfl) T.b_list (by decide +kernel) (pa_cons (pe_slice sl_list (pv 0) po_none (po_some pe_int)) pa_nil)) (pps_cons pe_str pe_int (pps_cons pe_str pe_int pps_nil))) (by rfl) (by rfl) (fun z => by cases z) (by decide))), ?_⟩
  refine fun p hp => ?_
  have s1 := Same.new (o := .dK []) hp
  refine ⟨_, rfl, _, rfl, a, _, rfl, SqL.of (s1 _ _ ha), fun b hb => ⟨b, _, rfl, .inl (SqL.of upd_same), fun l hl => ?_⟩⟩
  obtain ⟨ms, hms, hl63⟩ : ∃ ms : List Int, cutV (ns.map V.int) none (some 63) = ms.map V.int ∧ ms.length ≤ 63 := by
    refine ⟨(ns.drop (HT.sIx (ns.map V.int).length 0 none)).take (HT.sIx (ns.map V.int).length (ns.map V.int).length (some 63) - HT.sIx (ns.map V.int).length 0 none), ?_, ?_⟩
    · unfold cutV
      rw [List.map_take, List.map_drop]
    · rw [List.length_take, List.length_drop]
      omega
  rw [hms] at hl ⊢
  have s2 := Same.snd (o := .lst (ms.map V.int)) s1 hb
  have hpp : (upd (upd (upd H p (.dK [])) b (.lst (ms.map V.int))) l (.lst (ms.map V.int))) p = some (.dK []) := by
    rw [upd_ne (ne_of_none (by rw [upd_ne (ne_of_none upd_same hb)]; exact upd_same) hl), upd_ne (ne_of_none upd_same hb), upd_same]
  refine ⟨hpp, penK l 0 0, rfl, by show 3 ≤ 15; decide, ?_⟩
  have s3 := Same.snd (o := .lst (ms.map V.int)) s2 hl
  have hlp : l ≠ p := fun z => by
    rw [z, upd_ne (ne_of_none upd_same hb), upd_same] at hl
    cases hl
  refine q _ p l ?_ hp fun n hn => ⟨ms, 0, 0, ?_, ?_, hl63, Int.le_refl _, by omega, Int.le_refl _⟩
  · exact Same.mut s3 hp
  · rw [upd_same, merge_self (penK l 0 0) [] (by show [kCells, kUsed, kRest].Nodup; decide +kernel)]
    rfl
  · rw [upd_ne hlp, upd_same]
end
end Ef

set_option Elab.async false
set_option linter.all false
set_option maxRecDepth 100000
set_option maxHeartbeats 4000000
namespace Ef
open PySem PySem.Spec PyProof.Rows L2 He
theorem dg_rest {H : Hp} {p l : Addr} {u r : Int} (h : H p = some (.dK (penK l u r))) : DGet H p (.str "rest") (some (.int r)) := by
  have z := DGet.k (k := kRest) h
  rw [val_rest] at z
  exact z
theorem dg_used {H : Hp} {p l : Addr} {u r : Int} (h : H p = some (.dK (penK l u r))) : DGet H p (.str "used") (some (.int u)) := by
  have z := DGet.k (k := kUsed) h
  rw [val_used] at z
  exact z
theorem dg_cells {H : Hp} {p l : Addr} {u r : Int} (h : H p = some (.dK (penK l u r))) : DGet H p (.str "cells") (some (.ref l)) := by
  have z := DGet.k (k := kCells) h
  rw [val_cells] at z
  exact z
theorem dp_rest {H : Hp} {p l : Addr} {u r x : Int} (h : H p = some (.dK (penK l u r))) : DPut H p (.str "rest") (.int x) (upd H p (.dK (penK l u x))) :=
  .inl ⟨_, kRest, h, rfl, by show 3 < sizeLine; decide, by rw [put_rest]⟩
theorem dp_used {H : Hp} {p l : Addr} {u r x : Int} (h : H p = some (.dK (penK l u r))) : DPut H p (.str "used") (.int x) (upd H p (.dK (penK l x r))) :=
  .inl ⟨_, kUsed, h, rfl, by show 3 < sizeLine; decide, by rw [put_used]⟩
section
variable {P : Program} {w : World} {K : PySem.W.Frag} {mg : Str → Option Value} {base : Heap}
theorem bnd_draw : BindN "_law_draw" "_law_draw" s_l_draw ["_law_pen_here", "_law_many"] := fun _ _ _ _ _ _ us hl => match us, hl with | [_, _], _ => rfl
theorem sc_draw : FnScope ["_law_pen_here", "_law_many", "_law_digit", "_law_used", "_law_cell", "_law_mixed"] ["_law_pen_here", "_law_many"] (defScope s_l_draw) := ⟨rfl, rfl, rfl, by decide +kernel, rfl, by decide +kernel, by decide +kernel⟩
def pDraw (pn m : V) (H : Hp) (Q : VK) (_ : XK) : Prop := ∃ (p l : Addr) (n : Nat) (k : Int), pn = .ref p ∧ m = .int k ∧ Pen p l (n + 1) H ∧ 1 ≤ k ∧ k < 1073741824 ∧ ∀ (H' : Hp) (i : Int), Ex p H H' → Pen p l n H' → 0 ≤ i → i < k → Q (.int i) H'
theorem law_draw (T : Top K mg) : Clb P w K mg base CX0 1 "_law_draw" (sp2 pDraw) := by
  obtain ⟨fd, F⟩ := T.d_l_draw
  refine Clb.of T.g_l_draw F (fnN2 F sc_draw bnd_draw fun cdv A outer s H pn m Q E hr h => ?_)
  obtain ⟨p, l, n, k, rfl, rfl, ⟨ns, u, r, hp, hl, h63, u0, uF, r0⟩, k1, k30, q⟩ := h
  have hu := hu_of hr
  have hu1 := Nat.lt_of_succ_lt hu
  have nd := sc_draw.nd
  have uB : u < 1099511627776 := by have : u + ((n + 1 : Nat) : Int) ≤ 1099511627776 := uF; omega
  have fin : ∀ m : Int, 0 ≤ m % k ∧ m % k < k := fun m => ⟨Int.emod_nonneg _ (by omega), Int.emod_lt_of_pos _ (by omega)⟩
  have tail : ∃ t, PSs (cxB CX0 P w K mg base ["_law_pen_here", "_law_many", "_law_digit", "_law_used", "_law_cell", "_law_mixed"] "_law_draw" s_l_draw (ga K "_law_draw") cdv A outer s H E).nox ((defBody s_l_draw).drop 6) t ∧
      ∀ (c : Int) (d e : Option V) (H2 : Hp), Ex p H H2 → Pen p l n H2 → t { nx := fun _ H' => Q .non H', rt := Q } [some (.ref p), some (.int k), d, some (.int u), some (.int c), e] H2 := by
    refine ⟨_, pss_cons (ps_set (i := 5) nd rfl (.inl rfl) (pe_op op_add (pe_op op_add (pe_op op_mul (pe_op op_mod (pe_callTy (T := "int") call_int1 (by rfl) T.b_int (by decide +kernel) (pa_cons (pv 4) pa_nil)) pe_int) pe_int) (pe_op op_mul (pe_op op_mul pe_int (pv 3)) (pv 3))) pe_int))
      (pss_cons (ps_set (i := 5) nd rfl (.inl rfl) (pe_op op_mod (pe_callTy (T := "int") call_int1 (by rfl) T.b_int (by decide +kernel) (pa_cons (pv 5) pa_nil)) pe_int))
      (pss_cons (ps_set (i := 5) nd rfl (.inl rfl) (pe_op op_mod (pe_callTy (T := "int") call_int1 (by rfl) T.b_int (by decide +kernel) (pa_cons (pe_op op_add (pe_op op_add (pe_op op_add (pe_op op_mul (pv 5) (pv 5)) (pe_op op_mul pe_int (pv 5))) (pe_op op_mul pe_int (pv 3))) pe_int) pa_nil)) pe_int))
      (pss_one (ps_ret (pe_op op_mod (pe_callTy (T := "int") call_int1 (by rfl) T.b_int (by decide +kernel) (pa_cons (pe_op op_fdiv (pe_op op_mod (pe_callTy (T := "int") call_int1 (by rfl) T.b_int (by decide +kernel) (pa_cons (pe_op op_mul (pv 5) (pe_op op_add (pv 5) pe_int)) pa_nil)) pe_int) pe_int) pa_nil)) (pv 1)))))), ?_⟩
    intro c d e H2 ex2 pen2
    refine ⟨_, rfl, .inl ⟨_, rfl, _, _, rfl, rfl, (by show (0 : Int) < _; decide), _, _, rfl, rfl, .inr ⟨by decide, by decide⟩, _, rfl, _, _, rfl, rfl, .inl ⟨by decide, by decide⟩, _, rfl, _, _, rfl, rfl, .inr ⟨by omega, by omega⟩, _, _, rfl, rfl, _, _, rfl, rfl, ?_⟩⟩
    refine ⟨_, rfl, .inl ⟨_, rfl, _, _, rfl, rfl, (by show (0 : Int) < _; decide), ?_⟩⟩
    have b1 : ∀ y : Int, 0 ≤ y % 4294967197 ∧ y % 4294967197 < 4294967197 := fun y => ⟨Int.emod_nonneg _ (by omega), Int.emod_lt_of_pos _ (by omega)⟩
    have b2 : ∀ y : Int, 0 ≤ y % 4294967189 ∧ y % 4294967189 < 4294967189 := fun y => ⟨Int.emod_nonneg _ (by omega), Int.emod_lt_of_pos _ (by omega)⟩
    refine ⟨_, rfl, _, rfl, _, _, rfl, rfl, .inl ⟨Int.lt_of_lt_of_le (by decide) (b1 _).1, Int.lt_trans (b1 _).2 (by decide)⟩, _, rfl, _, _, rfl, rfl, .inl ⟨by decide, by decide⟩, _, _, rfl, rfl, _, rfl, _, _, rfl, rfl, .inl ⟨by decide, by decide⟩, _, _, rfl, rfl, _, _, rfl, rfl, .inl ⟨_, rfl, _, _, rfl, rfl, (by show (0 : Int) < _; decide), ?_⟩⟩
    refine ⟨_, rfl, _, rfl, _, _, rfl, rfl, _, _, rfl, rfl, .inl ⟨Int.lt_of_lt_of_le (by decide) (b2 _).1, Int.lt_trans (b2 _).2 (by decide)⟩, .inl ⟨_, rfl, _, _, rfl, rfl, (by show (0 : Int) < _; decide), _, _, rfl, rfl, ⟨by decide, by decide⟩, .inl ⟨_, rfl, _, rfl, _, _, rfl, rfl, by show (0 : Int) < k; omega, ?_⟩⟩⟩
    exact q _ _ ex2 pen2 (fin _).1 (fin _).2
  obtain ⟨t, ht, hq⟩ := tail
  refine ⟨_, pss_cons (ps_if (pt_cmp (pc_gt (pe_dget hu (pv 0) pe_str (fun _ _ => rfl)) pe_int))
      (pss_cons (ps_set (i := 2) nd rfl (.inl rfl) (pe_op op_mod (pe_callTy (T := "int") call_int1 (by rfl) T.b_int (by decide +kernel) (pa_cons (pe_dget hu (pv 0) pe_str (fun _ _ => rfl)) pa_nil)) (pv 1)))
      (pss_cons (ps_dput hu (pv 0) pe_str (pe_op op_fdiv (pe_dget hu (pv 0) pe_str (fun _ _ => rfl)) (pv 1)) rfl)
      (pss_one (ps_ret (pv 2))))) pss_nil)
    (pss_cons (ps_set (i := 3) nd rfl (.inl rfl) (pe_dget hu (pv 0) pe_str (fun _ _ => rfl)))
    (pss_cons (ps_dput hu (pv 0) pe_str (pe_op op_add (pv 3) pe_int) rfl)
    (pss_cons (ps_set (i := 4) nd rfl (.inl rfl) (pe_op op_add (pe_op op_mul pe_int (pv 3)) pe_int))
    (pss_cons (ps_if (pt_cmpR (op_neE hu1) (pe_dget hu (pv 0) pe_str (fun _ _ => rfl)) (pe_lst pa_nil) (nomark _))
      (pss_one (ps_set (i := 4) nd rfl (.inl rfl) (pe_ix ix_list (pe_dget hu (pv 0) pe_str (fun _ _ => rfl)) (pe_op op_mod (pe_callTy (T := "int") call_int1 (by rfl) T.b_int (by decide +kernel) (pa_cons (pv 3) pa_nil)) (pe_callB call_len (by rfl) T.b_len (by decide +kernel) (pa_cons (pe_dget hu (pv 0) pe_str (fun _ _ => rfl)) pa_nil))) (fun _ _ => rfl)))) pss_nil)
    (pss_cons (ps_if (PW.pt (pw_and (pt_cmp (pc_lt (pv 3) (pe_callB call_len (by rfl) T.b_len (by decide +kernel) (pa_cons (pe_dget hu (pv 0) pe_str (fun _ _ => rfl)) pa_nil)))) (pw_and1 (pt_cmp (pc_ge (pe_callB call_abs (by rfl) T.b_abs (by decide +kernel) (pa_cons (pv 4) pa_nil)) (pe_op op_pow pe_int pe_int))))))
      (pss_cons (ps_dput hu (pv 0) pe_str (pe_op op_fdiv (pe_op op_sub (pe_callB call_abs (by rfl) T.b_abs (by decide +kernel) (pa_cons (pv 4) pa_nil)) (pe_op op_pow pe_int pe_int)) (pv 1)) rfl)
      (pss_one (ps_ret (pe_op op_mod (pe_op op_sub (pe_callB call_abs (by rfl) T.b_abs (by decide +kernel) (pa_cons (pv 4) pa_nil)) (pe_op op_pow pe_int pe_int)) (pv 1))))) pss_nil) ht))))), ?_⟩
  refine ⟨_, rfl, p, _, rfl, dg_rest hp, _, _, rfl, rfl, _, rfl, ?_⟩
  by_cases hr0 : 0 < r
  · refine itT (decide_eq_true hr0) ⟨_, rfl, p, _, rfl, dg_rest hp, .inl ⟨_, rfl, _, rfl, _, _, rfl, rfl, by omega, ?_⟩⟩
    refine ⟨_, rfl, p, _, rfl, dg_rest hp, _, rfl, _, _, rfl, rfl, ⟨by omega, k30⟩, _, rfl, p, _, rfl, dp_rest hp, ?_⟩
    exact ⟨_, rfl, q _ _ (Ex.refl p H).upd ⟨ns, u, r / k, upd_same, by rw [upd_ne (ne_of hl hp (by intro z; cases z))]; exact hl, h63, u0, by omega, Int.ediv_nonneg (by omega) (by omega)⟩ (Int.emod_nonneg _ (by omega)) (Int.emod_lt_of_pos _ (by omega))⟩
  · refine itF (decide_eq_false hr0) ?_
    have hlp : l ≠ p := ne_of hl hp (by intro z; cases z)
    refine ⟨_, rfl, p, _, rfl, dg_used hp, _, rfl, _, _, rfl, rfl, _, rfl, p, _, rfl, dp_used hp, ?_⟩
    refine ⟨_, rfl, _, _, rfl, rfl, .inl (by omega), _, _, rfl, rfl, ?_⟩
    have hp1 : (upd H p (.dK (penK l (u + 1) r))) p = some (.dK (penK l (u + 1) r)) := upd_same
    have hl1 : (upd H p (.dK (penK l (u + 1) r))) l = some (.lst (ns.map V.int)) := by
      rw [upd_ne hlp]
      exact hl
    refine ⟨_, rfl, p, _, rfl, dg_cells hp1, by decide, fun e he => ?_⟩
    have s1 := Same.new (o := .lst []) he
    have hp2 := s1 _ _ hp1
    have hl2 := s1 _ _ hl1
    have ex2 : Ex p H (upd (upd H p (.dK (penK l (u + 1) r))) e (.lst [])) := (Ex.refl p H).upd.trans (Ex.of s1)
    refine ⟨l, e, _, rfl, rfl, .inl ⟨SqL.of hl2, SqL.of upd_same⟩, _, rfl, ?_⟩
    generalize upd (upd H p (.dK (penK l (u + 1) r))) e (.lst []) = H2 at hp2 hl2 ex2 ⊢
    have pen2 : Pen p l n H2 := ⟨ns, u + 1, r, hp2, hl2, h63, by omega, by have : u + ((n + 1 : Nat) : Int) ≤ Full := uF; omega, r0⟩
    have pen3 : ∀ x : Int, 0 ≤ x → Pen p l n (upd H2 p (.dK (penK l (u + 1) x))) := fun x hx => ⟨ns, u + 1, x, upd_same, by rw [upd_ne hlp]; exact hl2, h63, by omega, by have : u + ((n + 1 : Nat) : Int) ≤ Full := uF; omega, hx⟩
    by_cases hne : ns.map V.int = []
    · refine itF (by rw [decide_eq_true hne]; rfl) ?_
      refine ⟨_, rfl, _, rfl, p, _, rfl, dg_cells hp2, _, ns.length, rfl, .inl ⟨_, SqL.of hl2, by rw [List.length_map]⟩, _, _, rfl, rfl, _, rfl, ?_⟩
      have hn0 : ns.length = 0 := by
        cases ns with
        | nil => rfl
        | cons _ _ => cases hne
      exact itF (decide_eq_false (by omega)) (iteF (hq _ _ _ H2 ex2 pen2))
    · refine itT (by rw [decide_eq_false hne]; rfl) ?_
      have hpos : 0 < ns.length := by
        cases ns with
        | nil => exact absurd rfl hne
        | cons _ _ => exact Nat.zero_lt_succ _
      have hj0 : 0 ≤ u % (ns.length : Int) := Int.emod_nonneg _ (by omega)
      have hj1 : u % (ns.length : Int) < ns.length := Int.emod_lt_of_pos _ (by omega)
      have hj : (u % (ns.length : Int)).toNat < ns.length := by omega
      have hat : atI (ns.map V.int) (u % (ns.length : Int)) = some (.int (ns[(u % (ns.length : Int)).toNat]'hj)) := by
        have z := atI_nat (xs := ns.map V.int) (j := (u % (ns.length : Int)).toNat) (v := .int (ns[(u % (ns.length : Int)).toNat]'hj)) (by rw [List.getElem?_map, List.getElem?_eq_getElem hj]; rfl)
        rw [Int.toNat_of_nonneg hj0] at z
        exact z
      refine ⟨_, rfl, p, _, rfl, dg_cells hp2, _, rfl, .inl ⟨_, rfl, _, rfl, p, _, rfl, dg_cells hp2, _, ns.length, rfl, .inl ⟨_, SqL.of hl2, by rw [List.length_map]⟩, _, _, rfl, rfl, by show (0 : Int) < ns.length; omega, l, _, _, _, rfl, rfl, SqL.of hl2, hat, ?_⟩⟩
      generalize ns[(u % (ns.length : Int)).toNat]'hj = c
      refine ⟨_, rfl, _, rfl, p, _, rfl, dg_cells hp2, _, ns.length, rfl, .inl ⟨_, SqL.of hl2, by rw [List.length_map]⟩, _, _, rfl, rfl, _, rfl, ?_⟩
      by_cases b1 : u < (ns.length : Int)
      · refine itT (decide_eq_true b1) ⟨_, rfl, _, rfl, _, _, rfl, rfl, ⟨by decide, by decide, by decide⟩, _, _, rfl, rfl, _, rfl, ?_⟩
        by_cases b2 : (10 : Int) ^ (18 : Int).toNat ≤ (if c < 0 then -c else c)
        · refine itT (decide_eq_true b2) ⟨_, rfl, _, rfl, _, _, rfl, rfl, ⟨by decide, by decide, by decide⟩, _, _, rfl, rfl, _, rfl, _, _, rfl, rfl, ⟨by omega, k30⟩, _, rfl, p, _, rfl, dp_rest hp2, ?_⟩
          refine ⟨_, rfl, _, rfl, _, _, rfl, rfl, ⟨by decide, by decide, by decide⟩, _, _, rfl, rfl, _, rfl, _, _, rfl, rfl, by show (0 : Int) < k; omega, ?_⟩
          exact q _ _ ex2.upd (pen3 _ (Int.ediv_nonneg (by omega) (by omega))) (fin _).1 (fin _).2
        · exact itF (decide_eq_false b2) (hq _ _ _ H2 ex2 pen2)
      · exact itF (decide_eq_false b1) (iteF (hq _ _ _ H2 ex2 pen2))
end
end Ef

set_option Elab.async false
set_option linter.all false
set_option maxRecDepth 100000
set_option maxHeartbeats 4000000
namespace Ef
open PySem PySem.Spec PyProof.Rows L2 He
theorem atI_mem {α : Type} {xs : List α} {i : Int} (h0 : 0 ≤ i) (h1 : i < xs.length) : ∃ v, atI xs i = some v ∧ v ∈ xs := by
  have hj : i.toNat < xs.length := by omega
  refine ⟨xs[i.toNat]'hj, ?_, List.getElem_mem hj⟩
  have z := atI_nat (xs := xs) (j := i.toNat) (v := xs[i.toNat]'hj) (List.getElem?_eq_getElem hj)
  rw [Int.toNat_of_nonneg h0] at z
  exact z
def RowsTo (H : Hp) (xs : List V) (R : Rw) : Prop := Paired (fun x (r : List (Option Int)) => ∃ b, x = V.ref b ∧ H b = some (.tup (r.map oI))) xs R
theorem RowsTo.ex {p l : Addr} {n : Nat} {H H1 : Hp} {xs : List V} {R : Rw} (h : RowsTo H xs R) (hp : Pen p l n H) (k : Ex p H H1) : RowsTo H1 xs R :=
  paired_mono h fun _ _ ⟨b, e, hb⟩ => ⟨b, e, k _ _ hb (pen_ne hp hb (fun _ z => by cases z))⟩
theorem RowsTo.mut {H : Hp} {xs ys : List V} {R : Rw} {w : Addr} {o : HO} (h : RowsTo H xs R) (hw : H w = some (.lst ys)) : RowsTo (upd H w o) xs R :=
  paired_mono h fun _ _ ⟨b, e, hb⟩ => ⟨b, e, by rw [upd_ne (ne_of hb hw (by intro z; cases z))]; exact hb⟩
theorem RowsTo.same {H H1 : Hp} {xs : List V} {R : Rw} (h : RowsTo H xs R) (k : Same H H1) : RowsTo H1 xs R := paired_mono h fun _ _ ⟨b, e, hb⟩ => ⟨b, e, k _ _ hb⟩
/-- within a row -/
structure InvIn (p l f w : Addr) (H H3 : Hp) (n : Nat) (xs : List V) (R : Rw) (r : List (Option Int)) : Prop where
  ex : Ex p H H3
  pen : Pen p l n H3
  hf : H3 f = some (.lst xs)
  rs : RowsTo H3 xs R
  hw : H3 w = some (.lst (r.map oI))
theorem InvIn.draw {p l f w : Addr} {H H3 H4 : Hp} {n m : Nat} {xs : List V} {R : Rw} {r : List (Option Int)} (h : InvIn p l f w H H3 n xs R r) (k : Ex p H3 H4) (pen : Pen p l m H4) : InvIn p l f w H H4 m xs R r :=
  ⟨h.ex.trans k, pen, k _ _ h.hf (pen_ne h.pen h.hf (fun _ z => by cases z)), h.rs.ex h.pen k, k _ _ h.hw (pen_ne h.pen h.hw (fun _ z => by cases z))⟩
theorem InvIn.put {p l f w : Addr} {H H3 : Hp} {n m k : Nat} {xs : List V} {R : Rw} {r : List (Option Int)} (h : InvIn p l f w H H3 n xs R r) (h0 : Pen p l k H) (hn : H w = none) (hfw : f ≠ w) (hm : m ≤ n) (pp : Option Int) : InvIn p l f w H (upd H3 w (.lst (r.map oI ++ [oI pp]))) m xs R (r ++ [pp]) :=
  ⟨h.ex.mut hn, (Pen.upd h0 hn h.pen).less hm, by rw [upd_ne hfw]; exact h.hf, h.rs.mut h.hw, by rw [upd_same, List.map_append]; rfl⟩
section
variable {P : Program} {w : World} {K : PySem.W.Frag} {mg : Str → Option Value} {base : Heap}
theorem bnd_pick : BindN "_law_pick" "_law_pick" s_l_pick ["_law_pen_here", "_law_options"] := fun _ _ _ _ _ _ us hl => match us, hl with | [_, _], _ => rfl
theorem sc_pick : FnScope ["_law_pen_here", "_law_options"] ["_law_pen_here", "_law_options"] (defScope s_l_pick) := ⟨rfl, rfl, rfl, by decide +kernel, rfl, by decide +kernel, by decide +kernel⟩
def pPick (pn o : V) (H : Hp) (Q : VK) (_ : XK) : Prop := ∃ (p l a : Addr) (n : Nat) (xs : List V), pn = .ref p ∧ o = .ref a ∧ H a = some (.lst xs) ∧ Pen p l (n + 1) H ∧ 1 ≤ xs.length ∧ xs.length < 1000 ∧ ∀ (H' : Hp) (v : V), Ex p H H' → Pen p l n H' → v ∈ xs → Q v H'
theorem law_pick (T : Top K mg) : Clb P w K mg base CX0 2 "_law_pick" (sp2 pPick) := by
  obtain ⟨fd, F⟩ := T.d_l_pick
  refine Clb.of T.g_l_pick F (fnN2 F sc_pick bnd_pick fun cdv A outer s H pn o Q E hr h => ?_)
  obtain ⟨p, l, a, n, xs, rfl, rfl, ha, hp, h1, h2, q⟩ := h
  refine ⟨_, pss_one (ps_ret (pe_ix ix_list (pv 1) (pe_f (law_draw T) hr pass0 (pa_cons (pv 0) (pa_cons (pe_callB call_len (by rfl) T.b_len (by decide +kernel) (pa_cons (pv 1) pa_nil)) pa_nil))) (fun _ _ => rfl))), ?_⟩
  refine ⟨_, rfl, _, rfl, _, rfl, _, xs.length, rfl, .inl ⟨_, SqL.of ha, rfl⟩, _, _, rfl, p, l, n, _, rfl, rfl, hp, by omega, by omega, fun H1 i ex pen h0 hi => ?_⟩
  obtain ⟨v, hv, hm⟩ := atI_mem (xs := xs) h0 (by omega)
  exact ⟨a, xs, i, v, rfl, rfl, SqL.of (ex _ _ ha (pen_ne hp ha (fun _ z => by cases z))), hv, q H1 v ex pen hm⟩
theorem bnd_rows : BindN "_law_rows" "_law_rows" s_l_rows ["_law_pen_here", "_law_letters", "_law_top"] := fun _ _ _ _ _ _ us hl => match us, hl with | [_, _, _], _ => rfl
theorem sc_rows : FnScope ["_law_pen_here", "_law_letters", "_law_top", "_law_share", "_law_found", "_law_one", "_law_row", "_law_other", "_law_amount"] ["_law_pen_here", "_law_letters", "_law_top"] (defScope s_l_rows) := ⟨rfl, rfl, rfl, by decide +kernel, rfl, by decide +kernel, by decide +kernel⟩
def cRows : Nat := 120
def pRows (pn k t : V) (H : Hp) (Q : VK) (_ : XK) : Prop := ∃ (p l : Addr) (n kk : Nat) (tt : Int), pn = .ref p ∧ k = .int (kk : Int) ∧ t = .int tt ∧ Pen p l (n + cRows) H ∧ 1 ≤ kk ∧ kk ≤ 5 ∧ 0 ≤ tt ∧ tt ≤ 5 ∧ ∀ (H' : Hp) (v : V) (R : Rw), Ex p H H' → Pen p l n H' → RowsT H' v R → OkR kk R → Q v H'
theorem law_rows (T : Top K mg) : Clb P w K mg base CX0 3 "_law_rows" (sp3 pRows) := by
  obtain ⟨fd, F⟩ := T.d_l_rows
  refine Clb.of T.g_l_rows F (fnN3 F sc_rows bnd_rows fun cdv A outer s H pn k t Q E hr h => ?_)
  obtain ⟨p, l, n, kk, tt, rfl, rfl, rfl, hp, k1, k5, t0, t5, q⟩ := h
  have nd := sc_rows.nd
  have hr1 : Room 1 _ := hr.mono (by decide)
  refine ⟨_, pss_cons (ps_par (i := 3) (j := 4) rfl nd rfl rfl (by decide) rfl rfl (pa_cons (pe_f (law_pick T) hr pass0 (pa_cons (pv 0) (pa_cons (pe_lst (pa_cons pe_int (pa_cons pe_int (pa_cons pe_int (pa_cons pe_int pa_nil))))) pa_nil))) (pa_cons (pe_lst pa_nil) pa_nil)) rfl)
    (pss_cons (ps_for PassesOwn.never rfl (pi_range1 (by rfl) T.b_range (pa_cons (pv 1) pa_nil)) (pg_name (i := 5) nd rfl (.inl rfl))
      (pss_cons (ps_set (i := 6) nd rfl (.inl rfl) (pe_lst pa_nil))
      (pss_cons (ps_for PassesOwn.never rfl (pi_range1 (by rfl) T.b_range (pa_cons (pv 1) pa_nil)) (pg_name (i := 7) nd rfl (.inl rfl))
        (pss_cons (ps_set (i := 8) nd rfl (.inl rfl) (pe_f (law_pick T) hr pass0 (pa_cons (pv 0) (pa_cons (pe_lst (pa_cons pe_int (pa_cons (pe_f (law_draw T) hr1 pass0 (pa_cons (pv 0) (pa_cons (pe_op op_add (pv 2) pe_int) pa_nil))) (pa_cons (pe_f (law_draw T) hr1 pass0 (pa_cons (pv 0) (pa_cons (pe_op op_add (pv 2) pe_int) pa_nil))) pa_nil)))) pa_nil))))
        (pss_one (ps_expr (pe_bm PySem.F.plainAttrs_list PySem.F.slot_list_append PySem.F.type_list_append mt_append (pv 6) (pa_cons (pe_ifExp (pt_cmp (pc_eqI (pe_f (law_draw T) hr1 pass0 (pa_cons (pv 0) (pa_cons (pv 3) pa_nil))) pe_int)) pe_non (pv 8)) pa_nil))))))
      (pss_one (ps_expr (pe_bm PySem.F.plainAttrs_list PySem.F.slot_list_append PySem.F.type_list_append mt_append (pv 4) (pa_cons (pe_tupleOf (by rfl) T.b_tuple (pv 6)) pa_nil)))))))
    (pss_one (ps_ret (pe_tupleOf (by rfl) T.b_tuple (pv 4))))), ?_⟩
  refine ⟨_, rfl, by show 4 ≤ sizeLine; decide, fun a ha => ?_⟩
  have s1 := Same.new (o := .lst [V.int 2, .int 4, .int 9, .int 60]) ha
  refine ⟨_, _, rfl, p, l, a, n + 119, _, rfl, rfl, upd_same, hp.same s1, by decide, by decide, fun H1 sh ex1 pen1 hsh => ?_⟩
  obtain ⟨m, rfl, m1, m2⟩ : ∃ m : Int, sh = .int m ∧ 1 ≤ m ∧ m < 1073741824 := by
    simp at hsh
    rcases hsh with rfl | rfl | rfl | rfl <;> exact ⟨_, rfl, by decide, by decide⟩
  refine ⟨by decide, fun f hf => ⟨_, _, rfl, ?_⟩⟩
  have ex01 : Ex p H H1 := (Ex.of s1).trans ex1
  have ex0 : Ex p H (upd H1 f (.lst [])) := ex01.trans (Ex.of (Same.new hf))
  have pen0 : Pen p l (n + 119) (upd H1 f (.lst [])) := pen1.same (Same.new hf)
  have hfH : H f = none := ex01.back pen1 hf
  refine ⟨_, rfl, (kk : Int), rfl, by omega, by omega, for_range (lo := 0) (n := kk) (fun i σ H2 => ∃ u1 u2 u3 u4, σ = [some (.ref p), some (.int (kk : Int)), some (.int tt), some (.int m), some (.ref f), u1, u2, u3, u4] ∧ Ex p H H2 ∧ Pen p l (n + (5 - i) * 23) H2 ∧
      ∃ xs R, H2 f = some (.lst xs) ∧ RowsTo H2 xs R ∧ R.length = i ∧ ∀ r ∈ R, r.length = kk ∧ ∀ pp ∈ r, OkP pp)
    ⟨none, none, none, none, rfl, ex0, pen0.less (by omega), [], [], upd_same, .nil, rfl, fun r hr => by cases hr⟩ ?_ ?_⟩
  · rintro i σ H2 hi ⟨u1, u2, u3, u4, rfl, ex2, pen2, xs, R, hf2, pr2, hR, hall⟩
    refine ⟨by decide, fun w hw => ?_⟩
    have s3 := Same.new (o := .lst []) hw
    have hwH : H w = none := ex2.back pen2 hw
    have hwf : f ≠ w := fun z => by
      rw [← z, hf2] at hw
      cases hw
    refine ⟨_, rfl, (kk : Int), rfl, by omega, by omega, for_range (lo := 0) (n := kk) (fun j σ H3 => ∃ u3 u4, σ = [some (.ref p), some (.int (kk : Int)), some (.int tt), some (.int m), some (.ref f), some (.int (0 + (i : Int))), some (.ref w), u3, u4] ∧ ∃ r, InvIn p l f w H H3 (n + (4 - i) * 23 + 3 + (5 - j) * 4) xs R r ∧ r.length = j ∧ ∀ pp ∈ r, OkP pp)
      ⟨u3, u4, rfl, [], ⟨ex2.trans (Ex.of s3), (pen2.same s3).less (by omega), s3 _ _ hf2, pr2.same s3, upd_same⟩, rfl, fun pp hp => by cases hp⟩ ?_ ?_⟩
    · rintro j σ H3 hj ⟨u3, u4, rfl, r, inv, hrl, hrp⟩
      have pen3 := inv.pen
      refine ⟨_, rfl, ?_⟩
      refine ⟨_, rfl, _, rfl, _, _, rfl, rfl, _, _, rfl, p, l, n + (4 - i) * 23 + 3 + (5 - j) * 4 - 1, tt + 1, rfl, rfl, pen3.less (by omega), by omega, by omega, fun H4 i1 ex4 pen4 a0 a1 => ?_⟩
      refine ⟨_, rfl, _, rfl, _, _, rfl, rfl, _, _, rfl, p, l, n + (4 - i) * 23 + 3 + (5 - j) * 4 - 2, tt + 1, rfl, rfl, pen4.less (by omega), by omega, by omega, fun H5 i2 ex5 pen5 b0 b1 => ?_⟩
      refine ⟨by show 3 ≤ sizeLine; decide, fun q1 hq1 => ⟨_, _, rfl, p, l, q1, n + (4 - i) * 23 + 3 + (5 - j) * 4 - 3, _, rfl, rfl, upd_same, (pen5.same (Same.new hq1)).less (by omega), by show 1 ≤ 3; decide, by show 3 < 1000; decide, fun H6 am ex6 pen6 ham => ?_⟩⟩
      obtain ⟨y, rfl, y0, y5⟩ : ∃ y : Int, am = .int y ∧ 0 ≤ y ∧ y ≤ 5 := by
        simp at ham
        rcases ham with rfl | rfl | rfl
        · exact ⟨0, rfl, by decide, by decide⟩
        · exact ⟨i1, rfl, a0, by omega⟩
        · exact ⟨i2, rfl, b0, by omega⟩
      have inv6 := inv.draw (ex4.trans (ex5.trans ((Ex.of (Same.new hq1)).trans ex6))) pen6
      refine ⟨_, rfl, .inl ⟨rfl, _, SqL.of inv6.hw⟩, _, rfl, _, rfl, _, _, rfl, p, l, n + (4 - i) * 23 + 3 + (5 - j) * 4 - 4, m, rfl, rfl, pen6.less (by omega), m1, m2, fun H7 z ex7 pen7 z0 z1 => ⟨_, _, rfl, rfl, _, rfl, ?_⟩⟩
      have inv7 := inv6.draw ex7 pen7
      have hlen : (r.map oI).length < sizeLine := by
        rw [List.length_map, sizeLine_eq]
        omega
      by_cases c0 : z = 0
      · exact itT (decide_eq_true c0) ⟨w, _, _, rfl, rfl, inv7.hw, hlen, _, _, rfl, r ++ [none], inv7.put hp hwH hwf (by omega) none, by rw [List.length_append, hrl]; rfl, fun pp hpp => by
          rcases List.mem_append.mp hpp with h | h
          · exact hrp pp h
          · rw [List.mem_singleton.mp h]
            exact fun i e => by cases e⟩
      · exact itF (decide_eq_false c0) ⟨_, rfl, w, _, _, rfl, rfl, inv7.hw, hlen, _, _, rfl, r ++ [some y], inv7.put hp hwH hwf (by omega) (some y), by rw [List.length_append, hrl]; rfl, fun pp hpp => by
          rcases List.mem_append.mp hpp with h | h
          · exact hrp pp h
          · rw [List.mem_singleton.mp h]
            exact fun i e => by cases e; exact ⟨y0, y5⟩⟩
    · rintro σ H3 ⟨u3, u4, rfl, r, inv, hrl, hrp⟩
      refine ⟨_, rfl, .inl ⟨rfl, _, SqL.of inv.hf⟩, _, rfl, .inl ⟨w, _, rfl, SqL.of inv.hw, fun tu htu => ?_⟩⟩
      have s4 := Same.new (o := .tup (r.map oI)) htu
      have hxl : xs.length = i := (Paired.length pr2).trans hR
      refine ⟨f, xs, _, rfl, rfl, s4 _ _ inv.hf, by rw [hxl, sizeLine_eq]; omega, _, _, _, _, rfl, (inv.ex.trans (Ex.of s4)).mut hfH, (Pen.upd hp hfH (inv.pen.same s4)).less (by omega), xs ++ [.ref tu], R ++ [r], upd_same, ?_, by rw [List.length_append, hR]; rfl, ?_⟩
      · refine paired_app ((inv.rs.same s4).mut (s4 _ _ inv.hf)) (.cons ⟨tu, rfl, ?_⟩ .nil)
        rw [upd_ne (ne_of_none inv.hf htu).symm, upd_same]
      · intro r' hr'
        rcases List.mem_append.mp hr' with h | h
        · exact hall r' h
        · rw [List.mem_singleton.mp h]
          exact ⟨hrl, hrp⟩
  · rintro σ H2 ⟨u1, u2, u3, u4, rfl, ex2, pen2, xs, R, hf2, pr2, hR, hall⟩
    refine ⟨_, rfl, .inl ⟨f, xs, rfl, SqL.of hf2, fun tu htu => ?_⟩⟩
    have s4 := Same.new (o := .tup xs) htu
    exact q _ _ R (ex2.trans (Ex.of s4)) ((pen2.same s4).less (by omega)) ⟨tu, xs, rfl, upd_same, pr2.same s4⟩ ⟨hR, k1, k5, hall⟩
end
end Ef

set_option Elab.async false
set_option linter.all false
set_option maxRecDepth 100000
set_option maxHeartbeats 4000000
namespace Ef
open PySem PySem.Spec PyProof.Rows L2 He
def DelOk (m : Int) (ds : List Int) : Prop := ds.length ≤ 2 ∧ (∀ d ∈ ds, 1 ≤ d ∧ d ≤ G30) ∧ (ds.length = 2 → m ≤ ds.sum)
theorem delOk2 {m a b : Int} (a1 : 1 ≤ a) (a2 : a ≤ 1000000000000000000000000000000) (b1 : 1 ≤ b) (b2 : b ≤ 1000000000000000000000000000000) (h : m ≤ a + b) : DelOk m [a, b] := by
  refine ⟨by show 2 ≤ 2; decide, fun d hd => ?_, fun _ => by show m ≤ a + (b + 0); omega⟩
  simp at hd
  rcases hd with rfl | rfl
  · exact ⟨a1, a2⟩
  · exact ⟨b1, b2⟩
section
variable {P : Program} {w : World} {K : PySem.W.Frag} {mg : Str → Option Value} {base : Heap}
theorem bnd_delays : BindN "_law_delays" "_law_delays" s_l_delays ["_law_pen_here", "_law_length"] := fun _ _ _ _ _ _ us hl => match us, hl with | [_, _], _ => rfl
theorem sc_delays : FnScope ["_law_pen_here", "_law_length", "_law_road", "_law_one", "_law_other", "_law_parts", "_law_turns", "_law_first"] ["_law_pen_here", "_law_length"] (defScope s_l_delays) := ⟨rfl, rfl, rfl, by decide +kernel, rfl, by decide +kernel, by decide +kernel⟩
def pDelays (pn m : V) (H : Hp) (Q : VK) (_ : XK) : Prop := ∃ (p l : Addr) (n : Nat) (k : Int), pn = .ref p ∧ m = .int k ∧ Pen p l (n + 8) H ∧ 1 ≤ k ∧ k ≤ 40 ∧ ∀ (H' : Hp) (a : Addr) (ds : List Int), Ex p H H' → Pen p l n H' → H' a = some (.lst (ds.map V.int)) → DelOk k ds → Q (.ref a) H'
theorem p30 : (10 : Int) ^ (30 : Int).toNat = 1000000000000000000000000000000 := by decide +kernel
theorem law_delays (T : Top K mg) : Clb P w K mg base CX0 3 "_law_delays" (sp2 pDelays) := by
  obtain ⟨fd, F⟩ := T.d_l_delays
  refine Clb.of T.g_l_delays F (fnN2 F sc_delays bnd_delays fun cdv A outer s H pn m Q E hr h => ?_)
  obtain ⟨p, l, n, k, rfl, rfl, hp, k1, k40, q⟩ := h
  have nd := sc_delays.nd
  have hr1 : Room 1 _ := hr.mono (by decide)
  have hG : G30 = 1000000000000000000000000000000 := rfl
  have two : ∀ (H6 : Hp), Ex p H H6 → Pen p l n H6 → ∀ x y : Int, DelOk k [x, y] → ([V.int x, V.int y].length ≤ sizeLine ∧ ∀ g, H6 g = none → Q (.ref g) (upd H6 g (.lst [V.int x, V.int y]))) := fun H6 ex6 pen6 x y h => ⟨by show 2 ≤ sizeLine; decide, fun g hg => q _ g [x, y] (ex6.trans (Ex.of (Same.new hg))) (pen6.same (Same.new hg)) upd_same h⟩
  have tail2 : ∃ t, PSs (cxB CX0 P w K mg base ["_law_pen_here", "_law_length", "_law_road", "_law_one", "_law_other", "_law_parts", "_law_turns", "_law_first"] "_law_delays" s_l_delays (ga K "_law_delays") cdv A outer s H E).nox ((defBody s_l_delays).drop 6) t ∧
      ∀ (rd on ot : Int) (pt d e : Option V) (H2 : Hp), Ex p H H2 → Pen p l (n + 1) H2 → 1 ≤ on → on ≤ 50 → 1 ≤ ot → ot ≤ 100 → k ≤ on + ot → t { nx := fun _ H' => Q .non H', rt := Q } [some (.ref p), some (.int k), some (.int rd), some (.int on), some (.int ot), pt, d, e] H2 := by
    refine ⟨_, pss_cons (ps_if (pt_cmp (pc_eqI (pv 2) pe_int)) (pss_one (ps_ret (pe_lst (pa_cons (pe_op op_sub (pe_op op_pow pe_int pe_int) (pe_f (law_draw T) hr1 pass0 (pa_cons (pv 0) (pa_cons pe_int pa_nil)))) (pa_cons (pv 3) pa_nil))))) pss_nil)
      (pss_one (ps_ret (pe_ifExp (pt_cmp (pc_lt (pv 2) pe_int)) (pe_lst (pa_cons (pv 3) (pa_cons (pv 4) pa_nil))) (pe_lst (pa_cons (pv 4) (pa_cons (pv 3) pa_nil)))))), ?_⟩
    intro rd on ot pt d e H2 ex2 pen2 o1 o50 t1 t100 hk
    refine ⟨_, rfl, _, _, rfl, rfl, _, rfl, ?_⟩
    by_cases c1 : rd = 5
    · refine itT (decide_eq_true c1) ⟨_, _, rfl, rfl, ⟨by decide, by decide, by decide⟩, _, rfl, _, _, rfl, p, l, n, 9, rfl, rfl, pen2, by decide, by decide, fun H3 i ex3 pen3 i0 i9 => ⟨_, _, rfl, rfl, _, rfl, ?_⟩⟩
      have p30' := p30
      refine two H3 (ex2.trans ex3) pen3 _ _ ?_
      rw [p30']
      exact delOk2 (by omega) (by omega) (by omega) (by omega) (by omega)
    · refine itF (decide_eq_false c1) ⟨_, rfl, _, _, rfl, rfl, _, rfl, ?_⟩
      by_cases c2 : rd < 8
      · exact itT (decide_eq_true c2) ⟨_, rfl, _, rfl, two H2 ex2 (pen2.less (by omega)) _ _ (delOk2 (by omega) (by omega) (by omega) (by omega) hk)⟩
      · exact itF (decide_eq_false c2) ⟨_, rfl, _, rfl, two H2 ex2 (pen2.less (by omega)) _ _ (delOk2 (by omega) (by omega) (by omega) (by omega) (by omega))⟩
  obtain ⟨t2, ht2, hq2⟩ := tail2
  have tail : ∃ t, PSs (cxB CX0 P w K mg base ["_law_pen_here", "_law_length", "_law_road", "_law_one", "_law_other", "_law_parts", "_law_turns", "_law_first"] "_law_delays" s_l_delays (ga K "_law_delays") cdv A outer s H E).nox ((defBody s_l_delays).drop 5) t ∧
      ∀ (rd on ot pt : Int) (d e : Option V) (H2 : Hp), Ex p H H2 → Pen p l (n + 1) H2 → 1 ≤ on → on ≤ 50 → 1 ≤ ot → ot ≤ 100 → k ≤ on + ot → 2 ≤ pt → pt ≤ 3 → t { nx := fun _ H' => Q .non H', rt := Q } [some (.ref p), some (.int k), some (.int rd), some (.int on), some (.int ot), some (.int pt), d, e] H2 := by
    refine ⟨_, pss_cons (ps_if (PW.pt (pw_and (pt_cmp (pc_lt (pv 2) pe_int)) (pw_and1 (pt_cmp (pc_gt (pv 1) (pv 5))))))
      (pss_cons (ps_set (i := 6) nd rfl (.inl rfl) (pe_op op_fdiv (pe_op op_sub (pe_op op_add (pv 1) (pv 5)) pe_int) (pv 5)))
      (pss_cons (ps_set (i := 7) nd rfl (.inl rfl) (pe_op op_add pe_int (pe_f (law_draw T) hr1 pass0 (pa_cons (pv 0) (pa_cons (pe_op op_sub (pv 6) pe_int) pa_nil)))))
      (pss_one (ps_ret (pe_lst (pa_cons (pe_op op_mul (pv 5) (pv 7)) (pa_cons (pe_op op_mul (pv 5) (pe_op op_sub (pv 6) (pv 7))) pa_nil))))))) pss_nil) ht2, ?_⟩
    intro rd on ot pt d e H2 ex2 pen2 o1 o50 t1 t100 hk p2 p3
    refine ⟨_, rfl, _, _, rfl, rfl, _, rfl, ?_⟩
    by_cases c1 : rd < 5
    · refine itT (decide_eq_true c1) ⟨_, rfl, _, rfl, _, _, rfl, rfl, _, rfl, ?_⟩
      by_cases c2 : pt < k
      · refine itT (decide_eq_true c2) ⟨_, rfl, _, rfl, _, _, rfl, rfl, _, _, rfl, rfl, _, rfl, _, _, rfl, rfl, ⟨by omega, by omega⟩, ?_⟩
        have tb : ∃ tu, (k + pt - 1) / pt = tu ∧ 2 ≤ tu ∧ tu ≤ 40 ∧ k ≤ pt * tu := by
          refine ⟨_, rfl, ?_⟩
          rcases (show pt = 2 ∨ pt = 3 by omega) with rfl | rfl <;> omega
        obtain ⟨tu, hte, tu2, tu40, htk⟩ := tb
        dsimp only
        rw [hte]
        refine ⟨_, rfl, _, rfl, _, _, rfl, rfl, _, _, rfl, p, l, n, tu - 1, rfl, rfl, pen2, by omega, by omega, fun H3 i ex3 pen3 i0 i1 => ⟨_, _, rfl, rfl, ?_⟩⟩
        refine ⟨_, rfl, _, rfl, _, _, rfl, rfl, .inl ⟨by omega, by omega⟩, _, rfl, _, rfl, _, rfl, _, _, rfl, rfl, _, _, rfl, rfl, .inl ⟨by omega, by omega⟩, two H3 (ex2.trans ex3) pen3 _ _ ?_⟩
        rcases (show pt = 2 ∨ pt = 3 by omega) with rfl | rfl <;> exact delOk2 (by omega) (by omega) (by omega) (by omega) (by omega)
      · exact itF (decide_eq_false c2) (hq2 rd on ot _ d e H2 ex2 pen2 o1 o50 t1 t100 hk)
    · exact itF (decide_eq_false c1) (iteF (hq2 rd on ot _ d e H2 ex2 pen2 o1 o50 t1 t100 hk))
  obtain ⟨t3, ht3, hq3⟩ := tail
  refine ⟨_, pss_cons (ps_par (i := 2) (j := 3) rfl nd rfl rfl (by decide) rfl rfl (pa_cons (pe_f (law_draw T) hr1 pass0 (pa_cons (pv 0) (pa_cons pe_int pa_nil))) (pa_cons (pe_op op_add pe_int (pe_f (law_draw T) hr1 pass0 (pa_cons (pv 0) (pa_cons (pe_op op_add (pv 1) pe_int) pa_nil)))) pa_nil)) rfl)
    (pss_cons (ps_set (i := 4) nd rfl (.inl rfl) (pe_op op_add (pe_callB (call_max2 rfl) (by rfl) T.b_max (by decide +kernel) (pa_cons pe_int (pa_cons (pe_op op_sub (pv 1) (pv 3)) pa_nil)))
      (pe_f (law_draw T) hr1 pass0 (pa_cons (pv 0) (pa_cons (pe_f (law_pick T) hr pass0 (pa_cons (pv 0) (pa_cons (pe_lst (pa_cons pe_int (pa_cons pe_int (pa_cons (pe_op op_add (pv 1) pe_int) pa_nil)))) pa_nil))) pa_nil)))))
    (pss_cons (ps_set (i := 5) nd rfl (.inl rfl) (pe_op op_add pe_int (pe_f (law_draw T) hr1 pass0 (pa_cons (pv 0) (pa_cons pe_int pa_nil)))))
    (pss_cons (ps_if (pt_cmp (pc_lt (pv 2) pe_int)) (pss_one (ps_ret (pe_slice sl_list (pe_lst (pa_cons (pv 3) pa_nil)) po_none (po_some (pv 2))))) pss_nil)
    (pss_cons (ps_if (PW.pt (pw_and (pt_cmp (pc_eqI (pv 2) pe_int)) (pw_and1 (pt_cmp (pc_ge (pe_op op_mul pe_int (pv 3)) (pv 1)))))) (pss_one (ps_ret (pe_lst (pa_cons (pv 3) (pa_cons (pv 3) pa_nil))))) pss_nil) ht3)))), ?_⟩
  refine ⟨_, rfl, _, _, rfl, p, l, n + 7, 9, rfl, rfl, hp, by decide, by decide, fun H1 rd ex1 pen1 r0 r9 => ?_⟩
  refine ⟨_, rfl, _, rfl, _, _, rfl, rfl, _, _, rfl, p, l, n + 6, k + 1, rfl, rfl, pen1, by omega, by omega, fun H2 on ex2 pen2 o0 o1 => ⟨_, _, rfl, rfl, _, _, rfl, ?_⟩⟩
  refine ⟨_, rfl, _, rfl, _, _, rfl, rfl, _, _, rfl, ?_⟩
  refine ⟨_, rfl, _, rfl, _, rfl, _, _, rfl, rfl, by show 3 ≤ sizeLine; decide, fun a ha => ⟨_, _, rfl, p, l, a, n + 5, _, rfl, rfl, upd_same, pen2.same (Same.new ha), by show 1 ≤ 3; decide, by show 3 < 1000; decide, fun H3 bd ex3 pen3 hbd => ?_⟩⟩
  obtain ⟨b, rfl, b1, b42⟩ : ∃ b : Int, bd = .int b ∧ 1 ≤ b ∧ b ≤ 42 := by
    simp at hbd
    rcases hbd with rfl | rfl | rfl
    · exact ⟨_, rfl, by decide, by decide⟩
    · exact ⟨_, rfl, by decide, by decide⟩
    · exact ⟨_, rfl, by omega, by omega⟩
  refine ⟨_, _, rfl, p, l, n + 4, b, rfl, rfl, pen3, b1, by omega, fun H4 ot ex4 pen4 t0 t1 => ⟨_, _, rfl, rfl, ?_⟩⟩
  refine ⟨_, rfl, _, _, rfl, p, l, n + 3, 2, rfl, rfl, pen4, by decide, by decide, fun H5 pt ex5 pen5 p0 p1 => ⟨_, _, rfl, rfl, ?_⟩⟩
  have ex15 : Ex p H H5 := ex1.trans (ex2.trans ((Ex.of (Same.new ha)).trans (ex3.trans (ex4.trans ex5))))
  generalize hmx : (if k - (1 + on) > 1 then k - (1 + on) else 1) = mx
  have hmx1 : 1 ≤ mx ∧ k - (1 + on) ≤ mx ∧ mx ≤ 41 := by
    rw [← hmx]
    split <;> omega
  refine ⟨_, rfl, _, _, rfl, rfl, _, rfl, ?_⟩
  by_cases c1 : rd < 2
  · refine itT (decide_eq_true c1) ⟨_, rfl, by show 1 ≤ sizeLine; decide, fun f hf => ⟨_, rfl, _, rfl, f, _, rfl, SqL.of upd_same, fun g hg => ?_⟩⟩
    have exf := ex15.trans ((Ex.of (Same.new (o := .lst [V.int (1 + on)]) hf)).trans (Ex.of (Same.new (o := .lst (cutV [V.int (1 + on)] none (some rd))) hg)))
    have penf := ((pen5.same (Same.new (o := .lst [V.int (1 + on)]) hf)).same (Same.new (o := .lst (cutV [V.int (1 + on)] none (some rd))) hg)).less (show n ≤ n + 3 by omega)
    rcases (show rd = 0 ∨ rd = 1 by omega) with rfl | rfl
    · exact q _ g [] exf penf upd_same ⟨by decide, (fun d hd => by cases hd), (fun z => by cases z)⟩
    · refine q _ g [1 + on] exf penf upd_same ⟨by show 1 ≤ 2; decide, fun d hd => ?_, (fun z => by cases z)⟩
      rw [List.mem_singleton.mp hd, hG]
      omega
  · have next := hq3 rd (1 + on) (mx + ot) (2 + pt) none none H5 ex15 (pen5.less (by omega)) (by omega) (by omega) (by omega) (by omega) (by omega) (by omega) (by omega)
    refine itF (decide_eq_false c1) ⟨_, rfl, _, _, rfl, rfl, _, rfl, ?_⟩
    by_cases c2 : rd = 2
    · refine itT (decide_eq_true c2) ⟨_, rfl, _, _, rfl, rfl, .inl ⟨by decide, by decide⟩, _, rfl, _, _, rfl, rfl, _, rfl, ?_⟩
      by_cases c3 : k ≤ 2 * (1 + on)
      · exact itT (decide_eq_true c3) ⟨_, rfl, _, rfl, two H5 ex15 (pen5.less (by omega)) _ _ (delOk2 (by omega) (by omega) (by omega) (by omega) (by omega))⟩
      · exact itF (decide_eq_false c3) next
    · exact itF (decide_eq_false c2) (iteF next)
end
end Ef

set_option Elab.async false
set_option linter.all false
set_option maxRecDepth 100000
set_option maxHeartbeats 4000000
namespace Ef
open PySem PySem.Spec PyProof.Rows L2 He
/-! ### the law's own songs: plain tuples -/
def LEch (H : Hp) (x : V) (e : Int × Rw) : Prop := ∃ c t, x = .ref c ∧ H c = some (.tup [.int e.1, t]) ∧ RowsT H t e.2
def LSong (H : Hp) (v : V) (s : Sg) : Prop := ∃ a b xs, v = .ref a ∧ H a = some (.tup [.int (s.k : Int), .int s.n, .ref b]) ∧ H b = some (.tup xs) ∧ Paired (LEch H) xs s.es
theorem LEch.fi {K : PySem.W.Frag} {H H1 : Hp} (k : Fi K H H1) {x : V} {e : Int × Rw} (h : LEch H x e) : LEch H1 x e := by
  obtain ⟨c, t, e1, h1, h2⟩ := h
  exact ⟨c, t, e1, k _ _ h1 rfl, h2.fi k⟩
theorem LSong.fi {K : PySem.W.Frag} {H H1 : Hp} (k : Fi K H H1) {v : V} {s : Sg} (h : LSong H v s) : LSong H1 v s := by
  obtain ⟨a, b, xs, e, h1, h2, h3⟩ := h
  exact ⟨a, b, xs, e, k _ _ h1 rfl, k _ _ h2 rfl, paired_mono h3 fun _ _ z => z.fi k⟩
theorem LEch.same {H H1 : Hp} (k : Same H H1) {x : V} {e : Int × Rw} (h : LEch H x e) : LEch H1 x e := by
  obtain ⟨c, t, e1, h1, h2⟩ := h
  exact ⟨c, t, e1, k _ _ h1, h2.same k⟩
theorem LSong.same {H H1 : Hp} (k : Same H H1) {v : V} {s : Sg} (h : LSong H v s) : LSong H1 v s := by
  obtain ⟨a, b, xs, e, h1, h2, h3⟩ := h
  exact ⟨a, b, xs, e, k _ _ h1, k _ _ h2, paired_mono h3 fun _ _ z => z.same k⟩
/-- a list changes: the echoes stay -/
theorem LEch.mut {H : Hp} {D : Addr} {ys : List V} {o : HO} (hD : H D = some (.lst ys)) {x : V} {e : Int × Rw} (h : LEch H x e) : LEch (upd H D o) x e := by
  have ne : ∀ {c : Addr} {zs : List V}, H c = some (.tup zs) → (upd H D o) c = some (.tup zs) := fun {c zs} hc => by
    rw [upd_ne (ne_of hc hD (by intro z; cases z))]
    exact hc
  obtain ⟨c, t, e1, h1, a, xs, e2, h2, p⟩ := h
  exact ⟨c, t, e1, ne h1, a, xs, e2, ne h2, paired_mono p fun _ _ ⟨b, e, hb⟩ => ⟨b, e, ne hb⟩⟩
section
variable {P : Program} {w : World} {K : PySem.W.Frag} {mg : Str → Option Value} {base : Heap}
theorem bnd_lsong : BindN "_law_song" "_law_song" s_l_song ["_law_pen_here", "_law_letters", "_law_length", "_law_top"] := fun _ _ _ _ _ _ us hl => match us, hl with | [_, _, _, _], _ => rfl
theorem sc_lsong : FnScope ["_law_pen_here", "_law_letters", "_law_length", "_law_top", "_law_delay"] ["_law_pen_here", "_law_letters", "_law_length", "_law_top"] (defScope s_l_song) := ⟨rfl, rfl, rfl, by decide +kernel, rfl, by decide +kernel, by decide +kernel⟩
def cSong : Nat := 250
def pLSong (pn k m t : V) (H : Hp) (Q : VK) (_ : XK) : Prop := ∃ (p l : Addr) (n kk : Nat) (mm tt : Int), pn = .ref p ∧ k = .int (kk : Int) ∧ m = .int mm ∧ t = .int tt ∧ Pen p l (n + cSong) H ∧ 1 ≤ kk ∧ kk ≤ 5 ∧ 1 ≤ mm ∧ mm ≤ 40 ∧ 0 ≤ tt ∧ tt ≤ 5 ∧ ∀ (H' : Hp) (v : V) (s : Sg), Ex p H H' → Pen p l n H' → LSong H' v s → OkSg s → Q v H'
theorem law_song (T : Top K mg) : Clb P w K mg base CX0 4 "_law_song" (sp4 pLSong) := by
  obtain ⟨fd, F⟩ := T.d_l_song
  refine Clb.of T.g_l_song F (fnN4 F sc_lsong bnd_lsong fun cdv A outer s0 H pn k m t Q E hr h => ?_)
  obtain ⟨p, l, n, kk, mm, tt, rfl, rfl, rfl, rfl, hp, k1, k5, m1, m40, t0, t5, q⟩ := h
  have nd := sc_lsong.nd
  refine ⟨_, pss_one (ps_ret (pe_tup (pa_cons (pv 1) (pa_cons (pv 2) (pa_cons (pe_tupleOf (by rfl) T.b_tuple (pe_lc (own := [("_law_delay", 4)]) (g := gName 4) (tt := tYes) rfl nd (pi_list (pe_f (law_delays T) hr pass0 (pa_cons (pv 0) (pa_cons (pv 2) pa_nil))))
    (blkOk_by (N := ["_law_pen_here", "_law_letters", "_law_length", "_law_top", "_law_delay"]) (sc := defScope s_l_song) (by decide +kernel)) (fun _ _ _ _ _ => pg_name (i := 4) nd rfl (.inl rfl)) (fun _ _ _ _ _ => pts_nil)
    (fun _ _ _ _ _ => pe_tup (pa_cons (pv 4) (pa_cons (pe_f (law_rows T) hr pass0 (pa_cons (pv 0) (pa_cons (pv 1) (pa_cons (pv 3) pa_nil)))) pa_nil))))) pa_nil))))), ?_⟩
  refine ⟨_, rfl, _, rfl, _, rfl, _, rfl, _, _, rfl, p, l, n + 240, mm, rfl, rfl, hp.less (by show n + 248 ≤ n + 250; omega), m1, m40, fun H1 a ds ex1 pen1 ha hds => ?_⟩
  obtain ⟨d2, dr, dsum⟩ := hds
  refine ⟨a, rfl, ⟨_, SqL.of ha⟩, fun D nD => lc_list (K := K) (a := a) (xs := ds.map V.int) (fun i H2 => Ex p H1 H2 ∧ Pen p l (n + (2 - i) * 120) H2 ∧ H2 a = some (.lst (ds.map V.int)) ∧ ∃ xs es, H2 D = some (.lst xs) ∧ Paired (LEch H2) xs es ∧ es.map (·.1) = ds.take i ∧ ∀ e ∈ es, OkR kk e.2)
    ⟨Ex.of (Same.new nD), (pen1.same (Same.new nD)).less (by omega), Same.new nD _ _ ha, [], [], upd_same, .nil, rfl, fun e he => by cases he⟩ (fun i H2 _ h => SqL.of h.2.2.1) ?_ ?_⟩
  · rintro i x H2 hi ⟨ex2, pen2, ha2, xs, es, hD, pr, hes, hok⟩
    rw [List.getElem?_map] at hi
    cases ei : ds[i]? with
    | none => rw [ei] at hi; cases hi
    | some d =>
      rw [ei] at hi
      obtain rfl : V.int d = x := Option.some.inj hi
      have hil := (List.getElem?_eq_some_iff.mp ei).1
      refine ⟨rfl, ?_⟩
      refine ⟨_, rfl, _, rfl, _, rfl, _, rfl, _, _, _, rfl, p, l, n + (2 - (i + 1)) * 120, kk, tt, rfl, rfl, rfl, pen2.less (by show n + (2 - (i + 1)) * 120 + 120 ≤ _; omega), k1, k5, t0, t5, fun H3 rv R ex3 pen3 hR okR => ⟨by show 2 ≤ sizeLine; decide, fun u hu => ?_⟩⟩
      have s4 := Same.new (o := .tup [V.int d, rv]) hu
      have nD2 : D ≠ p := pen_ne pen2 hD (fun _ z => by cases z)
      have na2 : a ≠ p := pen_ne pen2 ha2 (fun _ z => by cases z)
      have hD4 := s4 _ _ (ex3 _ _ hD nD2)
      have fi3 : Fi K H2 (upd H3 u (.tup [V.int d, rv])) := (ex3.fi pen2).trans (Fi.of s4)
      have hal : xs.length = i := by
        have h1 := Paired.length pr
        have h2 := congrArg List.length hes
        rw [List.length_map, List.length_take] at h2
        omega
      have aD : a ≠ D := fun z => by rw [z, nD] at ha; cases ha
      refine ⟨xs, hD4, by rw [hal, sizeLine_eq]; omega, (ex2.trans (ex3.trans (Ex.of s4))).mut nD, Pen.upd pen1 nD (pen3.same s4), by rw [upd_ne aD]; exact s4 _ _ (ex3 _ _ ha2 na2), xs ++ [.ref u], es ++ [(d, R)], upd_same, ?_, ?_, ?_⟩
      · exact paired_app (paired_mono pr fun _ _ z => LEch.mut hD4 (z.fi fi3)) (.cons (LEch.mut hD4 ⟨u, rv, rfl, upd_same, hR.same s4⟩) .nil)
      · rw [List.map_append, hes, take_more ei]
        rfl
      · intro e he
        rcases List.mem_append.mp he with h | h
        · exact hok e h
        · rw [List.mem_singleton.mp h]
          exact okR
  · rintro H2 ⟨ex2, pen2, ha2, xs, es, hD, pr, hes, hok⟩
    rw [List.length_map, List.take_length] at hes
    refine .inl ⟨D, xs, rfl, SqL.of hD, fun b hb => ⟨by show 3 ≤ sizeLine; decide, fun c hc => ?_⟩⟩
    have s5 := Same.new (o := .tup xs) hb
    have s6 := Same.snd (o := .tup [V.int (kk : Int), .int mm, .ref b]) s5 hc
    have hle : es.length = ds.length := by rw [← hes, List.length_map]
    refine q _ _ ⟨kk, mm, es⟩ (ex1.trans (ex2.trans (Ex.of s6))) ((pen2.same s6).less (by omega)) ⟨c, b, xs, rfl, upd_same, by rw [upd_ne (ne_of_none upd_same hc)]; exact upd_same, paired_mono pr fun _ _ z => z.same s6⟩ ⟨k1, k5, m1, m40, by show es.length ≤ 2; omega, fun e he => ?_, fun h2 => ?_⟩
    · have := dr e.1 (by rw [← hes]; exact List.mem_map.mpr ⟨e, he, rfl⟩)
      exact ⟨this.1, this.2, hok e he⟩
    · show mm ≤ (es.map (·.1)).sum
      rw [hes]
      exact dsum (by rw [← hle]; exact h2)
theorem bnd_long : BindN "_law_long_song" "_law_long_song" s_l_long_song ["_law_pen_here", "_law_letters", "_law_top"] := fun _ _ _ _ _ _ us hl => match us, hl with | [_, _, _], _ => rfl
theorem sc_long : FnScope ["_law_pen_here", "_law_letters", "_law_top", "_law_length"] ["_law_pen_here", "_law_letters", "_law_top"] (defScope s_l_long_song) := ⟨rfl, rfl, rfl, by decide +kernel, rfl, by decide +kernel, by decide +kernel⟩
def cLong : Nat := 260
def pLong (pn k t : V) (H : Hp) (Q : VK) (_ : XK) : Prop := ∃ (p l : Addr) (n kk : Nat) (tt : Int), pn = .ref p ∧ k = .int (kk : Int) ∧ t = .int tt ∧ Pen p l (n + cLong) H ∧ 1 ≤ kk ∧ kk ≤ 5 ∧ 0 ≤ tt ∧ tt ≤ 5 ∧ ∀ (H' : Hp) (v : V) (s : Sg), Ex p H H' → Pen p l n H' → LSong H' v s → OkSg s → Q v H'
theorem law_long_song (T : Top K mg) : Clb P w K mg base CX0 5 "_law_long_song" (sp3 pLong) := by
  obtain ⟨fd, F⟩ := T.d_l_long_song
  refine Clb.of T.g_l_long_song F (fnN3 F sc_long bnd_long fun cdv A outer s0 H pn k t Q E hr h => ?_)
  obtain ⟨p, l, n, kk, tt, rfl, rfl, rfl, hp, k1, k5, t0, t5, q⟩ := h
  have nd := sc_long.nd
  have hr1 : Room 1 _ := hr.mono (by decide)
  refine ⟨_, pss_cons (ps_set (i := 3) nd rfl (.inl rfl) (pe_f (law_pick T) (hr.mono (by decide)) pass0 (pa_cons (pv 0) (pa_cons (pe_lst (pa_cons (pe_op op_add pe_int (pe_f (law_draw T) hr1 pass0 (pa_cons (pv 0) (pa_cons pe_int pa_nil)))) (pa_cons (pe_op op_add pe_int (pe_f (law_draw T) hr1 pass0 (pa_cons (pv 0) (pa_cons pe_int pa_nil)))) (pa_cons pe_int pa_nil)))) pa_nil))))
    (pss_one (ps_ret (pe_f (law_song T) hr pass0 (pa_cons (pv 0) (pa_cons (pv 1) (pa_cons (pv 3) (pa_cons (pv 2) pa_nil))))))), ?_⟩
  refine ⟨_, rfl, _, rfl, _, _, rfl, p, l, n + 259, 40, rfl, rfl, hp, by decide, by decide, fun H1 i1 ex1 pen1 a0 a1 => ⟨_, _, rfl, rfl, ?_⟩⟩
  refine ⟨_, rfl, _, _, rfl, p, l, n + 258, 11, rfl, rfl, pen1, by decide, by decide, fun H2 i2 ex2 pen2 b0 b1 => ⟨_, _, rfl, rfl, by show 3 ≤ sizeLine; decide, fun f hf => ?_⟩⟩
  refine ⟨_, _, rfl, p, l, f, n + 257, _, rfl, rfl, upd_same, pen2.same (Same.new hf), by show 1 ≤ 3; decide, by show 3 < 1000; decide, fun H3 mv ex3 pen3 hm => ?_⟩
  obtain ⟨m, rfl, m1, m40⟩ : ∃ m : Int, mv = .int m ∧ 1 ≤ m ∧ m ≤ 40 := by
    simp at hm
    rcases hm with rfl | rfl | rfl
    · exact ⟨_, rfl, by omega, by omega⟩
    · exact ⟨_, rfl, by omega, by omega⟩
    · exact ⟨_, rfl, by decide, by decide⟩
  refine ⟨_, rfl, _, rfl, _, rfl, _, rfl, _, _, _, _, rfl, p, l, n, kk, m, tt, rfl, rfl, rfl, rfl, pen3.less (by show n + 250 ≤ _; omega), k1, k5, m1, m40, t0, t5, fun H4 v s ex4 pen4 hs ok => ?_⟩
  exact q H4 v s (ex1.trans (ex2.trans ((Ex.of (Same.new hf)).trans (ex3.trans ex4)))) pen4 hs ok
end
end Ef

set_option Elab.async false
set_option linter.all false
set_option maxRecDepth 100000
set_option maxHeartbeats 4000000
namespace Ef
open PySem PySem.Spec PyProof.Rows L2 He
def E100 : Nat := 10 ^ 100
theorem small_int {i : Int} (h : i.natAbs < 10 ^ 100) : SmallD (.int i) := by
  refine ⟨?_, ?_, ?_⟩
  · simp only [PyData.showable]
    refine decide_eq_true ?_
    by_cases h0 : i.natAbs = 0
    · rw [h0]; decide
    · exact (Nat.log2_lt h0).mpr (Nat.lt_of_lt_of_le h (by decide +kernel))
  · simp only [PyData.shown]
    have e := int_text_length_le10 (k := 100) (by decide) h
    rw [PySem.ofString_length, sizeLine_eq]
    omega
  · simp [PyData.depth]
theorem any_int {H : Hp} {i : Int} (h : i.natAbs < 10 ^ 100) : AnyD H (.int i) := ⟨true, _, .int i, small_int h⟩
theorem big100 : (1000000000000000000000000000000000000000000000000000000000000 : Nat) < 10 ^ 100 := by decide +kernel
theorem any_G {H : Hp} {i : Int} (h0 : 0 ≤ i) (h1 : i ≤ BigI) : AnyD H (.int i) := by
  refine any_int (Nat.lt_of_le_of_lt ?_ big100)
  have h1 : i ≤ 1000000000000000000000000000000000000000000000000000000000000 := h1
  omega
theorem G_Big {i : Int} (h : i ≤ G30) : i ≤ BigI := by
  have h : i ≤ 1000000000000000000000000000000 := h
  show i ≤ 1000000000000000000000000000000000000000000000000000000000000
  omega
theorem passF {X : Cx} : Passes (L2N.CX X.prog X.w) X (fun _ _ _ => False) := fun _ _ _ _ _ _ _ c => by
  obtain ⟨_, _, _, _, _, _, _, _, _, _, _, _, he⟩ := c
  exact he.elim
/-- a table is made -/
theorem tab_made {K : PySem.W.Frag} {H : Hp} {v : V} {n : Nat} {R : Rw} {x dx : Addr} {Qx : Hp → Prop} {E : XK} (ok : OkR n R) (hR : RowsT H v R ∨ RowsL H v R) (hx : H x = Option.none) (hdx : H dx = Option.none) (hne : dx ≠ x)
    (q : ∀ H', Same H H' → TabAt K H' (.ref x) R → Qx H') : sp2 (pTabInit K) (V.ref x :: [v]) (upd (upd H dx (.own x)) x (.ins (ga K "Table") dx [])) (fun v H2 => v = .non ∧ Qx H2) E := by
  have s1 : Same H (upd (upd H dx (.own x)) x (.ins (ga K "Table") dx [])) := Same.snd (Same.new hdx) (by rw [upd_ne (Ne.symm hne)]; exact hx)
  refine ⟨_, _, rfl, x, dx, n, R, rfl, upd_same, ok, ?_, fun H' t fr hp ht => ⟨rfl, q H' (fun b o hb => fr b o (s1 _ _ hb) (ne_of_none hb hx)) ⟨x, dx, t, rfl, hp, ht⟩⟩⟩
  rcases hR with h | h
  · exact .inl (h.same s1)
  · exact .inr (h.same s1)
section
variable {P : Program} {w : World} {K : PySem.W.Frag} {mg : Str → Option Value} {base : Heap}
theorem bnd_made : BindN "_law_made" "_law_made" s_l_made ["_law_song_here"] := fun _ _ _ _ _ _ us hl => match us, hl with | [_], _ => rfl
theorem sc_made : FnScope ["_law_song_here", "_law_letters", "_law_length", "_law_echoes", "_law_told", "_law_delay", "_law_rows_here"] ["_law_song_here"] (defScope s_l_made) := ⟨rfl, rfl, rfl, by decide +kernel, rfl, by decide +kernel, by decide +kernel⟩
def pMade (K : PySem.W.Frag) (v : V) (H : Hp) (Q : VK) (_ : XK) : Prop := ∃ s, LSong H v s ∧ OkSg s ∧ ∀ H' v', Same H H' → SongAt K H' v' s → Q v' H'
theorem law_made (T : Top K mg) : Clb P w K mg base CX0 7 "_law_made" (sp1 (pMade K)) := by
  obtain ⟨fd, F⟩ := T.d_l_made
  obtain ⟨ft, Ft⟩ := T.d_Table_init
  obtain ⟨fs, Fs⟩ := T.d_Song_init
  refine Clb.of T.g_l_made F (fnN1 F sc_made bnd_made fun cdv A outer s0 H v Q E hr h => ?_)
  obtain ⟨s, ⟨a, b, xs, rfl, ha, hb, pr⟩, ok, q⟩ := h
  have nd := sc_made.nd
  have hu1 := Nat.lt_of_succ_lt (hu_of hr)
  refine ⟨_, pss_cons (ps_asg (pv 0) (pg_tup rfl (pgs_cons (pg_name (i := 1) nd rfl (.inl rfl)) (pgs_cons (pg_name (i := 2) nd rfl (.inl rfl)) (pgs_cons (pg_name (i := 3) nd rfl (.inl rfl)) pgs_nil)))))
    (pss_cons (ps_setLc (i := 4) (own := [("_law_delay", 5), ("_law_rows_here", 6)]) (g := gTup K 2 (gCons (gName 5) (gCons (gName 6) gNil))) (tt := tYes) (te := tTup (tCons (tVar 5) (tCons (StX.tMakeR (ga K "Table") (sp2 (pTabInit K)) E (tCons (tVar 6) tNil)) tNil))) rfl nd rfl rfl rfl (pi_tup (pv 3))
        (blkOk_by (N := ["_law_song_here", "_law_letters", "_law_length", "_law_echoes", "_law_told", "_law_delay", "_law_rows_here"]) (sc := defScope s_l_made) (by decide +kernel))
        (fun _ _ _ _ _ => pg_tup rfl (pgs_cons (pg_name (i := 5) nd rfl (.inl rfl)) (pgs_cons (pg_name (i := 6) nd rfl (.inl rfl)) pgs_nil))) (fun _ _ _ _ _ => pts_nil)
        (fun _ _ _ _ _ => pe_tup (pa_cons (pv 5) (pa_cons (StX.pe_makeR T.k_Table (Table_init T Ft) (hr.mono (by decide)) (by rfl) T.g_Table pass0 (pa_cons (pv 6) pa_nil)) pa_nil))))
    (pss_cons (ps_if (pt_cmpR (op_eqE hu1) (pv 4) (pe_lst pa_nil) (nomark _)) (pss_one (ps_ret (StX.pe_makeR T.k_Song (Song_init T Fs) hr (by rfl) T.g_Song passF (pa_cons (pv 1) (pa_cons (pv 2) pa_nil))))) pss_nil)
    (pss_cons (ps_if (pt_cmpR op_eq (pe_callB call_len (by rfl) T.b_len (by decide +kernel) (pa_cons (pv 4) pa_nil)) pe_int (nomark _)) (pss_one (ps_ret (StX.pe_makeR T.k_Song (Song_init T Fs) hr (by rfl) T.g_Song passF (pa_cons (pv 1) (pa_cons (pv 2) (pa_cons (pe_ix ix_list (pv 4) pe_int (fun _ _ => rfl)) pa_nil)))))) pss_nil)
    (pss_one (ps_ret (StX.pe_makeR T.k_Song (Song_init T Fs) hr (by rfl) T.g_Song passF (pa_cons (pv 1) (pa_cons (pv 2) (pa_cons (pe_ix ix_list (pv 4) pe_int (fun _ _ => rfl)) (pa_cons (pe_ix ix_list (pv 4) pe_int (fun _ _ => rfl)) pa_nil)))))))))), ?_⟩
  refine ⟨_, rfl, a, _, rfl, SqT.of ha, rfl, _, _, rfl, _, _, rfl, _, _, rfl, ⟨rfl, ?_⟩⟩
  have hxl : xs.length = s.es.length := Paired.length pr
  refine ⟨_, rfl, b, rfl, ⟨_, SqT.of hb⟩, fun D nD => lc_tup (K := K) (a := b) (xs := xs) (fun i H2 => Same H H2 ∧ ∃ ys, H2 D = some (.lst ys) ∧ Paired (EchoV K H2) ys ((s.es.take i).map vE)) ⟨Same.new nD, [], upd_same, by rw [List.take_zero]; exact .nil⟩ (fun i H2 _ h => SqT.of (h.1 _ _ hb)) ?_ ?_⟩
  · rintro i x H2 hi ⟨s2, ys, hD, pr2⟩
    obtain ⟨e, he, c, t, rfl, hc, ht⟩ := paired_get pr hi
    obtain ⟨e1, e2, e3⟩ := ok.es e (List.mem_of_getElem? he)
    have hil := (List.getElem?_eq_some_iff.mp he).1
    refine ⟨c, _, rfl, SqT.of (s2 _ _ hc), rfl, _, _, rfl, _, _, rfl, ⟨rfl, ?_⟩⟩
    refine ⟨rfl, ?_⟩
    refine ⟨_, rfl, _, rfl, fun x dx hx hdx hne => ?_⟩
    refine tab_made e3 (.inl (ht.same s2)) hx hdx hne fun H3 s3 htb => ?_
    refine ⟨by show 2 ≤ sizeLine; decide, fun u hu => ?_⟩
    generalize V.ref x = tb at htb hu ⊢
    have s4 := Same.snd (o := .tup [V.int e.1, tb]) s3 hu
    have hD4 := s4 _ _ hD
    have hyl : ys.length = i := by
      have := Paired.length pr2
      rw [List.length_map, List.length_take] at this
      omega
    have s5 := Same.trans s2 s4
    have mvT : ∀ {t : V} {R : Rw}, TabAt K (upd H3 u (.tup [V.int e.1, tb])) t R → TabAt K (upd (upd H3 u (.tup [V.int e.1, tb])) D (.lst (ys ++ [.ref u]))) t R := fun {t R} ⟨a', dx, t', e', g1, a2, xs2, e2', g2, p2⟩ =>
      ⟨a', dx, t', e', by rw [upd_ne (ne_of g1 hD4 (by intro z; cases z))]; exact g1, a2, xs2, e2', by rw [upd_ne (ne_of g2 hD4 (by intro z; cases z))]; exact g2, paired_mono p2 fun _ _ ⟨b', eb, hb'⟩ => ⟨b', eb, by rw [upd_ne (ne_of hb' hD4 (by intro z; cases z))]; exact hb'⟩⟩
    have mvE : ∀ {x : V} {f : Int × Rw}, EchoV K (upd H3 u (.tup [V.int e.1, tb])) x (vE f) → EchoV K (upd (upd H3 u (.tup [V.int e.1, tb])) D (.lst (ys ++ [.ref u]))) x (vE f) := fun {x f} ⟨a', t', e', g1, g2, g3⟩ =>
      ⟨a', t', e', by rw [upd_ne (ne_of g1 hD4 (by intro z; cases z))]; exact g1, AnyD.int g2 _, mvT g3⟩
    have all : ∀ (zs : List V) (fs : List (Int × Rw)), Paired (EchoV K (upd H3 u (.tup [V.int e.1, tb]))) zs (fs.map vE) → Paired (EchoV K (upd (upd H3 u (.tup [V.int e.1, tb])) D (.lst (ys ++ [.ref u])))) zs (fs.map vE) := by
      intro zs
      induction zs with
      | nil =>
        intro fs p
        cases fs with
        | nil => exact .nil
        | cons f r => cases p
      | cons z zs ih =>
        intro fs p
        cases fs with
        | nil => cases p
        | cons f r =>
          cases p with
          | cons h t => exact .cons (mvE h) (ih r t)
    refine ⟨ys, hD4, by rw [hyl, sizeLine_eq]; have := ok.l2; omega, Same.mut s5 nD, ys ++ [.ref u], upd_same, ?_⟩
    rw [take_more he, List.map_append]
    exact paired_app (all _ _ (paired_mono pr2 fun _ _ z => z.same s4)) (.cons (mvE (f := e) ⟨u, tb, rfl, upd_same, any_G (by omega) (G_Big e2), htb.same (Same.new hu)⟩) .nil)
  · rintro H2 ⟨s2, ys, hD, pr2⟩
    rw [hxl, List.take_length] at pr2
    have hyl : ys.length = s.es.length := by
      have := Paired.length pr2
      rw [List.length_map] at this
      exact this
    have okE : echoesOk s.k s.n (s.es.map vE) = true := by
      have z := okEs_iff ok s.n
      unfold okEs at z
      rw [z]
      by_cases h2 : s.es.length = 2
      · simp [h2, ok.reach h2]
      · simp [h2]
    have fin : ∀ (H3 : Hp) (s3 : Same H2 H3) (rest : List V), rest = ys → ∀ x dx, H3 x = Option.none → H3 dx = Option.none → dx ≠ x → pSongStar K (V.ref x :: ([.int (s.k : Int), .int s.n] ++ rest)) (upd (upd H3 dx (.own x)) x (.ins (ga K "Song") dx [])) (fun v H2 => v = .non ∧ Q (.ref x) H2) (fun _ _ _ => False) := fun H3 s3 rest hrest =>
      song_made (T := T) (es := s.es.map vE) ok.k1 ok.k5 ok.n1 (n_G ok) (by rw [hrest]; exact paired_mono pr2 fun _ _ z => z.same s3) (by rw [List.length_map]; have := ok.l2; omega) (itT okE fun H' v' s4 hv => q H' v' (Same.trans s2 (Same.trans s3 s4)) (hv _ rfl))
    refine ⟨_, rfl, by decide, fun e he => ?_⟩
    have s3 := Same.new (o := .lst []) he
    refine ⟨D, e, ys, rfl, rfl, .inl ⟨SqL.of (s3 _ _ hD), SqL.of upd_same⟩, _, rfl, ?_⟩
    have hD3 := s3 _ _ hD
    match ys, hyl, fin, hD3 with
    | [], hyl, fin, hD3 => exact iteT ⟨_, rfl, _, rfl, fin _ s3 [] rfl⟩
    | [y], hyl, fin, hD3 =>
      refine iteF ⟨_, rfl, _, 1, rfl, .inl ⟨_, SqL.of hD3, rfl⟩, rfl, _, rfl, itT rfl ⟨_, rfl, _, rfl, _, rfl, D, [y], 0, y, rfl, rfl, SqL.of hD3, rfl, fin _ s3 [y] rfl⟩⟩
    | [y, z], hyl, fin, hD3 =>
      refine iteF ⟨_, rfl, _, 2, rfl, .inl ⟨_, SqL.of hD3, rfl⟩, rfl, _, rfl, itF rfl ⟨_, rfl, _, rfl, _, rfl, D, [y, z], 0, y, rfl, rfl, SqL.of hD3, rfl, _, rfl, D, [y, z], 1, z, rfl, rfl, SqL.of hD3, rfl, fin _ s3 [y, z] rfl⟩⟩
    | y :: z :: u :: r, hyl, fin, hD3 =>
      have := ok.l2
      simp at hyl
      omega
end
end Ef

set_option Elab.async false
set_option linter.all false
set_option maxRecDepth 100000
set_option maxHeartbeats 4000000
namespace Ef
open PySem PySem.Spec PyProof.Rows L2 He
section
variable {P : Program} {w : World} {K : PySem.W.Frag} {mg : Str → Option Value} {base : Heap}
theorem bnd_isint : BindN "_law_is_integer" "_law_is_integer" s_l_is_integer ["_law_value", "_law_low", "_law_high"] := fun _ _ _ _ _ _ us hl => match us, hl with | [_, _, _], _ => rfl
theorem sc_isint : FnScope ["_law_value", "_law_low", "_law_high"] ["_law_value", "_law_low", "_law_high"] (defScope s_l_is_integer) := ⟨rfl, rfl, rfl, by decide +kernel, rfl, by decide +kernel, by decide +kernel⟩
def pLInt (K : PySem.W.Frag) (v lo hi : V) (H : Hp) (Q : VK) (_ : XK) : Prop := ∃ (k : Kd) (a b : Int), KdAt K H v k ∧ k.basic = true ∧ lo = .int a ∧ hi = .int b ∧ Q (.bl (isI v (some a) (some b))) H
theorem law_is_integer (T : Top K mg) : Clb P w K mg base CX0 1 "_law_is_integer" (sp3 (pLInt K)) := by
  obtain ⟨fd, F⟩ := T.d_l_is_integer
  refine Clb.of T.g_l_is_integer F (fnN3 F sc_isint bnd_isint fun cdv A outer s H v lo hi Q E hr h => ?_)
  obtain ⟨k, a, b, hk, hb, rfl, rfl, q⟩ := h
  refine ⟨_, pss_one (ps_ret (pe_and (pe_callB call_isB (by rfl) T.b_isinstance (by decide +kernel) (pa_cons (pv 0) (pa_cons (pe_bltn (v := .ty "int") (by rfl) T.b_int (by decide +kernel) rfl) pa_nil)))
    (pe_and (pe_not (pe_callB call_isB (by rfl) T.b_isinstance (by decide +kernel) (pa_cons (pv 0) (pa_cons (pe_bltn (v := .ty "bool") (by rfl) T.b_bool (by decide +kernel) rfl) pa_nil))))
    (pe_one (pe_chain op_le op_le (pv 1) (pv 0) (pv 2)))))), ?_⟩
  refine ⟨_, rfl, v, k, .int, rfl, hk, hb, _, rfl, ?_⟩
  cases hi : isKb k .int with
  | false =>
    rw [not_int hk (.inl hi)] at q
    exact iteF q
  | true =>
    refine iteT ⟨_, rfl, v, k, .bool, rfl, hk, hb, _, rfl, _, rfl, ?_⟩
    cases hbo : isKb k .bool with
    | true =>
      rw [not_int hk (.inr hbo)] at q
      exact iteF q
    | false =>
      have e : k = .int := by cases k <;> first | rfl | (cases hi; done) | (cases hbo; done)
      subst e
      obtain ⟨i, rfl⟩ := hk
      refine iteT ⟨_, rfl, _, rfl, _, _, rfl, rfl, _, rfl, ?_⟩
      by_cases c : a ≤ i
      · refine itT (decide_eq_true c) ⟨_, rfl, _, _, rfl, rfl, ?_⟩
        rw [show isI (.int i) (some a) (some b) = decide (i ≤ b) by simp [isI, loB, hiB, c]] at q
        exact q
      · refine itF (decide_eq_false c) ?_
        rw [show isI (.int i) (some a) (some b) = false by simp [isI, loB, c]] at q
        exact q
theorem bnd_with_echoes : BindN "_law_with_echoes" "_law_with_echoes" s_l_with_echoes ["_law_song_here", "_law_length", "_law_echoes"] := fun _ _ _ _ _ _ us hl => match us, hl with | [_, _, _], _ => rfl
theorem sc_with_echoes : FnScope ["_law_song_here", "_law_length", "_law_echoes"] ["_law_song_here", "_law_length", "_law_echoes"] (defScope s_l_with_echoes) := ⟨rfl, rfl, rfl, by decide +kernel, rfl, by decide +kernel, by decide +kernel⟩
def pLWith (sv m ev : V) (H : Hp) (Q : VK) (_ : XK) : Prop := ∃ (s : Sg) (mm : Int) (b : Addr) (xs : List V) (es : List (Int × Rw)), LSong H sv s ∧ m = .int mm ∧ ev = .ref b ∧ H b = some (.tup xs) ∧ Paired (LEch H) xs es ∧ ∀ H' v, Same H H' → LSong H' v ⟨s.k, mm, es⟩ → Q v H'
theorem law_with_echoes (T : Top K mg) : Clb P w K mg base CX0 1 "_law_with_echoes" (sp3 pLWith) := by
  obtain ⟨fd, F⟩ := T.d_l_with_echoes
  refine Clb.of T.g_l_with_echoes F (fnN3 F sc_with_echoes bnd_with_echoes fun cdv A outer s0 H sv m ev Q E hr h => ?_)
  obtain ⟨s, mm, b, xs, es, ⟨a, b0, xs0, rfl, ha, _, _⟩, rfl, rfl, hb, pr, q⟩ := h
  refine ⟨_, pss_one (ps_ret (pe_tup (pa_cons (pe_ix ix_tup (pv 0) pe_int (fun _ _ => rfl)) (pa_cons (pv 1) (pa_cons (pe_tupleOf (by rfl) T.b_tuple (pv 2)) pa_nil))))), ?_⟩
  refine ⟨_, rfl, a, _, 0, _, rfl, rfl, SqT.of ha, rfl, _, rfl, _, rfl, .inr ⟨b, xs, rfl, SqT.of hb, by show 3 ≤ sizeLine; decide, fun c hc => ?_⟩⟩
  have s1 := Same.new (o := .tup [V.int (s.k : Int), .int mm, .ref b]) hc
  exact q _ _ s1 ⟨c, b, xs, rfl, upd_same, s1 _ _ hb, paired_mono pr fun _ _ z => z.same s1⟩
theorem bnd_ttext : BindN "_law_table_text" "_law_table_text" s_l_table_text ["_law_rows_here"] := fun _ _ _ _ _ _ us hl => match us, hl with | [_], _ => rfl
theorem sc_ttext : FnScope ["_law_rows_here", "_law_row", "_law_amount"] ["_law_rows_here"] (defScope s_l_table_text) := ⟨rfl, rfl, rfl, by decide +kernel, rfl, by decide +kernel, by decide +kernel⟩
def pTText (v : V) (H : Hp) (Q : VK) (_ : XK) : Prop := ∃ n R, RowsT H v R ∧ OkR n R ∧ ∀ H', Same H H' → Q (.str (tabT R)) H'
theorem small_log {i : Int} (h0 : 0 ≤ i) (h5 : i ≤ 5) : i.natAbs.log2 < 1920 := by
  have e2 : i.natAbs ≤ 5 := by omega
  calc i.natAbs.log2 ≤ Nat.log2 5 := by
        rcases (show i.natAbs = 0 ∨ i.natAbs = 1 ∨ i.natAbs = 2 ∨ i.natAbs = 3 ∨ i.natAbs = 4 ∨ i.natAbs = 5 by omega) with e | e | e | e | e | e <;> rw [e] <;> decide
    _ < 1920 := by decide
def sc_tt1 : Scope := { kind := .function, names := [(".0", .local), ("_law_row", .local)], isGenerator := false, isCoroutine := false }
theorem law_table_text (T : Top K mg) : Clb P w K mg base CX0 1 "_law_table_text" (sp1 pTText) := by
  obtain ⟨fd, F⟩ := T.d_l_table_text
  refine Clb.of T.g_l_table_text F (fnN1 F sc_ttext bnd_ttext fun cdv A outer s0 H v Q E hr h => ?_)
  obtain ⟨n, R, ⟨b, xs, rfl, hb, pr⟩, ok, q⟩ := h
  have nd := sc_ttext.nd
  refine ⟨_, pss_one (ps_ret (pe_join pe_str (pe_lc (own := [("_law_row", 1)]) (g := gName 1) (tt := tYes)
    (te := tM1 (fun x xs H Q => ∃ a p, ∃ ys : List Str, x = .str a ∧ xs = [.ref p] ∧ (SqL K H p (ys.map V.str) ∨ SqT K H p (ys.map V.str)) ∧ (ys.map (·.length)).sum + ys.length * a.length ≤ 16777216 ∧ Q (.str (Txt.join a ys)) H) (tC (.str " "))
      (tLc (iTup K (tVar 1)) (gName 2) tYes (tIf (tB (tIsN (tVar 2))) (tC (.str "-")) (tCB (fun xs H Q => ∃ i, xs = [.int i] ∧ i.natAbs.log2 < 1920 ∧ Q (.str (Str.ofString (toString i))) H) (tCons (tVar 2) tNil))) [2]))
    rfl nd (pi_tup (pv 0)) (blkOk_by (N := ["_law_rows_here", "_law_row", "_law_amount"]) (sc := defScope s_l_table_text) (by decide +kernel))
    (fun _ _ _ _ _ => pg_name (i := 1) nd rfl (.inl rfl)) (fun _ _ _ _ _ => pts_nil)
    (fun _ _ _ _ _ => pe_join pe_str (pe_lc (own := [("_law_amount", 2)]) (g := gName 2) (tt := tYes) rfl nd (pi_tup (pv 1)) (blkOk_by (N := ["_law_rows_here", "_law_row", "_law_amount"]) (sc := sc_tt1) (by decide +kernel))
      (fun _ _ _ _ _ => pg_name (i := 2) nd rfl (.inl rfl)) (fun _ _ _ _ _ => pts_nil)
      (fun _ _ _ _ _ => pe_ifExp (pt_cmp (pc_isN (pv 2))) pe_str (pe_callTy (T := "str") call_str_int (by rfl) T.b_str (by decide +kernel) (pa_cons (pv 2) pa_nil)))))))), ?_⟩
  have hz : n < sizeLine := by rw [sizeLine_eq]; have := ok.hi; omega
  refine ⟨⟨_, rfl⟩, _, rfl, b, rfl, ⟨_, SqT.of hb⟩, fun D nD => lc_tup (K := K) (a := b) (xs := xs) (fun i H2 => Same H H2 ∧ H2 D = some (.lst (((R.take i).map rowT).map V.str))) ⟨Same.new nD, by rw [List.take_zero]; exact upd_same⟩ (fun i H2 _ h => SqT.of (h.1 _ _ hb)) ?_ ?_⟩
  · rintro i y H2 hi ⟨s2, d2⟩
    obtain ⟨r, hrr, c, rfl, hc⟩ := paired_get pr hi
    obtain ⟨hlen, hp⟩ := ok.row r (List.mem_of_getElem? hrr)
    have hil := (List.getElem?_eq_some_iff.mp hrr).1
    have hc2 := s2 _ _ hc
    refine ⟨rfl, ?_⟩
    refine ⟨⟨_, rfl⟩, _, rfl, c, rfl, ⟨_, SqT.of hc2⟩, fun D2 nD2 => lc_tup (K := K) (a := c) (xs := r.map oI) (fun j H3 => Same H2 H3 ∧ H3 D2 = some (.lst (((r.take j).map prT).map V.str))) ⟨Same.new nD2, by rw [List.take_zero]; exact upd_same⟩ (fun j H3 _ h => SqT.of (h.1 _ _ hc2)) ?_ ?_⟩
    · rintro j y H3 hj ⟨s3, d3⟩
      rw [List.getElem?_map] at hj
      cases ej : r[j]? with
      | none => rw [ej] at hj; cases hj
      | some p =>
        rw [ej] at hj
        cases hj
        have hjl := (List.getElem?_eq_some_iff.mp ej).1
        have fin : ∀ x, x = prT p → ∃ acc, H3 D2 = some (.lst acc) ∧ acc.length < sizeLine ∧ (Same H2 (upd H3 D2 (.lst (acc ++ [V.str x]))) ∧ (upd H3 D2 (.lst (acc ++ [V.str x]))) D2 = some (.lst (((r.take (j + 1)).map prT).map V.str))) := fun x ex => by
          refine ⟨_, d3, ?_, Same.mut s3 nD2, ?_⟩
          · rw [List.length_map, List.length_map, List.length_take]
            omega
          · rw [upd_same, take_more ej, List.map_append, List.map_append, ex]
            rfl
        refine ⟨rfl, ?_⟩
        refine ⟨_, rfl, _, rfl, ?_⟩
        cases p with
        | none => exact itT (decide_eq_true rfl) (fin _ rfl)
        | some i =>
          obtain ⟨h0, h5⟩ := hp _ (List.mem_of_getElem? ej) i rfl
          exact itF (decide_eq_false (by intro z; cases z)) ⟨_, rfl, i, rfl, small_log h0 h5, fin _ rfl⟩
    · rintro H3 ⟨s3, d3⟩
      rw [List.length_map, List.take_length] at d3
      refine ⟨_, D2, r.map prT, rfl, rfl, .inl (SqL.of d3), ?_, _, s3 _ _ d2, ?_, Same.mut (Same.trans s2 s3) nD, ?_⟩
      · have := row_sum hlen hp
        have := ok.hi
        rw [List.length_map, hlen, sp_len]
        omega
      · rw [List.length_map, List.length_map, List.length_take]
        have := ok.len
        omega
      · rw [upd_same, take_more hrr, List.map_append, List.map_append]
        rfl
  · rintro H2 ⟨s2, d2⟩
    rw [show xs.length = R.length from Paired.length pr, List.take_length] at d2
    refine ⟨_, D, R.map rowT, rfl, rfl, .inl (SqL.of d2), ?_, q _ s2⟩
    have := tab_sum ok
    have := ok.hi
    rw [List.length_map, ok.len, sl_len]
    omega
/-! ### the law's text of a song -/
theorem bnd_stext : BindN "_law_song_text" "_law_song_text" s_l_song_text ["_law_song_here"] := fun _ _ _ _ _ _ us hl => match us, hl with | [_], _ => rfl
theorem sc_stext : FnScope ["_law_song_here", "_law_lines", "_law_delay", "_law_rows_here"] ["_law_song_here"] (defScope s_l_song_text) := ⟨rfl, rfl, rfl, by decide +kernel, rfl, by decide +kernel, by decide +kernel⟩
def pSText (v : V) (H : Hp) (Q : VK) (_ : XK) : Prop := ∃ s, LSong H v s ∧ OkSg s ∧ ∀ H', Same H H' → Q (.str (songT s)) H'
def rCt : R2 := fun x y H Q => ∃ i j, x = .str i ∧ y = .str j ∧ i.length + j.length ≤ sizeLine ∧ Q (.str (i ++ j)) H
theorem law_song_text (T : Top K mg) : Clb P w K mg base CX0 2 "_law_song_text" (sp1 pSText) := by
  obtain ⟨fd, F⟩ := T.d_l_song_text
  refine Clb.of T.g_l_song_text F (fnN1 F sc_stext bnd_stext fun cdv A outer s0 H v Q E hr h => ?_)
  obtain ⟨s, ⟨a, b, xs, rfl, ha, hb, pr⟩, ok, q⟩ := h
  have nd := sc_stext.nd
  refine ⟨_, pss_cons (ps_set (i := 1) nd rfl (.inl rfl) (pe_lst (pa_cons (pe_op op_add_str (pe_op op_add_str (pe_op op_add_str pe_str (pe_callTy (T := "str") call_str_int (by rfl) T.b_str (by decide +kernel) (pa_cons (pe_ix ix_tup (pv 0) pe_int (fun _ _ => rfl)) pa_nil))) pe_str) (pe_callTy (T := "str") call_str_int (by rfl) T.b_str (by decide +kernel) (pa_cons (pe_ix ix_tup (pv 0) pe_int (fun _ _ => rfl)) pa_nil))) pa_nil)))
    (pss_one (ps_ret (pe_join pe_str (pe_op op_cat (pv 1) (pe_lc (own := [("_law_delay", 2), ("_law_rows_here", 3)]) (g := gTup K 2 (gCons (gName 2) (gCons (gName 3) gNil))) (tt := tYes)
      (te := tOp rCt (tOp rCt (tOp rCt (tC (.str "echo ")) (tCB (fun xs H Q => ∃ i, xs = [.int i] ∧ i.natAbs.log2 < 1920 ∧ Q (.str (Str.ofString (toString i))) H) (tCons (tVar 2) tNil))) (tC (.str " "))) (tF (sp1 pTText) E (tCons (tVar 3) tNil)))
      rfl nd (pi_tup (pe_ix ix_tup (pv 0) pe_int (fun _ _ => rfl))) (blkOk_by (N := ["_law_song_here", "_law_lines", "_law_delay", "_law_rows_here"]) (sc := defScope s_l_song_text) (by decide +kernel))
      (fun _ _ _ _ _ => pg_tup rfl (pgs_cons (pg_name (i := 2) nd rfl (.inl rfl)) (pgs_cons (pg_name (i := 3) nd rfl (.inl rfl)) pgs_nil))) (fun _ _ _ _ _ => pts_nil)
      (fun _ _ _ _ _ => pe_op op_add_str (pe_op op_add_str (pe_op op_add_str pe_str (pe_callTy (T := "str") call_str_int (by rfl) T.b_str (by decide +kernel) (pa_cons (pv 2) pa_nil))) pe_str) (pe_f (law_table_text T) hr pass0 (pa_cons (pv 3) pa_nil)))))))), ?_⟩
  have hk : (s.k : Int) ≤ G30 := by have := ok.k5; show (s.k : Int) ≤ 1000000000000000000000000000000; omega
  have hn : s.n ≤ G30 := by have := ok.n40; show s.n ≤ 1000000000000000000000000000000; omega
  have la := iT_len (i := (s.k : Int)) (by omega) hk
  have lb := iT_len (i := s.n) (by have := ok.n1; omega) hn
  have lc : ("song " : Str).length = 5 := by decide +kernel
  have ld : (" " : Str).length = 1 := by decide +kernel
  have le : ("echo " : Str).length = 5 := by decide +kernel
  have lz : sizeLine = 16777216 := sizeLine_eq
  have lh := headT_len ok
  refine ⟨_, rfl, a, _, 0, _, rfl, rfl, SqT.of ha, rfl, _, rfl, log2_G (by omega) hk, _, _, rfl, rfl, by show _ + (iT (s.k : Int)).length ≤ _; omega, _, _, rfl, rfl, ?_, _, rfl, a, _, 1, _, rfl, rfl, SqT.of ha, rfl, _, rfl, log2_G (by have := ok.n1; omega) hn, _, _, rfl, rfl, ?_, ?_⟩
  · rw [Str.length_append]; show _ + (iT (s.k : Int)).length + _ ≤ _; omega
  · rw [Str.length_append, Str.length_append]; show _ + (iT (s.k : Int)).length + _ + (iT s.n).length ≤ _; omega
  rw [show (((Str.ofString "song " ++ Str.ofString (toString (s.k : Int))) ++ Str.ofString " ") ++ Str.ofString (toString s.n)) = headT s from rfl]
  refine ⟨by show 1 ≤ sizeLine; decide, fun l nl => ?_⟩
  have s1 : Same H (upd H l (.lst [.str (headT s)])) := Same.new nl
  refine ⟨⟨_, rfl⟩, _, rfl, _, rfl, a, _, 2, _, rfl, rfl, SqT.of (s1 _ _ ha), rfl, b, rfl, ⟨_, SqT.of (s1 _ _ hb)⟩, fun D nD =>
    lc_tup (K := K) (a := b) (xs := xs) (fun i H2 => Same (upd H l (.lst [.str (headT s)])) H2 ∧ H2 D = some (.lst (((s.es.take i).map echoT).map V.str))) ⟨Same.new nD, by rw [List.take_zero]; exact upd_same⟩ (fun i H2 _ h => SqT.of (h.1 _ _ (s1 _ _ hb))) ?_ ?_⟩
  · rintro i x H2 hi ⟨s2, d2⟩
    obtain ⟨e, he, c, t, rfl, hc, ht⟩ := paired_get pr hi
    obtain ⟨h1, h30, oR⟩ := ok.es e (List.mem_of_getElem? he)
    have hil := (List.getElem?_eq_some_iff.mp he).1
    have s12 := Same.trans s1 s2
    have el := echoT_len h1 h30 oR
    have l1 := iT_len (i := e.1) (by omega) h30
    have l2 := tabT_len oR
    refine ⟨c, _, rfl, SqT.of (s12 _ _ hc), rfl, _, _, rfl, _, _, rfl, ⟨rfl, ?_⟩⟩
    refine ⟨rfl, ?_⟩
    refine ⟨_, rfl, _, rfl, log2_G (by omega) h30, _, _, rfl, rfl, by show _ + (iT e.1).length ≤ _; omega, _, _, rfl, rfl, ?_, _, rfl, _, rfl, s.k, e.2, ht.same s12, oR, fun H3 s3 => ⟨_, _, rfl, rfl, ?_, _, s3 _ _ d2, ?_, Same.mut (Same.trans s2 s3) nD, ?_⟩⟩
    · rw [Str.length_append]; show _ + (iT e.1).length + _ ≤ _; omega
    · rw [Str.length_append, Str.length_append]; show _ + (iT e.1).length + _ + _ ≤ _; omega
    · rw [List.length_map, List.length_map, List.length_take]
      have := ok.l2
      omega
    · rw [upd_same, take_more he, List.map_append, List.map_append]
      rfl
  · rintro H2 ⟨s2, d2⟩
    have hx : xs.length = s.es.length := Paired.length pr
    rw [hx, List.take_length] at d2
    have l2 := s2 _ _ (upd_same (H := H) (a := l) (o := .lst [.str (headT s)]))
    refine ⟨l, D, _, _, rfl, rfl, l2, d2, ?_, fun p hp => ?_⟩
    · have := ok.l2
      rw [List.length_map, List.length_map]
      show 1 + _ ≤ _
      omega
    · refine ⟨"\n", p, headT s :: s.es.map echoT, rfl, rfl, .inl (SqL.of upd_same), ?_, q _ (Same.snd (Same.trans s1 s2) hp)⟩
      have h1 := echoes_sum ok
      have h3 := ok.l2
      have h4 : ("\n" : Str).length = 1 := by decide +kernel
      rw [List.map_cons, List.sum_cons, List.length_cons, List.length_map, h4]
      omega
end
end Ef

set_option Elab.async false
set_option linter.all false
set_option maxRecDepth 100000
set_option maxHeartbeats 4000000
namespace Ef
open PySem PySem.Spec PyProof.Rows L2 He
theorem p60 : (10 : Int) ^ (60 : Int).toNat = BigI := by decide +kernel
def badP (x : V) : Bool := !decide (x = .non) && !isI x (some 0) (some BigI)
theorem badP_eq {x : V} (h : ∀ i, x = .int i → i ≤ BigI) : badP x = !isPr x := by
  unfold badP isPr
  cases x with
  | int i =>
    have z := h i rfl
    simp [isI, loB, hiB, z]
  | non => simp [isI]
  | _ => simp [isI]
section
variable {P : Program} {w : World} {K : PySem.W.Frag} {mg : Str → Option Value} {base : Heap}
theorem bnd_lwish : BindN "_law_are_wishes" "_law_are_wishes" s_l_are_wishes ["_law_song_here", "_law_value"] := fun _ _ _ _ _ _ us hl => match us, hl with | [_, _], _ => rfl
theorem sc_lwish : FnScope ["_law_song_here", "_law_value", "_law_place", "_law_prices_here", "_law_amount"] ["_law_song_here", "_law_value"] (defScope s_l_are_wishes) := ⟨rfl, rfl, rfl, by decide +kernel, rfl, by decide +kernel, by decide +kernel⟩
def pLWish (sv wv : V) (H : Hp) (Q : VK) (_ : XK) : Prop := ∃ (s : Sg) (d : Addr) (i : Int) (pr : V) (o : Option (List V)) (H0 : Hp), LSong H sv s ∧ wv = .ref d ∧ H d = some (.dK [(.inl i, pr)]) ∧ 0 ≤ i ∧ i < s.n ∧ H0 d = none ∧ Same H0 H ∧ AnyD H0 pr ∧ TupV H0 pr o ∧ (∀ xs, o = some xs → ∀ j, V.int j ∈ xs → j ≤ BigI) ∧ s.k ≤ 5 ∧ ∀ H', Same H H' → Q (.bl (vPr s.k o)) H'
theorem law_are_wishes (T : Top K mg) : Clb P w K mg base CX0 2 "_law_are_wishes" (sp2 pLWish) := by
  obtain ⟨fd, F⟩ := T.d_l_are_wishes
  refine Clb.of T.g_l_are_wishes F (fnN2 F sc_lwish bnd_lwish fun cdv A outer s0 H sv wv Q E hr h => ?_)
  obtain ⟨s, d, i, pr, o, H0, hs, rfl, hd, i0, i1, h0d, s0H, hp, ho, hb, k5, q⟩ := h
  have nd := sc_lwish.nd
  have hu := hu_of hr
  have hu1 := Nat.lt_of_succ_lt hu
  refine ⟨_, pss_cons (ps_if (PW.pt (pw_or (pt_cmp (pc_isN (pv 1))) (pw_or1 (pt_not (pt_val (pe_callB call_isB (by rfl) T.b_isinstance (by decide +kernel) (pa_cons (pv 1) (pa_cons (pe_bltn (v := .ty "dict") (by rfl) T.b_dict (by decide +kernel) rfl) pa_nil)))))))) (pss_one ps_never) pss_nil)
    (pss_cons (ps_lock (ps_for PassesOwn.never rfl (pi_keys (pv 1)) (pg_name (i := 2) nd rfl (.inl rfl))
      (pss_cons (ps_set (i := 3) nd rfl (.inl rfl) (pe_dget hu (pv 1) (pv 2) (fun _ _ => rfl)))
      (pss_cons (ps_if (PW.pt (pw_or (pt_not (pt_val (pe_f (law_is_integer T) hr pass0 (pa_cons (pv 2) (pa_cons pe_int (pa_cons (pe_op op_sub (pe_ix ix_tup (pv 0) pe_int (fun _ _ => rfl)) pe_int) pa_nil))))))
          (pw_or (pt_not (pt_val (pe_callB call_isB (by rfl) T.b_isinstance (by decide +kernel) (pa_cons (pv 3) (pa_cons (pe_bltn (v := .ty "tuple") (by rfl) T.b_tuple (by decide +kernel) rfl) pa_nil)))))
          (pw_or1 (pt_cmpR op_ne (pe_callB call_len (by rfl) T.b_len (by decide +kernel) (pa_cons (pv 3) pa_nil)) (pe_ix ix_tup (pv 0) pe_int (fun _ _ => rfl)) (nomark _)))))) (pss_one (ps_ret pe_bl)) pss_nil)
      (pss_one (ps_if (pt_cmpR (op_neE hu1) (pe_lc (own := [("_law_amount", 4)]) (g := gName 4) (te := tVar 4) rfl nd (pi_tup (pv 3)) (blkOk_by (N := ["_law_song_here", "_law_value", "_law_place", "_law_prices_here", "_law_amount"]) (sc := defScope s_l_are_wishes) (by decide +kernel))
          (fun _ _ _ _ _ => pg_name (i := 4) nd rfl (.inl rfl))
          (fun _ _ _ _ _ => pts_one (PW.pt (pw_and (pt_cmp (pc_notN (pv 4))) (pw_and1 (pt_not (pt_val (pe_f (law_is_integer T) hr pass0 (pa_cons (pv 4) (pa_cons pe_int (pa_cons (pe_op op_pow pe_int pe_int) pa_nil))))))))))
          (fun _ _ _ _ _ => pv 4)) (pe_lst pa_nil) (nomark _)) (pss_one (ps_ret pe_bl)) pss_nil))))))
    (pss_one (ps_ret pe_bl))), ?_⟩
  obtain ⟨sa, sb, sxs, rfl, hsa, hsb, hse⟩ := hs
  refine ⟨_, rfl, _, rfl, itF rfl ⟨_, rfl, _, .dct, .dict, rfl, ⟨d, rfl, .inl ⟨_, hd⟩⟩, rfl, _, rfl, iteF ?_⟩⟩
  refine ⟨d, _, hd, True.intro, fun od => ?_⟩
  have frz : ∀ {a : Addr} {o : HO}, H a = some o → a ≠ d → (upd H d (.frz od (.dK [(.inl i, pr)]))) a = some o := fun {a o} ha hne => by
    rw [upd_ne hne]
    exact ha
  have nsa : sa ≠ d := ne_of hsa hd (by intro z; cases z)
  have dg : ∀ {H2 : Hp}, H2 d = some (.frz od (.dK [(.inl i, pr)])) → DGet H2 d (.int i) (some pr) := fun h => .inl ⟨_, .inl i, .inr ⟨od, h⟩, rfl, (valV_pos (p := ((.inl i : Key), pr)) (r := []) rfl).symm⟩
  refine ⟨_, rfl, d, od, rfl, .inl ⟨_, upd_same, for_it (walk_keys (d := d) (o := od) (kvs := [(.inl i, pr)])) (fun j σ H2 => Same (upd H d (.frz od (.dK [(.inl i, pr)]))) H2 ∧ (∃ u1 u2, σ = [some (.ref sa), some (.ref d), u1, u2, none]) ∧ (j = 1 → vPr s.k o = true))
    ⟨Same.refl _, ⟨none, none, rfl⟩, fun z => absurd z (by decide)⟩ (fun j σ H2 _ h => h.1 _ _ upd_same) ?_ ?_⟩⟩
  · rintro j x σ H2 H3 hj ⟨s2, ⟨u1, u2, rfl⟩, _⟩ ⟨rfl, k, v, hkv, rfl⟩
    obtain rfl : j = 0 := by have : j < 1 := hj; omega
    obtain ⟨rfl, rfl⟩ : k = .inl i ∧ v = pr := by
      have := Option.some.inj hkv
      exact ⟨(Prod.mk.inj this).1.symm, (Prod.mk.inj this).2.symm⟩
    have hd2 := s2 _ _ (upd_same (H := H) (a := d) (o := .frz od (.dK [(.inl i, v)])))
    have hsa2 := s2 _ _ (frz hsa nsa)
    have back : Same H (upd H3 d (.dK [(.inl i, v)])) := Same.unlock hd s2
    have okI : isI (.int i) (some 0) (some (s.n - 1)) = true := by
      simp [isI, loB, hiB, i0]
      omega
    refine ⟨_, rfl, _, rfl, d, v, rfl, dg hd2, ?_⟩
    have s03 : Same H0 H3 := fun a ob ha => s2 _ _ (frz (s0H _ _ ha) (ne_of_none ha h0d))
    refine ⟨_, rfl, _, rfl, sa, _, 1, _, rfl, rfl, SqT.of hsa2, rfl, _, _, rfl, rfl, _, _, _, rfl, .int, 0, s.n - 1, ⟨i, rfl⟩, rfl, rfl, rfl, _, rfl, ?_⟩
    have okI2 : isI (kV (.inl i)) (some 0) (some (s.n - 1)) = true := okI
    rw [okI2]
    refine iteF ?_
    cases o with
    | none =>
      obtain ⟨kd, hkd, hkb⟩ := (hp.same s03).kd (K := K)
      have hne : isKb kd .tuple = false := by
        cases kd <;> first | rfl | skip
        obtain ⟨b, xs, e1, e2⟩ := hkd
        exact absurd e2 ((ho.same s03 hp.there) b xs e1)
      refine ⟨_, rfl, _, kd, .tuple, rfl, hkd, hkb, _, rfl, ?_⟩
      rw [hne]
      exact iteT ⟨hd2, q _ back⟩
    | some xs =>
      obtain ⟨b, rfl, hb0⟩ := ho
      have hb3 := s03 _ _ hb0
      refine ⟨_, rfl, _, .tup, .tuple, rfl, ⟨b, xs, rfl, hb3⟩, rfl, _, rfl, iteF ?_⟩
      refine ⟨_, rfl, _, xs.length, rfl, .inr ⟨xs, SqT.of hb3, rfl⟩, _, rfl, sa, _, 0, _, rfl, rfl, SqT.of hsa2, rfl, rfl, _, rfl, ?_⟩
      by_cases hl : xs.length = s.k
      · refine itF (by simp [hl]) ?_
        refine ⟨_, rfl, b, rfl, ⟨_, SqT.of hb3⟩, fun D nD => lc_tup (K := K) (a := b) (xs := xs) (fun j H4 => Same H3 H4 ∧ H4 D = some (.lst ((xs.take j).filter badP))) ⟨Same.new nD, upd_same⟩ (fun j H4 _ h => SqT.of (h.1 _ _ hb3)) ?_ ?_⟩
        · rintro j x H4 hj ⟨s4, d4⟩
          obtain ⟨kd, hkd, hkb⟩ := AnyD.item (K := K) (hp.same (Same.trans s03 s4)) (s4 _ _ hb3) (List.mem_of_getElem? hj)
          have hf : (xs.take (j + 1)).filter badP = if badP x = true then (xs.take j).filter badP ++ [x] else (xs.take j).filter badP := by
            rw [take_more hj, List.filter_append]
            split
            · rename_i hc
              rw [List.filter_cons_of_pos hc]
              rfl
            · rename_i hc
              rw [List.filter_cons_of_neg hc]
              simp
          have hlt : ((xs.take j).filter badP).length < sizeLine := by
            have := List.length_filter_le badP (xs.take j)
            rw [List.length_take] at this
            rw [sizeLine_eq]
            omega
          refine ⟨rfl, ?_⟩
          refine ⟨_, rfl, _, rfl, ?_⟩
          by_cases hn : x = .non
          · refine itF (by simp [hn]) (iteF ⟨s4, ?_⟩)
            rw [hf, if_neg (by simp [badP, hn])]
            exact d4
          · refine itT (by simp [hn]) ⟨_, rfl, _, _, rfl, rfl, ⟨by decide, by decide, by decide⟩, _, _, _, rfl, kd, 0, _, hkd, hkb, rfl, rfl, _, rfl, ?_⟩
            rw [p60]
            cases hI : isI x (some 0) (some BigI) with
            | true =>
              refine iteF ⟨s4, ?_⟩
              rw [hf, if_neg (by simp [badP, hI])]
              exact d4
            | false =>
              refine iteT ⟨_, rfl, _, d4, hlt, Same.mut s4 nD, ?_⟩
              rw [upd_same, hf, if_pos (by simp [badP, hn, hI])]
        · rintro H4 ⟨s4, d4⟩
          rw [List.take_length] at d4
          have hd4 := s4 _ _ hd2
          refine ⟨by decide, fun e he => ?_⟩
          have s5 := Same.new (o := .lst []) he
          have s25 := Same.trans s2 (Same.trans s4 s5)
          have hvp : vPr s.k (some xs) = decide (xs.filter badP = []) := by
            have h1 : ∀ x ∈ xs, badP x = !isPr x := fun x hx => badP_eq fun j e => hb xs rfl j (e ▸ hx)
            show (decide (xs.length = s.k) && xs.all isPr) = _
            rw [decide_eq_true hl, Bool.true_and]
            rw [Bool.eq_iff_iff, List.all_eq_true, decide_eq_true_eq, List.filter_eq_nil_iff]
            constructor
            · intro h x hx
              rw [h1 x hx, h x hx]
              simp
            · intro h x hx
              have := h x hx
              rw [h1 x hx] at this
              simpa using this
          refine ⟨D, e, _, rfl, rfl, .inl ⟨SqL.of (s5 _ _ d4), SqL.of upd_same⟩, _, rfl, ?_⟩
          by_cases hf : xs.filter badP = []
          · exact itF (by rw [decide_eq_true hf]; rfl) ⟨s25, ⟨_, _, rfl⟩, fun _ => by rw [hvp, decide_eq_true hf]⟩
          · refine itT (by rw [decide_eq_false hf]; rfl) ⟨s25 _ _ upd_same, ?_⟩
            have z := q _ (Same.unlock hd s25)
            rw [hvp, decide_eq_false hf] at z
            exact z
      · refine itT (by rw [decide_eq_false (by intro z; exact hl (by have := V.int.inj z; omega))]; rfl) ⟨hd2, ?_⟩
        have z := q _ back
        rw [show vPr s.k (some xs) = false by simp [vPr, hl]] at z
        exact z
  · rintro σ H2 ⟨s2, _, hv⟩
    have hd2 := s2 _ _ (upd_same (H := H) (a := d) (o := .frz od (.dK [(.inl i, pr)])))
    have z := q _ (Same.unlock hd s2)
    rw [hv rfl] at z
    exact ⟨hd2, z⟩
end
end Ef

set_option Elab.async false
set_option linter.all false
set_option maxRecDepth 100000
set_option maxHeartbeats 4000000
namespace Ef
open PySem PySem.Spec PyProof.Rows L2 He
/-! ### promises where nothing is being shown (repr) -/
def FnG (P : Program) (w : World) (K : PySem.W.Frag) (mg : Str → Option Value) (base : Heap) (CX : CXT) (k : Nat) (f : Addr) (sp : Sp) : Prop :=
  ∀ (A : Around) (outer : List Env) (s : Shared) (H : Hp) (us : List Value) (vs : List V) (Q : VK) (E : XK), Room k A → A.guards = some [] → Env0 P w K mg base A outer s H → Vals vs us → sp vs H Q E →
    codeAny (model P w) A (.call (.ref f) ⟨us, []⟩) (CR CX outer P w H s Q E) s
structure ClG (P : Program) (w : World) (K : PySem.W.Frag) (mg : Str → Option Value) (base : Heap) (CX : CXT) (k : Nat) (x : Str) (sp : Sp) : Prop where
  ex : ∃ f, FnG P w K mg base CX k f sp ∧ mg x = some (.ref f) ∧ PySem.W.keepIn K (.ref f) = true
section
variable {P : Program} {w : World} {K : PySem.W.Frag} {mg : Str → Option Value} {base : Heap} {CX : CXT} {k : Nat} {x q : Str} {st : Stmt} {f : Addr} {fd : FuncData} {N ps : List Str} {sp : Sp}
theorem guards_deeper {A : Around} {env : Env} : (A.deeper env).guards = A.guards := rfl
theorem raw_ofG (F : FnP K x q st f fd) (S : FnScope N ps (defScope st)) (hb : BindN x q st ps) (len : ∀ vs H Q E, sp vs H Q E → vs.length = ps.length)
    (body : ∀ (cdv : Value) (A : Around) (outer : List Env) (s : Shared) (H : Hp) (vs : List V) (Q : VK) (E : XK), Room k (A.deeper (envOfC q (defScope st) s.heap.objs.size f cdv)) → A.guards = some [] → sp vs H Q E →
      ∃ t, PSs (cxOf CX P w K mg base N q (defScope st) f cdv A outer s H E) (defBody st) t ∧ t { nx := fun _ H' => Q .non H', rt := Q } (start N vs) H) : FnG P w K mg base CX (k + 1) f sp := by
  intro A outer s H us vs Q E hr hg e0 r hs
  obtain ⟨oc, od, dV, kV, doc, pm, an, cdv, ct, osl, rfl, lk, hcd, hD, hK⟩ := F.ex
  obtain ⟨_, rfl⟩ | ⟨e, _⟩ := hD
  · have hl := len _ _ _ _ hs
    refine StX.run_bnd lk hcd S hr e0 (G := fun xs H2 => xs = vs ∧ H2 = H) (fun A' Ex Q' h => ?_) fun s2 H2 xs ⟨ex, eH⟩ hr' => ?_
    · rw [hb kV doc pm an cdv ct us (by rw [← r.length]; exact hl)]
      exact wpAny_pure (h s H vs us e0 (Un.kept fun _ _ e => e) rfl (fun _ _ z => z) r hl ⟨rfl, rfl⟩)
    · subst ex eH
      exact body cdv A outer s2 _ _ Q E hr' hg hs
  · exact absurd rfl e
theorem ClG.of (g : mg x = some (.ref f)) (F : FunD K x q (defArgs st) (defBody st) (defScope st) [] [] f fd) (h : FnG P w K mg base CX k f sp) : ClG P w K mg base CX k x sp := ⟨⟨f, h, g, F.kp⟩⟩
end
section
variable {X : Cx} {CX : CXT} {k : Nat} {x : Str} {sp : Sp} {E : XK} {e : Expr} {es : List Expr} {t : TA} {p pos : Pos}
theorem pe_g (c : ClG X.prog X.w X.K X.mg X.base CX k x sp) (hr : Room k X.A) (hgd : X.A.guards = some []) (hx : Passes CX X E) (ha : PA X (e :: es) t) (hg : Gl X x := by rfl) (hd : (x == ("__debug__" : Str)) = false := by decide)
    (he : starEach (e :: es) X.env = (false, eval e X.env) :: starEach es X.env := by rfl) (hpl : (backTo pos (starEach es X.env)).any (·.1) = false := by rfl) : PE X (.Call (.Name x p) (e :: es) [] pos) (tF sp E t) := by
  obtain ⟨f, F, hm, hk⟩ := c.ex
  refine ⟨fun pins s σ H Q I h => ?_⟩
  refine wpAny_Call_Name_kw (ld_glob I hg hm ?_ hd)
  refine PySem.W.callWith_K (h₀ := X.base) I.ok.mod.kin hk (thn (ha.run pos pins s σ H _ I h) fun us s1 ⟨vs, H1, I1, r, q⟩ => ⟨I1.kIn, wpAny_call (codeAny_mono (F X.A X.stack s1 H1 us vs Q E hr hgd I1.env0 r q) fun r s' hq => ?_)⟩) he hpl
  cases r with
  | error e => exact hx pins σ H1 s1 e s' I1 hq
  | ok fl =>
    cases fl with
    | ret u => exact I1.after hq
    | next => exact False.elim hq
    | brk => exact False.elim hq
    | cont => exact False.elim hq
/-- repr(e) -/
theorem pe_repr {ta : TA} (hgd : X.A.guards = some []) (hr : Room k X.A) (hm : X.mg "repr" = none) (hg : Gl X "repr") (ha : PA X [e] ta) (he : starEach [e] X.env = (false, eval e X.env) :: starEach [] X.env := by rfl) (hpl : (backTo pos (starEach [] X.env)).any (·.1) = false := by rfl) :
    PE X (.Call (.Name "repr" p) [e] [] pos) (tCB rRepr ta) :=
  pe_callB (call_reprG hgd (by have := hr.un; omega)) hg hm (by decide +kernel) ha (he := he) (hpl := hpl)
end
/-! ### what the law's step gives -/
def BehOk (H' : Hp) (v : V) (ok : Bool) (sv wv : V) (s' : Sg) (W' : Int → Option V) : Prop := ∃ a due sv' wv', v = .ref a ∧ H' a = some (.tup [due, sv', wv']) ∧ decide (due = V.non) = ok ∧ (ok = true → LSong H' sv' s' ∧ WAt H' wv' W') ∧ (ok = false → sv' = sv ∧ wv' = wv)
end Ef

set_option Elab.async false
set_option linter.all false
set_option maxRecDepth 100000
set_option maxHeartbeats 4000000
namespace Ef
open PySem PySem.Spec PyProof.Rows L2 He
def PairsAt (H : Hp) (ps : List Addr) (kvs : List (Key × V)) : Prop := Paired (fun (p : Addr) (kv : Key × V) => H p = some (.tup [kV kv.1, kv.2])) ps kvs
theorem PairsAt.same {H H1 : Hp} {ps : List Addr} {kvs : List (Key × V)} (h : PairsAt H ps kvs) (k : Same H H1) : PairsAt H1 ps kvs := paired_mono h fun _ _ z => k _ _ z
theorem PairsAt.mut {H : Hp} {ps : List Addr} {kvs : List (Key × V)} {D : Addr} {ys : List V} {o : HO} (h : PairsAt H ps kvs) (hD : H D = some (.lst ys)) : PairsAt (upd H D o) ps kvs :=
  paired_mono h fun a kv z => by
    have z : H a = some (.tup [kV kv.1, kv.2]) := z
    show (upd H D o) a = _
    rw [upd_ne (ne_of z hD (by intro y; cases y))]
    exact z
/-- the walk of [(k, d[k]) for k in d if p(k)] under the lock -/
structure PW1 (H : Hp) (a D : Addr) (od : Obj) (kvs : List (Key × V)) (p : Int → Bool) (j : Nat) (H2 : Hp) : Prop where
  s : Same (upd H a (.frz od (.dK kvs))) H2
  d : ∃ ps : List Addr, H2 D = some (.lst (ps.map V.ref)) ∧ PairsAt H2 ps (filK p (kvs.take j))
theorem PW1.start {H : Hp} {a D : Addr} {od : Obj} {kvs : List (Key × V)} {p : Int → Bool} (nD : (upd H a (.frz od (.dK kvs))) D = none) : PW1 H a D od kvs p 0 (upd (upd H a (.frz od (.dK kvs))) D (.lst [])) :=
  ⟨Same.new nD, [], upd_same, by rw [List.take_zero]; exact .nil⟩
theorem PW1.skip {H H2 : Hp} {a D : Addr} {od : Obj} {kvs : List (Key × V)} {p : Int → Bool} {j : Nat} {kv : Key × V} (h : PW1 H a D od kvs p j H2) (hk : kvs[j]? = some kv) (hp : keyP p kv.1 = false) : PW1 H a D od kvs p (j + 1) H2 :=
  ⟨h.s, by rw [fil_take hk, hp, if_neg Bool.false_ne_true]; exact h.d⟩
theorem PW1.step {H H2 : Hp} {a D t : Addr} {od : Obj} {kvs : List (Key × V)} {p : Int → Bool} {j : Nat} {kv : Key × V} {ps : List Addr} (h : PW1 H a D od kvs p j H2) (nD : (upd H a (.frz od (.dK kvs))) D = none) (hd : H2 D = some (.lst (ps.map V.ref))) (hps : PairsAt H2 ps (filK p (kvs.take j)))
    (hk : kvs[j]? = some kv) (hp : keyP p kv.1 = true) (ht : H2 t = none) : PW1 H a D od kvs p (j + 1) (upd (upd H2 t (.tup [kV kv.1, kv.2])) D (.lst (ps.map V.ref ++ [.ref t]))) := by
  have s3 := Same.new (o := .tup [kV kv.1, kv.2]) ht
  have hd3 := s3 _ _ hd
  refine ⟨Same.mut (Same.trans h.s s3) nD, ps ++ [t], by rw [upd_same, List.map_append]; rfl, ?_⟩
  rw [fil_take hk, hp, if_pos rfl]
  refine paired_app ((hps.same s3).mut hd3) (.cons ?_ .nil)
  show (upd (upd H2 t (.tup [kV kv.1, kv.2])) D _) t = _
  rw [upd_ne (ne_of_none hd ht).symm, upd_same]
section
variable {P : Program} {w : World} {K : PySem.W.Frag} {mg : Str → Option Value} {base : Heap}
theorem bnd_llen : BindN "_law_lengthened" "_law_lengthened" s_l_lengthened ["_law_song_here", "_law_wishes", "_law_length"] := fun _ _ _ _ _ _ us hl => match us, hl with | [_, _, _], _ => rfl
theorem sc_llen : FnScope ["_law_song_here", "_law_wishes", "_law_length", "_law_reach", "_law_later", "_law_delay", "_law_rows_here", "_law_place"] ["_law_song_here", "_law_wishes", "_law_length"] (defScope s_l_lengthened) := ⟨rfl, rfl, rfl, by decide +kernel, rfl, by decide +kernel, by decide +kernel⟩
def pLLen (sv wv l : V) (H : Hp) (Q : VK) (_ : XK) : Prop := ∃ s W, LSong H sv s ∧ OkSg s ∧ WAt H wv W ∧ InW s.n W ∧ AnyD H l ∧ ∀ H' v, Same H H' → BehOk H' v (lenOk s l) sv wv ⟨s.k, dI l, s.es⟩ (filW (ltP (dI l)) W) → Q v H'
theorem law_lengthened (T : Top K mg) : ClG P w K mg base CX0 3 "_law_lengthened" (sp3 pLLen) := by
  obtain ⟨fd, F⟩ := T.d_l_lengthened
  refine ClG.of T.g_l_lengthened F (raw_ofG F sc_llen bnd_llen len3 fun cdv A outer s0 H vs Q E hr hgd h => ?_)
  obtain ⟨sv, wv, l, rfl, s, W, hs, ok, hw, hin, hl, q⟩ := h
  have nd := sc_llen.nd
  have hu := hu_of hr
  suffices hh : ∃ t, PSs (cxB CX0 P w K mg base ["_law_song_here", "_law_wishes", "_law_length", "_law_reach", "_law_later", "_law_delay", "_law_rows_here", "_law_place"] "_law_lengthened" s_l_lengthened (ga K "_law_lengthened") cdv A outer s0 H E).nox (defBody s_l_lengthened) t ∧ t { nx := fun _ H' => Q .non H', rt := Q } (L2.start ["_law_song_here", "_law_wishes", "_law_length", "_law_reach", "_law_later", "_law_delay", "_law_rows_here", "_law_place"] [sv, wv, l]) H by
    obtain ⟨t, ht, hq⟩ := hh
    exact ⟨t, ht.nox, hq⟩
  obtain ⟨sa, sb, sxs, rfl, hsa, hsb, hse⟩ := id hs
  obtain ⟨wa, kvs, rfl, hwa, wk⟩ := id hw
  have tail : ∃ t, PSs (cxB CX0 P w K mg base ["_law_song_here", "_law_wishes", "_law_length", "_law_reach", "_law_later", "_law_delay", "_law_rows_here", "_law_place"] "_law_lengthened" s_l_lengthened (ga K "_law_lengthened") cdv A outer s0 H E).nox ((defBody s_l_lengthened).drop 4) t ∧
      ∀ (m : Int) (u : Option V) (H3 : Hp), l = .int m → Same H H3 → lenOk s (.int m) = true → t { nx := fun _ H' => Q .non H', rt := Q } [some (.ref sa), some (.ref wa), some (.int m), u, none, none, none, none] H3 := by
    refine ⟨_, pss_cons (ps_set (i := 4) nd rfl (.inl rfl) (pe_callTy (call_dictP rfl) (by rfl) T.b_dict (by decide +kernel) (pa_cons (pe_lock (pe_lc (own := [("_law_place", 7)]) (g := gName 7) (te := tTup (tCons (tVar 7) (tCons (tDGet (tVar 1) (tVar 7)) tNil))) rfl nd (pi_keys (pv 1)) (blkOk_by (N := ["_law_song_here", "_law_wishes", "_law_length", "_law_reach", "_law_later", "_law_delay", "_law_rows_here", "_law_place"]) (sc := defScope s_l_lengthened) (by decide +kernel))
        (fun _ _ _ _ _ => pg_name (i := 7) nd rfl (.inl rfl)) (fun _ _ _ _ _ => pts_one (pt_cmp (pc_lt (pv 7) (pv 2)))) (fun _ _ _ _ _ => pe_tup (pa_cons (pv 7) (pa_cons (pe_dget (by exact hu) (pv 1) (pv 7) (by intro _ _; rfl)) pa_nil))))) pa_nil)))
    (pss_one (ps_ret (pe_tup (pa_cons pe_non (pa_cons (pe_f (law_with_echoes T) (hr.mono (by decide)) pass0 (pa_cons (pv 0) (pa_cons (pv 2) (pa_cons (pe_ix ix_tup (pv 0) pe_int (fun _ _ => rfl)) pa_nil)))) (pa_cons (pv 4) pa_nil)))))), ?_⟩
    intro m u H3 el s3 hok
    subst el
    have ha3 := s3 _ _ hwa
    have hz := wk.len hin (by have := ok.n1; omega)
    have hn := ok.n40
    refine ⟨wa, _, ha3, True.intro, fun od => ?_⟩
    refine ⟨_, rfl, wa, od, rfl, .inl ⟨kvs, upd_same, fun D nD => lc_it (walk_keys (d := wa) (o := od) (kvs := kvs)) (fun j H2 => PW1 H3 wa D od kvs (ltP m) j H2) (PW1.start nD) (fun j H2 _ h => h.s _ _ upd_same) ?_ ?_⟩⟩
    · rintro j x H2 H4 hj inv ⟨rfl, k, v, hkv, rfl⟩
      obtain ⟨jj, ek, hW, _⟩ := wk.item hkv
      have ek : k = .inl jj := ek
      subst ek
      refine ⟨rfl, ?_⟩
      refine ⟨_, rfl, _, rfl, _, _, rfl, rfl, _, rfl, ?_⟩
      by_cases hji : jj < m
      · obtain ⟨ps, hd, hps⟩ := inv.d
        have hfz := inv.s _ _ (upd_same (H := H3) (a := wa) (o := .frz od (.dK kvs)))
        have dg : DGet H4 wa (.int jj) (some v) := .inl ⟨kvs, .inl jj, .inr ⟨od, hfz⟩, rfl, by rw [wk.at_]; exact hW.symm⟩
        refine itT (decide_eq_true hji) ⟨_, rfl, _, rfl, _, rfl, wa, v, rfl, dg, by show 2 ≤ sizeLine; decide, fun t ht => ⟨_, (Same.new ht) _ _ hd, ?_, inv.step nD hd hps hkv (by simp [keyP, ltP, hji]) ht⟩⟩
        have h1 := Paired.length hps
        have h2 := fil_len (p := ltP m) (kvs := kvs.take j)
        rw [List.length_take] at h2
        rw [List.length_map, sizeLine_eq]
        omega
      · exact itF (decide_eq_false hji) (inv.skip hkv (by simp [keyP, ltP, hji]))
    · rintro H2 inv
      obtain ⟨ps, hd, hps⟩ := inv.d
      rw [List.take_length] at hps
      have hfz := inv.s _ _ (upd_same (H := H3) (a := wa) (o := .frz od (.dK kvs)))
      have sbk := Same.unlock ha3 inv.s
      have nDa : D ≠ wa := fun z => by
        rw [z, upd_same] at nD
        cases nD
      have hps2 : PairsAt (upd H2 wa (.dK kvs)) ps (filK (ltP m) kvs) := paired_mono hps fun a kv z => by
        have z : H2 a = some (.tup [kV kv.1, kv.2]) := z
        show (upd H2 wa (.dK kvs)) a = _
        rw [upd_ne (ne_of z hfz (by intro y; cases y))]
        exact z
      refine ⟨hfz, D, ps, filK (ltP m) kvs, rfl, SqL.of (by rw [upd_ne nDa]; exact hd), paired_mono hps2 fun a kv z => SqT.of z, fun dn hdn => ?_⟩
      rw [(wk.fil (ltP m)).merge]
      have s5 := Same.trans (Same.trans s3 sbk) (Same.new (o := .dK (filK (ltP m) kvs)) hdn)
      refine ⟨_, rfl, _, rfl, _, rfl, sa, _, 2, _, rfl, rfl, SqT.of (s5 _ _ hsa), rfl, _, _, _, rfl, s, m, sb, sxs, s.es, hs.same s5, rfl, rfl, s5 _ _ hsb, paired_mono hse fun _ _ z => z.same s5, fun H6 v6 s6 hv6 => ⟨_, rfl, by show 3 ≤ sizeLine; decide, fun r hr => ?_⟩⟩
      have s7 := Same.snd (o := .tup [.non, v6, .ref dn]) (Same.trans s5 s6) hr
      exact q _ _ s7 ⟨r, _, _, _, rfl, upd_same, by rw [hok]; rfl, fun _ => ⟨hv6.same (Same.new hr), dn, _, rfl, (Same.new hr) _ _ (s6 _ _ upd_same), wk.fil _⟩, fun z => by rw [hok] at z; cases z⟩
  obtain ⟨t, ht, hqt⟩ := tail
  refine ⟨_, pss_cons (ps_if (pt_not (pt_val (pe_f (law_is_integer T) (hr.mono (by decide)) pass0 (pa_cons (pv 2) (pa_cons pe_int (pa_cons (pe_op op_pow pe_int pe_int) pa_nil)))))) (pss_one (ps_ret (pe_tup (pa_cons (pe_tup (pa_cons pe_str (pa_cons (pe_repr hgd hr T.b_repr (by rfl) (pa_cons (pv 2) pa_nil)) pa_nil))) (pa_cons (pv 0) (pa_cons (pv 1) pa_nil)))))) pss_nil)
    (pss_cons (ps_set (i := 3) nd rfl (.inl rfl) (pe_callB (cr_sum rfl) (by rfl) T.b_sum (by decide +kernel) (pa_cons (pe_lc (own := [("_law_delay", 5), ("_law_rows_here", 6)]) (g := gTup K 2 (gCons (gName 5) (gCons (gName 6) gNil))) (tt := tYes) (te := tVar 5) rfl nd (pi_tup (pe_ix ix_tup (pv 0) pe_int (fun _ _ => rfl))) (blkOk_by (N := ["_law_song_here", "_law_wishes", "_law_length", "_law_reach", "_law_later", "_law_delay", "_law_rows_here", "_law_place"]) (sc := defScope s_l_lengthened) (by decide +kernel))
        (fun _ _ _ _ _ => pg_tup rfl (pgs_cons (pg_name (i := 5) nd rfl (.inl rfl)) (pgs_cons (pg_name (i := 6) nd rfl (.inl rfl)) pgs_nil))) (fun _ _ _ _ _ => pts_nil) (fun _ _ _ _ _ => pv 5)) pa_nil)))
    (pss_cons (ps_if (pt_cmp (pc_gt (pv 2) pe_int)) (pss_one (ps_ret (pe_tup (pa_cons (pe_tup (pa_cons pe_str (pa_cons pe_int pa_nil))) (pa_cons (pv 0) (pa_cons (pv 1) pa_nil)))))) pss_nil)
    (pss_cons (ps_if (PW.pt (pw_and (pt_cmpR op_eq (pe_callB call_len (by rfl) T.b_len (by decide +kernel) (pa_cons (pe_ix ix_tup (pv 0) pe_int (fun _ _ => rfl)) pa_nil)) pe_int (nomark _)) (pw_and1 (pt_cmp (pc_gt (pv 2) (pv 3)))))) (pss_one (ps_ret (pe_tup (pa_cons (pe_tup (pa_cons pe_str (pa_cons (pv 3) pa_nil))) (pa_cons (pv 0) (pa_cons (pv 1) pa_nil)))))) pss_nil)
    ht))), ?_⟩
  obtain ⟨kd, hkd, hkb⟩ := hl.kd (K := K)
  have bad : lenOk s l = false → ∀ (H1 : Hp) (t r : Addr) (xs : List V), Same H H1 → H1 t = none → (upd H1 t (.tup xs)) r = none → Q (.ref r) (upd (upd H1 t (.tup xs)) r (.tup [.ref t, .ref sa, .ref wa])) := fun hb H1 t r xs s1 ht hr =>
    q _ _ (Same.snd (Same.snd s1 ht) hr) ⟨r, .ref t, _, _, rfl, upd_same, by rw [hb]; rfl, (fun z => by rw [hb] at z; cases z), fun _ => ⟨rfl, rfl⟩⟩
  refine ⟨_, rfl, _, _, rfl, rfl, ⟨by decide, by decide, by decide⟩, _, _, _, rfl, kd, 1, _, hkd, hkb, rfl, rfl, _, rfl, ?_⟩
  rw [p30]
  cases hI : isI l (some 1) (some G30) with
  | false =>
    obtain ⟨b0, d0, hsw, hsd⟩ := hl
    refine itT rfl ⟨_, rfl, b0, _, d0, rfl, hsw, hsd, by show 2 ≤ sizeLine; decide, fun t ht => ⟨_, rfl, _, rfl, by show 3 ≤ sizeLine; decide, fun r hr => bad (by rw [lenOk, hI]; rfl) H t r _ (Same.refl H) ht hr⟩⟩
  | true =>
    refine itF rfl ?_
    obtain ⟨m, rfl, hm1, hm2⟩ := isI_int hI
    have m1 : 1 ≤ m := by simpa [loB] using hm1
    have m30 : m ≤ G30 := by simpa [hiB] using hm2
    have hxl : sxs.length = s.es.length := Paired.length hse
    refine ⟨_, rfl, sa, _, 2, _, rfl, rfl, SqT.of hsa, rfl, sb, rfl, ⟨_, SqT.of hsb⟩, fun D nD => lc_tup (K := K) (a := sb) (xs := sxs) (fun i H3 => Same H H3 ∧ H3 D = some (.lst ((s.es.take i).map fun e => V.int e.1))) ⟨Same.new nD, upd_same⟩ (fun i H3 _ h => SqT.of (h.1 _ _ hsb)) ?_ ?_⟩
    · rintro i x H3 hi ⟨s3, d3⟩
      obtain ⟨e, he, c, t, rfl, hc, ht⟩ := paired_get hse hi
      refine ⟨c, _, rfl, SqT.of (s3 _ _ hc), rfl, _, _, rfl, _, _, rfl, ⟨rfl, ?_⟩⟩
      refine ⟨rfl, ?_⟩
      refine ⟨_, rfl, _, d3, ?_, Same.mut s3 nD, ?_⟩
      · rw [List.length_map, List.length_take, sizeLine_eq]
        have := ok.l2
        omega
      · rw [upd_same, take_more he, List.map_append]
        rfl
    · rintro H3 ⟨s3, d3⟩
      rw [hxl, List.take_length] at d3
      refine ⟨D, s.es.map (·.1), rfl, SqL.of (by rw [List.map_map]; exact d3), ?_⟩
      have hsa3 := s3 _ _ hsa
      have hsb3 := s3 _ _ hsb
      refine ⟨_, rfl, _, _, rfl, rfl, _, rfl, ?_⟩
      by_cases h40 : m ≤ 40
      · refine itF (decide_eq_false (by omega)) ⟨_, rfl, sa, _, 2, _, rfl, rfl, SqT.of hsa3, rfl, _, sxs.length, rfl, .inr ⟨_, SqT.of hsb3, rfl⟩, rfl, _, rfl, ?_⟩
        have okE := okEs_iff ok m
        have okL : lenOk s (.int m) = okEs s.k m s.es := by
          rw [lenOk, show dI (.int m) = m from rfl, hI, decide_eq_true h40]
          simp
        by_cases h2 : s.es.length = 2
        · refine itT (by rw [hxl, h2]; rfl) ⟨_, rfl, _, rfl, _, _, rfl, rfl, _, rfl, ?_⟩
          by_cases hm : m ≤ (s.es.map (·.1)).sum
          · exact itF (decide_eq_false (by omega)) (hqt m _ H3 rfl s3 (by rw [okL, okE]; simp [h2, hm]))
          · refine itT (decide_eq_true (by omega)) ⟨_, rfl, by show 2 ≤ sizeLine; decide, fun t ht => ⟨_, rfl, _, rfl, by show 3 ≤ sizeLine; decide, fun r hr => bad (by rw [okL, okE]; simp [h2, hm]) H3 t r _ s3 ht hr⟩⟩
        · exact itF (by rw [hxl]; exact decide_eq_false (by intro z; have := V.int.inj z; omega)) (iteF (hqt m _ H3 rfl s3 (by rw [okL, okE]; simp [h2])))
      · refine itT (decide_eq_true (by omega)) ⟨by show 2 ≤ sizeLine; decide, fun t ht => ⟨_, rfl, _, rfl, by show 3 ≤ sizeLine; decide, fun r hr => bad ?_ H3 t r _ s3 ht hr⟩⟩
        rw [lenOk, show dI (.int m) = m from rfl, decide_eq_false h40]
        simp
end
end Ef

set_option Elab.async false
set_option linter.all false
set_option maxRecDepth 100000
set_option maxHeartbeats 4000000
namespace Ef
open PySem PySem.Spec PyProof.Rows L2 He
def OkQ (p : Option Int) : Prop := ∀ i, p = some i → 0 ≤ i ∧ i ≤ BigI
theorem ixNat {n j : Nat} (hj : j < n) : ixN n (j : Int) = some j := by
  unfold ixN
  rw [if_pos (by omega), if_pos (by omega)]
  rfl
theorem p59 : (10 : Int) ^ (59 : Int).toNat = 100000000000000000000000000000000000000000000000000000000000 := by decide +kernel
/-- a list of prices under way -/
def PrL (p l D : Addr) (H : Hp) (kk n : Nat) (H2 : Hp) : Prop := Ex p H H2 ∧ Pen p l n H2 ∧ ∃ r : List (Option Int), H2 D = some (.lst (r.map oI)) ∧ r.length = kk ∧ ∀ pp ∈ r, OkQ pp
theorem PrL.draw {p l D : Addr} {H H2 H3 : Hp} {kk n m : Nat} (h : PrL p l D H kk n H2) (k : Ex p H2 H3) (pen : Pen p l m H3) : PrL p l D H kk m H3 := by
  obtain ⟨ex, pn, r, hD, hl, ha⟩ := h
  exact ⟨ex.trans k, pen, r, k _ _ hD (pen_ne pn hD (fun _ z => by cases z)), hl, ha⟩
theorem PrL.set {p l D : Addr} {H H2 : Hp} {kk n m0 : Nat} {r : List (Option Int)} {j : Nat} {q : Option Int} (h0 : Pen p l m0 H) (hD : H D = none) (h : PrL p l D H kk n H2) (hr : H2 D = some (.lst (r.map oI))) (hl : r.length = kk) (ha : ∀ pp ∈ r, OkQ pp) (hq : OkQ q) : PrL p l D H kk n (upd H2 D (.lst ((r.map oI).set j (oI q)))) := by
  obtain ⟨ex, pn, _⟩ := h
  refine ⟨ex.mut hD, Pen.upd h0 hD pn, r.set j q, by rw [upd_same, List.map_set], by rw [List.length_set]; exact hl, fun pp hp => ?_⟩
  rcases List.mem_or_eq_of_mem_set hp with h | h
  · exact ha pp h
  · rw [h]; exact hq
section
variable {P : Program} {w : World} {K : PySem.W.Frag} {mg : Str → Option Value} {base : Heap}
theorem bnd_prices : BindN "_law_prices" "_law_prices" s_l_prices ["_law_pen_here", "_law_letters", "_law_top"] := fun _ _ _ _ _ _ us hl => match us, hl with | [_, _, _], _ => rfl
theorem sc_prices : FnScope ["_law_pen_here", "_law_letters", "_law_top", "_law_found", "_law_letter"] ["_law_pen_here", "_law_letters", "_law_top"] (defScope s_l_prices) := ⟨rfl, rfl, rfl, by decide +kernel, rfl, by decide +kernel, by decide +kernel⟩
def cPrices : Nat := 9
def pPrices (pn k t : V) (H : Hp) (Q : VK) (_ : XK) : Prop := ∃ (p l : Addr) (n kk : Nat) (tt : Int), pn = .ref p ∧ k = .int (kk : Int) ∧ t = .int tt ∧ Pen p l (n + cPrices) H ∧ 1 ≤ kk ∧ kk ≤ 5 ∧ 0 ≤ tt ∧ tt ≤ 5 ∧ ∀ (H' : Hp) (a : Addr) (r : List (Option Int)), Ex p H H' → Pen p l n H' → H a = none → H' a = some (.tup (r.map oI)) → r.length = kk → (∀ pp ∈ r, OkQ pp) → Q (.ref a) H'
theorem law_prices (T : Top K mg) : Clb P w K mg base CX0 3 "_law_prices" (sp3 pPrices) := by
  obtain ⟨fd, F⟩ := T.d_l_prices
  refine Clb.of T.g_l_prices F (fnN3 F sc_prices bnd_prices fun cdv A outer s H pn k t Q E hr h => ?_)
  obtain ⟨p, l, n, kk, tt, rfl, rfl, rfl, hp, k1, k5, t0, t5, q⟩ := h
  have nd := sc_prices.nd
  have hr1 : Room 1 _ := hr.mono (by decide)
  have tail3 : ∃ t, PSs (cxB CX0 P w K mg base ["_law_pen_here", "_law_letters", "_law_top", "_law_found", "_law_letter"] "_law_prices" s_l_prices (ga K "_law_prices") cdv A outer s H E).nox ((defBody s_l_prices).drop 3) t ∧
      ∀ (D : Addr) (H2 : Hp), H D = none → PrL p l D H kk n H2 → t { nx := fun _ H' => Q .non H', rt := Q } [some (.ref p), some (.int (kk : Int)), some (.int tt), some (.ref D), none] H2 := by
    refine ⟨_, pss_one (ps_ret (pe_tupleOf (by rfl) T.b_tuple (pv 3))), ?_⟩
    rintro D H2 hD ⟨ex, pen, r, hr, hl, ha⟩
    refine ⟨_, rfl, .inl ⟨D, _, rfl, SqL.of hr, fun tu htu => ?_⟩⟩
    have s4 := Same.new (o := .tup (r.map oI)) htu
    exact q _ _ r (ex.trans (Ex.of s4)) (pen.same s4) (ex.back pen htu) upd_same hl ha
  obtain ⟨t3, ht3, hq3⟩ := tail3
  have tail2 : ∃ t, PSs (cxB CX0 P w K mg base ["_law_pen_here", "_law_letters", "_law_top", "_law_found", "_law_letter"] "_law_prices" s_l_prices (ga K "_law_prices") cdv A outer s H E).nox ((defBody s_l_prices).drop 2) t ∧
      ∀ (D : Addr) (H2 : Hp), H D = none → PrL p l D H kk (n + 2) H2 → t { nx := fun _ H' => Q .non H', rt := Q } [some (.ref p), some (.int (kk : Int)), some (.int tt), some (.ref D), none] H2 := by
    refine ⟨_, pss_cons (ps_if (pt_cmp (pc_eqI (pe_f (law_draw T) hr1 pass0 (pa_cons (pv 0) (pa_cons pe_int pa_nil))) pe_int)) (pss_one (ps_asg (pe_op op_pow pe_int pe_int) (pg_sub (pv 3) (pe_f (law_draw T) hr1 pass0 (pa_cons (pv 0) (pa_cons (pv 1) pa_nil))) set_list))) pss_nil) ht3, ?_⟩
    intro D H2 hD inv
    refine ⟨_, rfl, _, _, rfl, p, l, n + 1, 6, rfl, rfl, inv.2.1, by decide, by decide, fun H3 i ex3 pen3 i0 i6 => ⟨_, _, rfl, rfl, _, rfl, ?_⟩⟩
    have inv3 := inv.draw ex3 pen3
    by_cases c1 : i = 0
    · refine itT (decide_eq_true c1) ⟨_, _, rfl, rfl, ⟨by decide, by decide, by decide⟩, _, rfl, _, rfl, _, rfl, _, _, rfl, p, l, n, kk, rfl, rfl, pen3, by omega, by omega, fun H4 j ex4 pen4 j0 j1 => ?_⟩
      have inv4 := inv3.draw ex4 pen4
      obtain ⟨_, _, r, hr, hl, ha⟩ := id inv4
      obtain ⟨jn, rfl⟩ := Int.eq_ofNat_of_zero_le j0
      refine ⟨D, _, _, jn, rfl, rfl, hr, ixNat (by rw [List.length_map, hl]; omega), hq3 _ _ hD ?_⟩
      refine inv4.set hp hD hr hl ha (q := some ((10 : Int) ^ (59 : Int).toNat)) fun i e => ?_
      rw [p59] at e
      cases e
      exact ⟨by decide, by decide +kernel⟩
    · exact itF (decide_eq_false c1) (hq3 _ _ hD ⟨inv3.1, inv3.2.1.less (by omega), inv3.2.2⟩)
  obtain ⟨t2, ht2, hq2⟩ := tail2
  refine ⟨_, pss_cons (ps_setLc (i := 3) (own := [("_law_letter", 4)]) (g := gName 4) (tt := tYes) rfl nd rfl rfl rfl (pi_range1 (by rfl) T.b_range (pa_cons (pv 1) pa_nil))
        (blkOk_by (N := ["_law_pen_here", "_law_letters", "_law_top", "_law_found", "_law_letter"]) (sc := defScope s_l_prices) (by decide +kernel))
        (fun _ _ _ _ _ => pg_name (i := 4) nd rfl (.inl rfl)) (fun _ _ _ _ _ => pts_nil)
        (fun _ _ _ _ _ => pe_f (E := E) (law_draw T) hr1 pass0 (pa_cons (pv 0) (pa_cons (pe_op op_add (pv 2) pe_int) pa_nil))))
    (pss_cons (ps_if (pt_cmp (pc_eqI (pe_f (law_draw T) hr1 pass0 (pa_cons (pv 0) (pa_cons pe_int pa_nil))) pe_int)) (pss_one (ps_asg pe_non (pg_sub (pv 3) (pe_f (law_draw T) hr1 pass0 (pa_cons (pv 0) (pa_cons (pv 1) pa_nil))) set_list))) pss_nil) ht2), ?_⟩
  refine ⟨_, rfl, (kk : Int), rfl, by omega, by omega, fun D nD => lc_range (lo := 0) (n := kk) (fun i H2 => PrL p l D H i (n + 4 + (5 - i)) H2) ⟨Ex.of (Same.new nD), (hp.same (Same.new nD)).less (by show n + 4 + (5 - 0) ≤ n + 9; omega), [], upd_same, rfl, fun _ h => by cases h⟩ ?_ ?_⟩
  · intro i H2 hi inv
    refine ⟨rfl, ?_⟩
    refine ⟨_, rfl, _, rfl, _, _, rfl, rfl, _, _, rfl, p, l, n + 4 + (5 - (i + 1)), tt + 1, rfl, rfl, inv.2.1.less (by omega), by omega, by omega, fun H3 y ex3 pen3 y0 y1 => ?_⟩
    obtain ⟨ex4, pen4, r, hr, hl, ha⟩ := inv.draw ex3 pen3
    refine ⟨_, hr, by rw [List.length_map, hl, sizeLine_eq]; omega, ex4.mut nD, Pen.upd hp nD pen4, r ++ [some y], by rw [upd_same, List.map_append]; rfl, by rw [List.length_append, hl]; rfl, fun pp hpp => ?_⟩
    rcases List.mem_append.mp hpp with h | h
    · exact ha pp h
    · rw [List.mem_singleton.mp h]
      intro i e
      cases e
      have hB : BigI = 1000000000000000000000000000000000000000000000000000000000000 := rfl
      exact ⟨y0, by omega⟩
  · intro H2 inv
    refine ⟨_, rfl, _, _, rfl, p, l, n + 3, 3, rfl, rfl, inv.2.1.less (by omega), by decide, by decide, fun H3 i ex3 pen3 i0 i3 => ⟨_, _, rfl, rfl, _, rfl, ?_⟩⟩
    have inv3 := inv.draw ex3 pen3
    by_cases c1 : i = 0
    · refine itT (decide_eq_true c1) ⟨_, rfl, _, rfl, _, rfl, _, _, rfl, p, l, n + 2, kk, rfl, rfl, pen3, by omega, by omega, fun H4 j ex4 pen4 j0 j1 => ?_⟩
      have inv4 := inv3.draw ex4 pen4
      obtain ⟨_, _, r, hr, hl, ha⟩ := id inv4
      obtain ⟨jn, rfl⟩ := Int.eq_ofNat_of_zero_le j0
      exact ⟨D, _, _, jn, rfl, rfl, hr, ixNat (by rw [List.length_map, hl]; omega), hq2 _ _ nD (inv4.set hp nD hr hl ha (q := none) fun i e => by cases e)⟩
    · exact itF (decide_eq_false c1) (hq2 _ _ nD ⟨inv3.1, inv3.2.1.less (by omega), inv3.2.2⟩)
end
end Ef

set_option Elab.async false
set_option linter.all false
set_option maxRecDepth 100000
set_option maxHeartbeats 4000000
namespace Ef
open PySem PySem.Spec PyProof.Rows L2 He
/-! ### small data -/
structure Fit (d : PyData) (m n : Nat) : Prop where
  l : d.leavesShort 101 = true
  s : d.showable = true
  w : d.weight ≤ m
  d : d.depth ≤ n
structure FitA (ds : List PyData) (m n : Nat) : Prop where
  l : PyData.leavesShortAll 101 ds = true
  s : PyData.showableAll ds = true
  w : PyData.weightAll ds ≤ m
  d : PyData.depthAll ds ≤ n
theorem Fit.small {d : PyData} {m n : Nat} (h : Fit d m n) (hm : m ≤ 9000) (hn : n ≤ 20) : SmallD d := by
  refine ⟨h.s, ?_, Nat.le_trans h.d hn⟩
  have z := PyData.shown_le 101 (by decide) d h.l
  have := h.w
  rw [sizeLine_eq]
  omega
theorem FitA.nil {m n : Nat} : FitA [] m n := ⟨rfl, rfl, Nat.zero_le _, Nat.zero_le _⟩
theorem FitA.cons {d : PyData} {ds : List PyData} {a b m n : Nat} (h : Fit d a n) (r : FitA ds b n) (e : a + 1 + b ≤ m) : FitA (d :: ds) m n := by
  refine ⟨?_, ?_, ?_, ?_⟩
  · simp only [PyData.leavesShortAll, h.l, r.l, Bool.and_self]
  · simp only [PyData.showableAll, h.s, r.s, Bool.and_self]
  · simp only [PyData.weightAll]
    have := h.w
    have := r.w
    omega
  · simp only [PyData.depthAll]
    exact Nat.max_le.mpr ⟨h.d, r.d⟩
theorem FitA.tup {ds : List PyData} {m n : Nat} (r : FitA ds m n) : Fit (.tuple ds) m (n + 1) := by
  refine ⟨?_, ?_, ?_, ?_⟩
  · simp only [PyData.leavesShort, r.l]
  · simp only [PyData.showable, r.s]
  · simp only [PyData.weight]
    exact r.w
  · simp only [PyData.depth]
    have := r.d
    omega
theorem FitA.lst {ds : List PyData} {m n : Nat} (r : FitA ds m n) : Fit (.list ds) m (n + 1) := by
  refine ⟨?_, ?_, ?_, ?_⟩
  · simp only [PyData.leavesShort, r.l]
  · simp only [PyData.showable, r.s]
  · simp only [PyData.weight]
    exact r.w
  · simp only [PyData.depth]
    have := r.d
    omega
theorem fit_int {i : Int} {n : Nat} (h : i.natAbs < 10 ^ 100) : Fit (.int i) 400 n := by
  have hl : i.natAbs.log2 < 333 ∨ i.natAbs = 0 := by
    by_cases h0 : i.natAbs = 0
    · exact .inr h0
    · exact .inl ((Nat.log2_lt h0).mpr (Nat.lt_of_lt_of_le h (by decide +kernel)))
  refine ⟨?_, (small_int h).sh, ?_, ?_⟩
  · simp only [PyData.leavesShort, PyData.shown]
    refine decide_eq_true ?_
    rw [PySem.ofString_length]
    exact int_text_length_le10 (k := 100) (by decide) h
  · simp only [PyData.weight]
    rcases hl with h | h
    · split <;> omega
    · have : i = 0 := by omega
      subst this
      exact Nat.zero_le _
  · simp only [PyData.depth]
    exact Nat.zero_le _
theorem fit_non {n : Nat} : Fit .none 0 n := ⟨rfl, rfl, Nat.zero_le _, Nat.zero_le _⟩
def oD : Option Int → PyData
  | none => .none
  | some i => .int i
theorem fit_oD {o : Option Int} {n : Nat} (h : OkQ o) : Fit (oD o) 400 n := by
  cases o with
  | none => exact ⟨rfl, rfl, Nat.zero_le _, Nat.zero_le _⟩
  | some i =>
    obtain ⟨h0, h1⟩ := h i rfl
    have h1 : i ≤ 1000000000000000000000000000000000000000000000000000000000000 := h1
    exact fit_int (Nat.lt_of_le_of_lt (by omega) big100)
theorem fit_r : ∀ {r : List (Option Int)} {n : Nat}, (∀ p ∈ r, OkQ p) → FitA (r.map oD) (r.length * 401) n
  | [], _, _ => .nil
  | p :: r, _, h => .cons (fit_oD (h p (List.mem_cons_self ..))) (fit_r fun q hq => h q (List.mem_cons_of_mem _ hq)) (by rw [List.length_cons]; omega)
theorem shw_r {b : Bool} {H : Hp} : ∀ {r : List (Option Int)}, ShwL b H (r.map oI) (r.map oD)
  | [] => .nil
  | none :: _ => .cons .non shw_r
  | some i :: _ => .cons (.int i) shw_r
theorem any_r {H : Hp} {a : Addr} {r : List (Option Int)} (ha : H a = some (.tup (r.map oI))) (hl : r.length ≤ 20) (h : ∀ p ∈ r, OkQ p) : AnyD H (.ref a) :=
  ⟨false, _, .tup ha shw_r, (FitA.tup (fit_r (n := 0) h)).small (by omega) (by decide)⟩
theorem any_rl {H : Hp} {a : Addr} {r : List (Option Int)} (ha : H a = some (.lst (r.map oI))) (hl : r.length ≤ 20) (h : ∀ p ∈ r, OkQ p) : AnyD H (.ref a) :=
  ⟨false, _, .lst ha (fun z => by cases z) shw_r, (FitA.lst (fit_r (n := 0) h)).small (by omega) (by decide)⟩
/-! ### what is new in H' against H, and its tuples -/
def nw (H H' : Hp) : Hp := fun c => match H c, H' c with
  | none, o => o
  | some _, some (.tup xs) => some (.tup xs)
  | some _, _ => none
theorem nw_new {H H' : Hp} {c : Addr} {o : HO} (h : H c = none) (h' : H' c = some o) : nw H H' c = some o := by
  unfold nw
  rw [h, h']
theorem nw_tup {H H' : Hp} {c : Addr} {xs : List V} (h' : H' c = some (.tup xs)) : nw H H' c = some (.tup xs) := by
  unfold nw
  rw [h']
  cases H c <;> rfl
theorem nw_at {H H' : Hp} {c : Addr} {o : HO} (h : nw H H' c = some o) : H' c = some o ∧ (H c = none ∨ ∃ xs, o = .tup xs) := by
  unfold nw at h
  cases e : H c with
  | none =>
    rw [e] at h
    exact ⟨h, .inl rfl⟩
  | some u =>
    rw [e] at h
    cases e' : H' c with
    | none =>
      rw [e'] at h
      cases h
    | some o' =>
      rw [e'] at h
      cases o' with
      | tup xs =>
        cases h
        exact ⟨rfl, .inr ⟨xs, rfl⟩⟩
      | _ => cases h
theorem nw_le {H H' : Hp} : Same (nw H H') H' := fun _ _ h => (nw_at h).1
/-- what a later heap must keep -/
theorem nw_same {H H' H2 : Hp} (k : ∀ c o, H' c = some o → (H c = none ∨ ∃ xs, o = .tup xs) → H2 c = some o) : Same (nw H H') H2 := fun c o h => k c o (nw_at h).1 (nw_at h).2
end Ef

set_option Elab.async false
set_option linter.all false
set_option maxRecDepth 100000
set_option maxHeartbeats 4000000
namespace Ef
open PySem PySem.Spec PyProof.Rows L2 He
theorem RowsT.nw {H H' : Hp} {v : V} {R : Rw} (h : RowsT H' v R) : RowsT (nw H H') v R := by
  obtain ⟨a, xs, e, h, p⟩ := h
  exact ⟨a, xs, e, nw_tup h, paired_mono p fun x r ⟨b, e, h⟩ => ⟨b, e, nw_tup h⟩⟩
theorem TabAt.nw {K : PySem.W.Frag} {H H' : Hp} {x : Addr} {R : Rw} (hx : H x = none) (h : TabAt K H' (.ref x) R) : TabAt K (nw H H') (.ref x) R := by
  obtain ⟨a, dx, t, e, h, r⟩ := h
  cases e
  exact ⟨x, dx, t, rfl, nw_new hx h, r.nw⟩
theorem oI_le {r : List (Option Int)} (h : ∀ p ∈ r, OkQ p) : ∀ xs, some (r.map oI) = some xs → ∀ i, V.int i ∈ xs → i ≤ BigI := by
  intro xs e i hi
  cases e
  obtain ⟨o, ho, e⟩ := List.mem_map.mp hi
  cases o with
  | none => cases e
  | some j =>
    cases e
    exact (h _ ho i rfl).2
section
variable {P : Program} {w : World} {K : PySem.W.Frag} {mg : Str → Option Value} {base : Heap}
theorem bnd_deed : BindN "_law_deed" "_law_deed" s_l_deed ["_law_pen_here", "_law_song_here"] := fun _ _ _ _ _ _ us hl => match us, hl with | [_, _], _ => rfl
theorem sc_deed : FnScope ["_law_pen_here", "_law_song_here", "_law_letters", "_law_length", "_law_echoes", "_law_way", "_law_delay"] ["_law_pen_here", "_law_song_here"] (defScope s_l_deed) := ⟨rfl, rfl, rfl, by decide +kernel, rfl, by decide +kernel, by decide +kernel⟩
def cDeed : Nat := 124
def pDeed (K : PySem.W.Frag) (pn sv : V) (H : Hp) (Q : VK) (_ : XK) : Prop := ∃ (p l : Addr) (n : Nat) (s : Sg), pn = .ref p ∧ LSong H sv s ∧ OkSg s ∧ Pen p l (n + cDeed) H ∧ ∀ (H' : Hp) (v : V) (d : Dd), Ex p H H' → Pen p l n H' → DeedAt K (nw H H') v d → Q v H'
theorem law_deed (T : Top K mg) : Clb P w K mg base CX0 6 "_law_deed" (sp2 (pDeed K)) := by
  obtain ⟨fd, F⟩ := T.d_l_deed
  obtain ⟨ft, Ft⟩ := T.d_Table_init
  refine Clb.of T.g_l_deed F (fnN2 F sc_deed bnd_deed fun cdv A outer s0 H pn sv Q E hr h => ?_)
  obtain ⟨p, l, n, s, rfl, ⟨sa, sb, xs, rfl, hsa, hsb, hse⟩, ok, hp, q⟩ := h
  have nd := sc_deed.nd
  have hu1 := Nat.lt_of_succ_lt (hu_of hr)
  have hr1 : Room 1 _ := hr.mono (by decide)
  have hr2 : Room 2 _ := hr.mono (by decide)
  have hr3 : Room 3 _ := hr.mono (by decide)
  have hn1 := ok.n1
  have hn40 := ok.n40
  have hB : BigI = 1000000000000000000000000000000000000000000000000000000000000 := rfl
  have tail : ∃ t, PSs (cxB CX0 P w K mg base ["_law_pen_here", "_law_song_here", "_law_letters", "_law_length", "_law_echoes", "_law_way", "_law_delay"] "_law_deed" s_l_deed (ga K "_law_deed") cdv A outer s0 H E).nox ((defBody s_l_deed).drop 6) t ∧
      ∀ (wy : Int) (u : Option V) (H1 : Hp), Ex p H H1 → Pen p l (n + 123) H1 → t { nx := fun _ H' => Q .non H', rt := Q } [some (.ref p), some (.ref sa), some (.int (s.k : Int)), some (.int s.n), some (.ref sb), some (.int wy), u] H1 := by
    refine ⟨_, pss_cons (ps_set (i := 6) nd rfl (.inl rfl) (pe_f (law_pick T) hr2 pass0 (pa_cons (pv 0) (pa_cons (pe_lst (pa_cons (pe_op op_add (pe_callB (call_max2 rfl) (by rfl) T.b_max (by decide +kernel) (pa_cons pe_int (pa_cons (pe_op op_sub (pv 3) pe_int) pa_nil))) (pe_f (law_draw T) hr1 pass0 (pa_cons (pv 0) (pa_cons pe_int pa_nil)))) (pa_cons (pe_op op_add pe_int (pe_f (law_draw T) hr1 pass0 (pa_cons (pv 0) (pa_cons (pe_op op_add (pv 3) pe_int) pa_nil)))) pa_nil))) pa_nil))))
      (pss_one (ps_ret (pe_tup (pa_cons pe_str (pa_cons (pv 6) (pa_cons (StX.pe_makeR T.k_Table (Table_init T Ft) hr (by rfl) T.g_Table pass0 (pa_cons (pe_f (law_rows T) hr3 pass0 (pa_cons (pv 0) (pa_cons (pv 2) (pa_cons pe_int pa_nil)))) pa_nil)) pa_nil)))))), ?_⟩
    intro wy u H1 ex1 pen1
    refine ⟨_, rfl, _, rfl, _, _, rfl, rfl, _, _, rfl, _, rfl, _, _, rfl, p, l, n + 122, 4, rfl, rfl, pen1, by decide, by decide, fun H2 i ex2 pen2 i0 i4 => ?_⟩
    refine ⟨_, _, rfl, rfl, _, rfl, _, rfl, _, _, rfl, rfl, _, _, rfl, p, l, n + 121, s.n + 1, rfl, rfl, pen2, by omega, by omega, fun H3 j ex3 pen3 j0 j1 => ?_⟩
    refine ⟨_, _, rfl, rfl, by show 2 ≤ sizeLine; decide, fun a ha => ⟨_, _, rfl, p, l, a, n + 120, _, rfl, rfl, upd_same, pen3.same (Same.new ha), by show 1 ≤ 2; decide, by show 2 < 1000; decide, fun H4 v ex4 pen4 hv => ?_⟩⟩
    have ex04 : Ex p H H4 := ex1.trans (ex2.trans (ex3.trans ((Ex.of (Same.new ha)).trans ex4)))
    obtain ⟨dl, rfl, d0, d1⟩ : ∃ dl : Int, v = .int dl ∧ 0 ≤ dl ∧ dl ≤ BigI := by
      simp at hv
      rcases hv with rfl | rfl
      · refine ⟨_, rfl, ?_, ?_⟩ <;> (try split) <;> omega
      · exact ⟨_, rfl, by omega, by omega⟩
    refine ⟨_, rfl, _, rfl, _, rfl, _, _, _, rfl, p, l, n, s.k, 5, rfl, rfl, rfl, pen4, ok.k1, ok.k5, by decide, by decide, fun H5 v R ex5 pen5 hv okR => ?_⟩
    refine fun x dx hx hdx hne => tab_made okR (.inl hv) hx hdx hne fun H6 s6 ht => ⟨by show 3 ≤ sizeLine; decide, fun t htn => ?_⟩
    have s7 := Same.trans s6 (Same.new (o := .tup [V.str "echo", .int dl, .ref x]) htn)
    have ex05 := ex04.trans ex5
    have hxH : H x = none := ex05.back pen5 hx
    exact q _ _ (.echo (.int dl) (.ref x) (some R)) (ex05.trans (Ex.of s7)) (pen5.same s7) ⟨t, rfl, nw_tup upd_same, any_G d0 d1, TabAt.nw hxH (ht.same (Same.new htn)), fun R' e => by cases e; exact ⟨_, okR⟩⟩
  obtain ⟨t, ht, hqt⟩ := tail
  refine ⟨_, pss_cons (ps_asg (pv 1) (pg_tup rfl (pgs_cons (pg_name (i := 2) nd rfl (.inl rfl)) (pgs_cons (pg_name (i := 3) nd rfl (.inl rfl)) (pgs_cons (pg_name (i := 4) nd rfl (.inl rfl)) pgs_nil)))))
    (pss_cons (ps_set (i := 5) nd rfl (.inl rfl) (pe_f (law_draw T) hr1 pass0 (pa_cons (pv 0) (pa_cons pe_int pa_nil))))
    (pss_cons (ps_if (pt_cmp (pc_lt (pv 5) pe_int)) (pss_one (ps_ret (pe_tup (pa_cons pe_str (pa_cons (pe_f (law_draw T) hr1 pass0 (pa_cons (pv 0) (pa_cons (pv 3) pa_nil))) (pa_cons (pe_f (law_prices T) hr3 pass0 (pa_cons (pv 0) (pa_cons (pv 2) (pa_cons pe_int pa_nil)))) pa_nil)))))) pss_nil)
    (pss_cons (ps_if (pt_cmp (pc_eqI (pv 5) pe_int)) (pss_one (ps_ret (pe_tup (pa_cons pe_str (pa_cons (pe_f (law_draw T) hr1 pass0 (pa_cons (pv 0) (pa_cons (pv 3) pa_nil))) pa_nil))))) pss_nil)
    (pss_cons (ps_if (pt_cmp (pc_lt (pv 5) pe_int)) (pss_one (ps_ret (pe_tup (pa_cons pe_str (pa_cons (pe_callB (call_max2 rfl) (by rfl) T.b_max (by decide +kernel) (pa_cons pe_int (pa_cons (pe_callB (call_min2 rfl) (by rfl) T.b_min (by decide +kernel) (pa_cons pe_int (pa_cons (pe_op op_sub (pe_op op_add (pv 3) (pe_f (law_draw T) hr1 pass0 (pa_cons (pv 0) (pa_cons pe_int pa_nil)))) pe_int) pa_nil))) pa_nil))) pa_nil))))) pss_nil)
    (pss_cons (ps_if (PW.pt (pw_and (pt_cmp (pc_eqI (pv 5) pe_int)) (pw_and1 (pt_cmpR (op_neE hu1) (pv 4) (pe_tup pa_nil) (nomark _))))) (pss_one (ps_ret (pe_tup (pa_cons pe_str (pa_cons (pe_f (law_draw T) hr1 pass0 (pa_cons (pv 0) (pa_cons (pe_callB call_len (by rfl) T.b_len (by decide +kernel) (pa_cons (pv 4) pa_nil)) pa_nil))) pa_nil))))) pss_nil)
    ht))))), ?_⟩
  refine ⟨_, rfl, sa, _, rfl, SqT.of hsa, rfl, _, _, rfl, _, _, rfl, _, _, rfl, ⟨rfl, ?_⟩⟩
  refine ⟨_, rfl, _, _, rfl, p, l, n + 123, 9, rfl, rfl, hp, by decide, by decide, fun H1 wy ex1 pen1 w0 w9 => ?_⟩
  refine ⟨_, rfl, _, _, rfl, rfl, _, rfl, ?_⟩
  by_cases c1 : wy < 3
  · refine itT (decide_eq_true c1) ⟨_, rfl, _, rfl, _, _, rfl, p, l, n + 122, s.n, rfl, rfl, pen1, by omega, by omega, fun H2 i ex2 pen2 i0 i1 => ?_⟩
    refine ⟨_, rfl, _, rfl, _, _, _, rfl, p, l, n + 113, s.k, 5, rfl, rfl, rfl, pen2, ok.k1, ok.k5, by decide, by decide, fun H3 a r ex3 pen3 hn ha hl hq => ⟨by show 3 ≤ sizeLine; decide, fun t ht => ?_⟩⟩
    have s4 := Same.new (o := .tup [V.str "wish", .int i, .ref a]) ht
    have k5 := ok.k5
    have ha' : nw H (upd H3 t (.tup [V.str "wish", .int i, .ref a])) a = some (.tup (r.map oI)) := nw_tup (s4 _ _ ha)
    exact q _ _ (.wish (.int i) (.ref a) (some (r.map oI))) (ex1.trans (ex2.trans (ex3.trans (Ex.of s4)))) ((pen3.same s4).less (by omega)) ⟨t, rfl, nw_tup upd_same, any_G i0 (by omega), any_r ha' (by omega) hq, ⟨a, rfl, ha'⟩, oI_le hq⟩
  · refine itF (decide_eq_false c1) ⟨_, rfl, _, _, rfl, rfl, _, rfl, ?_⟩
    by_cases c2 : wy = 3
    · refine itT (decide_eq_true c2) ⟨_, rfl, _, rfl, _, _, rfl, p, l, n + 122, s.n, rfl, rfl, pen1, by omega, by omega, fun H2 i ex2 pen2 i0 i1 => ⟨by show 2 ≤ sizeLine; decide, fun t ht => ?_⟩⟩
      have s4 := Same.new (o := .tup [V.str "free", .int i]) ht
      exact q _ _ (.free (.int i)) (ex1.trans (ex2.trans (Ex.of s4))) ((pen2.same s4).less (by omega)) ⟨t, rfl, nw_tup upd_same, any_G i0 (by omega)⟩
    · refine itF (decide_eq_false c2) ⟨_, rfl, _, _, rfl, rfl, _, rfl, ?_⟩
      by_cases c3 : wy < 6
      · refine itT (decide_eq_true c3) ⟨_, rfl, _, rfl, _, _, rfl, p, l, n + 122, 5, rfl, rfl, pen1, by decide, by decide, fun H2 i ex2 pen2 i0 i1 => ⟨_, _, rfl, rfl, _, _, rfl, rfl, _, _, rfl, _, _, rfl, by show 2 ≤ sizeLine; decide, fun t ht => ?_⟩⟩
        have s4 := Same.new (o := .tup [V.str "length", .int (if (if s.n + i - 2 < 40 then s.n + i - 2 else 40) > 1 then (if s.n + i - 2 < 40 then s.n + i - 2 else 40) else 1)]) ht
        refine q _ _ (.len _) (ex1.trans (ex2.trans (Ex.of s4))) ((pen2.same s4).less (by omega)) ⟨t, rfl, nw_tup upd_same, any_G ?_ ?_⟩ <;> (repeat' split) <;> omega
      · refine itF (decide_eq_false c3) ⟨_, rfl, _, _, rfl, rfl, _, rfl, ?_⟩
        by_cases c4 : wy = 6
        · refine itT (decide_eq_true c4) ⟨_, rfl, by decide, fun e he => ?_⟩
          have s2 := Same.new (o := .tup []) he
          have ex2 := ex1.trans (Ex.of s2)
          have pen2 := pen1.same s2
          have hb2 := ex2 _ _ hsb (pen_ne hp hsb (fun _ z => by cases z))
          have hxl : xs.length = s.es.length := Paired.length hse
          have hl2 := ok.l2
          refine ⟨sb, e, _, rfl, rfl, .inr ⟨SqT.of hb2, SqT.of upd_same⟩, _, rfl, ?_⟩
          by_cases c5 : xs = []
          · exact itF (by rw [decide_eq_true c5]; rfl) (hqt _ _ _ ex2 pen2)
          · have hx1 : 1 ≤ xs.length := by
              cases xs with
              | nil => exact absurd rfl c5
              | cons _ _ => exact Nat.succ_le_succ (Nat.zero_le _)
            refine itT (by rw [decide_eq_false c5]; rfl) ⟨_, rfl, _, rfl, _, xs.length, rfl, .inr ⟨_, SqT.of hb2, rfl⟩, _, _, rfl, p, l, n + 122, xs.length, rfl, rfl, pen2, by omega, by omega, fun H2 i ex3 pen3 i0 i1 => ⟨by show 2 ≤ sizeLine; decide, fun t ht => ?_⟩⟩
            have s4 := Same.new (o := .tup [V.str "drop", .int i]) ht
            exact q _ _ (.drop (.int i)) (ex2.trans (ex3.trans (Ex.of s4))) ((pen3.same s4).less (by omega)) ⟨t, rfl, nw_tup upd_same, any_G i0 (by omega)⟩
        · exact itF (decide_eq_false c4) (iteF (hqt _ _ _ ex1 pen1))
end
end Ef

set_option Elab.async false
set_option linter.all false
set_option maxRecDepth 100000
set_option maxHeartbeats 4000000
namespace Ef
open PySem PySem.Spec PyProof.Rows L2 He
section
variable {prog : Program} {w : World} {A : Around} {E : Value → Shared → Prop} {s : Shared}
theorem hash_true {Q : Int → Shared → Prop} (h : Q (hashInt 1) { s with toks := s.toks + 1 }) : wpAny (model prog w) A (pyHash (.bool true)) Q E s := by
  have hr := rawHash_range 1
  have hT : s.TypeIs (.bool true) "bool" := rfl
  unfold pyHash
  have hv : [Value.bool true].any Value.onHeap = false := rfl
  refine wpAny_bind ?_
  rw [cRoomFor, if_neg (by rw [hv]; exact Bool.false_ne_true)]; refine wpAny_pure ?_
  refine wpAny_bind (wpAny_specialOf hT PySem.F.slot_bool_hash.lookup ?_)
  show wpAny _ _ (if (some (Value.builtin "int.__hash__") == some Value.none) = true then _ else _) Q E s
  rw [if_neg (by rw [beq_builtin_none]; exact Bool.false_ne_true)]
  refine wpAny_bind (wpAny_specialOf hT PySem.F.slot_bool_hash.lookup ?_)
  show wpAny _ _ (callSpecialIfBoundUnlessNone? (.bool true) "__hash__" _ >>= _) Q E s
  refine wpAny_bind (wpAny_callSpecialIfBoundUnlessNone?_slot hT PySem.F.slot_bool_hash
    (wpAny_call_entry PySem.F.slot_bool_hash hT PySem.F.entry_int_hash
      (show wpAny _ _ (do ret (← mkInt (rawHash 1))) _ _ s from wpAny_ret_mkInt ?_) (PySem.F.args_int_hash_1 _)))
  show wpAny _ _ (if (decide (-(2 : Int) ^ 63 ≤ rawHash 1) && decide (rawHash 1 < 2 ^ 63)) = true then _ else _) Q E _
  rw [if_pos (by rw [decide_eq_true hr.1, decide_eq_true hr.2]; rfl)]
  exact wpAny_pure h
theorem eq_true_true {b : Bool} {Q : Bool → Shared → Prop} (h : Q true s) : wpAny (model prog w) A (eqBool (.bool b) (.bool b)) Q E s := by
  unfold eqBool
  show wpAny _ _ (if (Value.bool b == Value.bool b) = true then _ else _) Q E s
  rw [if_pos (by simp)]
  exact wpAny_bind (wpAny_rule (wpAny_pure h))
end
def isTrueV : Value → Bool
  | .bool true => true
  | _ => false
theorem isTrueV_eq {v : Value} (h : isTrueV v = true) : v = .bool true := by
  cases v with
  | bool b => cases b <;> first | rfl | cases h
  | _ => cases h
def oneKind (prog : Program) (w : World) : KeyKind prog w Unit where
  is := fun _ v => isTrueV v
  hash := fun _ => hashInt 1
  inj := fun _ _ _ _ _ => rfl
  byValue := fun k v h => by rw [isTrueV_eq h]; rfl
  pyHash := fun hv h => by rw [isTrueV_eq hv]; exact hash_true h
  eqBool := fun hu hv h => by
    rw [isTrueV_eq hu, isTrueV_eq hv]
    exact eq_true_true h
  «strs» := fun k x t v h => by cases h
/-- {True: 0} -/
def tOdd : TE := fun _ H Q => ∀ a, H a = none → Q (.ref a) (upd H a (oddD a))
section
variable {X : Cx} {pos : Pos}
/-- a new list, not at the modules' place -/
def tLstB (t : TA) : TE := fun σ H Q => t σ H fun xs H1 => xs.length ≤ sizeLine ∧ ∀ a, H1 a = none → a ≠ sysModules → Q (.ref a) (upd H1 a (.lst xs))
theorem pe_lstB {es : List Expr} {t : TA} (h : PA X es t) : PE X (.List es pos) (tLstB t) := by
  refine ⟨fun pins s σ H Q I hq => ?_⟩
  refine wpAny_List_spliced (thn (h.run pos pins s σ H _ I hq) fun us s1 ⟨xs, H1, I1, r, z, q⟩ => ⟨by rw [← r.length]; exact z, ?_⟩)
  have hf : H1 s1.heap.objs.size = none := I1.hok.fresh (Nat.le_refl _)
  refine ⟨.ref s1.heap.objs.size, upd H1 s1.heap.objs.size (.lst xs), I1.laid (t' := s1.toks) (fun b u e => Heap.get?_push_of_some _ e) (Nat.le_refl _) ?_, rfl, q _ hf (Nat.ne_of_gt I1.big)⟩
  exact ⟨z, us, 0, r, Heap.get?_push_size _ rfl⟩
theorem pe_odd {ke ve : Expr} (hk : PE X ke (tC (.bl true))) (hv : PE X ve (tC (.int 0))) : PE X (.Dict [some ke] [ve] pos) tOdd := by
  refine ⟨fun pins s σ H Q I q => ?_⟩
  have hn := I.hok.fresh (Nat.le_refl s.heap.objs.size)
  have I1 := I.laid (a := s.heap.objs.size) (o := .dK []) (h' := s.heap.push { cls := .type "dict", data := .dict #[] }) (t' := s.toks) (fun _ _ q => Heap.get?_push_of_some _ q) (Nat.le_refl _) (dk_empty s.heap I.big)
  refine wpAny_Dict_walk (knd := oneKind X.prog X.w) rfl rfl (by simp) (by show 1 ≤ 15; decide) ?_
  refine pairTrees_cons_walk (thn (hk.run pins _ σ _ (fun v H1 => v = .bl true ∧ H1 = upd H s.heap.objs.size (.dK [])) I1 ⟨rfl, rfl⟩) fun u s1 ⟨x, H1, I1, rx, ex, eH⟩ => ?_)
  subst ex eH
  refine thn (hv.run pins _ σ _ (fun v H1 => v = .int 0 ∧ H1 = upd H s.heap.objs.size (.dK [])) I1 ⟨rfl, rfl⟩) fun u2 s2 ⟨x2, H2, I2, rx2, ex2, eH2⟩ => ?_
  subst ex2 eH2
  refine pairTrees_nil_walk ?_
  obtain rfl : u = Value.bool true := rx
  obtain ⟨z, hd, vs0, r0, dd⟩ := dk_of I2.hok (upd_same (H := H) (a := s.heap.objs.size) (o := .dK []))
  cases r0
  obtain ⟨o, es, ep, ho, hc, hdt, hky, hpr, hnd⟩ := dd
  have hes : es.toList = [] := by
    cases hh : es.toList with
    | nil => rfl
    | cons e r =>
      rw [hh] at hpr
      cases hpr
  refine ⟨[((), u2)], ⟨rfl, rfl, True.intro⟩, ⟨o, es, ep, ho, hc, hdt, fun e he => ?_, by rw [hes]; exact .nil, List.nodup_nil⟩, fun h' dd' hs => ?_⟩
  · have := Array.mem_toList_iff.mpr he
    rw [hes] at this
    cases this
  · obtain ⟨o', es', ep', ho', ⟨c1, c2, c3⟩, hdt', _, hpr', _⟩ := dd'
    have he : ∃ q, h'.get? s.heap.objs.size = some q := ⟨_, ho'⟩
    have eo : o' = ({ cls := .type "dict", data := .dict es' ep' } : Obj) := by
      cases o'
      simp only at c1 c2 c3 hdt'
      subst c1 c2 c3 hdt'
      rfl
    subst eo
    obtain ⟨e, hel, hk1, hk2⟩ : ∃ e : DictEntry, es'.toList = [e] ∧ isTrueV e.key = true ∧ e.val = u2 := by
      have hpr' : Pairs (oneKind X.prog X.w) es'.toList [((), u2)] := hpr'
      cases hh : es'.toList with
      | nil =>
        rw [hh] at hpr'
        cases hpr'
      | cons e r =>
        rw [hh] at hpr'
        cases hpr' with
        | cons a b c =>
          cases c
          exact ⟨e, rfl, a, b⟩
    have hu : ∃ t, u2 = .int 0 t := rx2
    obtain ⟨t, rfl⟩ := hu
    have ok : ObjOk X.prog X.w (upd (upd H s.heap.objs.size (.dK [])) s.heap.objs.size (oddD s.heap.objs.size)) h' s.heap.objs.size (oddD s.heap.objs.size) :=
      ⟨⟨hd, es', ep', ho', e, hel, isTrueV_eq hk1, t, hk2⟩, ⟨_, ho'⟩, fun h1 h2 ⟨q1, es1, n1, q2, q3⟩ k => ⟨q1, es1, n1, k _ q2, q3⟩⟩
    have I3 := d_write (t' := s2.toks + 1) I2 (by rw [upd_same]; exact True.intro) hs he ok
    rw [upd_upd] at I3
    exact ⟨.ref s.heap.objs.size, _, I3, rfl, q _ hn⟩
end
end Ef

set_option Elab.async false
set_option linter.all false
set_option maxRecDepth 100000
set_option maxHeartbeats 4000000
namespace Ef
open PySem PySem.Spec PyProof.Rows L2 He
section
variable {X : Cx} {pins : List (Addr × Obj)} {σ : L2.St} {H : Hp} {s : Shared} {a b : Addr} {kvs : List (List Key × V)} {k : List Key} {v : V} {r : Value} {A : Around} {E : Value → Shared → Prop}
theorem d_dictSetT {Q : Unit → Shared → Prop} (hu : A.units < cLine) (I : L2.Inv X pins σ H s) (e : H a = some (.dT kvs)) (eb : H b = some (.tup (k.map kV))) (l : kvs.length < sizeLine) (rv : RelV v r) (h : ∀ s', L2.Inv X pins σ (upd H a (.dT (putK kvs k v))) s' → Q () s') :
    wpAny (model X.prog X.w) A (dictSet a (.ref b) r) Q E s := by
  obtain ⟨z, hd, xs, rel, dd⟩ := dt_of I.hok e
  have hz : xs.length ≤ sizeLine := by rw [← Paired.length rel]; exact z
  have hl : (putK kvs k v).length ≤ sizeLine := by have := length_putK kvs k v; omega
  refine wpAny_dictSet_heap (hsz := hz) (show (tupleKind (mixKind X.prog X.w)).room A from hu) (key_of I.hok eb) dd fun h' dd' hs => h _ ?_
  obtain ⟨q, es, ep, hq, h2, h3, h4, _, h5⟩ := dd'
  refine d_write I (by rw [e]; exact True.intro) hs ⟨q, hq⟩ ⟨hl, hd, _, (rel.put k eb rv).keeps fun c ys ec => ?_, q, es, ep, hq, h2, h3, h4, h5⟩
  rw [upd_ne (ne_of ec e (fun z => nomatch z))]
  exact ec
end
/-- {(k1, ..): v} -/
def tDisT (tk tv : TE) : TE := fun σ H Q => ∀ a, H a = none → tk σ (upd H a (.dT [])) fun x H1 => tv σ H1 fun y H2 => ∃ b k, x = .ref b ∧ H2 b = some (.tup (k.map kV)) ∧ H2 a = some (.dT []) ∧ Q (.ref a) (upd H2 a (.dT [(k, y)]))
section
variable {X : Cx} {pos : Pos}
theorem pe_disT {ke ve : Expr} {tk tv : TE} (hu : X.A.units < cLine) (hk : PE X ke tk) (hv : PE X ve tv) : PE X (.Dict [some ke] [ve] pos) (tDisT tk tv) := by
  refine ⟨fun pins s σ H Q I q => ?_⟩
  have hn := I.hok.fresh (Nat.le_refl s.heap.objs.size)
  have I1 := I.laid (a := s.heap.objs.size) (o := .dT []) (h' := s.heap.push { cls := .type "dict", data := .dict #[] }) (t' := s.toks) (fun _ _ q => Heap.get?_push_of_some _ q) (Nat.le_refl _) (dt_empty s.heap I.big)
  refine wpAny_Dict_any rfl rfl (by simp) (by show 1 ≤ 15; decide) ?_
  refine pairTrees_cons_walk (thn (hk.run pins _ σ _ _ I1 (q _ hn)) fun u s1 ⟨x, H1, I1, rx, q1⟩ => ?_)
  refine thn (hv.run pins _ σ _ _ I1 q1) fun u2 s2 ⟨y, H2, I2, ry, b, k, ex, hb, ha, q2⟩ => ?_
  subst ex
  refine pairTrees_nil_walk ?_
  cases (show u = Value.ref b from rx)
  unfold storeAll
  rw [List.forIn_cons]
  refine wpAny_bind (wpAny_bind (d_dictSetT hu I2 ha hb (by rw [sizeLine_eq]; show 0 < _; decide) ry fun s3 I3 => wpAny_pure ?_))
  show wpAny _ _ (forIn ([] : List (Value × Value)) _ _) _ _ _
  rw [List.forIn_nil]
  exact wpAny_pure ⟨.ref s.heap.objs.size, _, I3, rfl, q2⟩
end
end Ef

set_option Elab.async false
set_option linter.all false
set_option maxRecDepth 100000
set_option maxHeartbeats 4000000
namespace Ef
open PySem PySem.Spec PyProof.Rows L2 He
def smallB (d : PyData) : Bool := d.leavesShort 101 && d.showable && decide (d.weight ≤ 9000) && decide (d.depth ≤ 20)
theorem small_dec {d : PyData} (h : smallB d = true) : SmallD d := by
  simp only [smallB, Bool.and_eq_true, decide_eq_true_eq] at h
  exact Fit.small ⟨h.1.1.1, h.1.1.2, h.1.2, h.2⟩ (Nat.le_refl _) (Nat.le_refl _)
/-- H came behind H0 -/
def Anc (H0 H : Hp) : Prop := ∀ c, H c = none → H0 c = none
theorem Anc.same {H0 H H1 : Hp} (h : Anc H0 H) (k : Same H H1) : Anc H0 H1 := fun c e => h c (by
  cases z : H c with
  | none => rfl
  | some o =>
    rw [k _ _ z] at e
    cases e)
theorem nw_mono {H0 H H1 : Hp} (k : Same H H1) : Same (nw H0 H) (nw H0 H1) := fun c o h => by
  obtain ⟨h1, h2⟩ := nw_at h
  rcases h2 with h2 | ⟨xs, rfl⟩
  · exact nw_new h2 (k _ _ h1)
  · exact nw_tup (k _ _ h1)
/-- a plain value whose ints, where it is a tuple, are small -/
def AnyQ (H : Hp) (v : V) : Prop := AnyD H v ∧ ∀ a, v = .ref a → ∃ o, H a = some o ∧ ∀ xs, o = .tup xs → ∀ i, V.int i ∈ xs → i ≤ BigI
theorem AnyQ.same {H H1 : Hp} {v : V} (k : Same H H1) (h : AnyQ H v) : AnyQ H1 v := ⟨h.1.same k, fun a e => by
  obtain ⟨o, h1, h2⟩ := h.2 a e
  exact ⟨o, k _ _ h1, h2⟩⟩
theorem AnyQ.tup {H : Hp} {v : V} {a : Addr} {xs : List V} (h : AnyQ H v) (e : v = .ref a) (ha : H a = some (.tup xs)) : ∀ i, V.int i ∈ xs → i ≤ BigI := by
  obtain ⟨o, h1, h2⟩ := h.2 a e
  rw [ha] at h1
  cases h1
  exact h2 xs rfl
theorem anyQ_int {H : Hp} {i : Int} (h : AnyD H (.int i)) : AnyQ H (.int i) := ⟨h, fun a e => by cases e⟩
def smallV (v : V) : Bool := match v with
  | .int i => decide (i ≤ BigI)
  | _ => true
def notRef (v : V) : Bool := match v with
  | .ref _ => false
  | _ => true
theorem anyQ_c {H : Hp} {v : V} (h : AnyD H v) (n : notRef v = true) : AnyQ H v := ⟨h, fun a e => by
  subst e
  cases n⟩
theorem anyQ_tup {H : Hp} {a : Addr} {xs : List V} (h : AnyD H (.ref a)) (ha : H a = some (.tup xs)) (b : xs.all smallV = true) : AnyQ H (.ref a) := ⟨h, fun c e => by
  cases e
  refine ⟨_, ha, fun ys ey i hi => ?_⟩
  cases ey
  have := List.all_eq_true.mp b _ hi
  exact of_decide_eq_true this⟩
theorem anyQ_o {H : Hp} {a : Addr} {o : HO} (h : AnyD H (.ref a)) (ha : H a = some o) (b : ∀ xs, o ≠ .tup xs) : AnyQ H (.ref a) := ⟨h, fun c e => by
  cases e
  exact ⟨_, ha, fun ys ey => absurd ey (b ys)⟩⟩
theorem any_mono {H0 H H1 : Hp} {v : V} (k : Same H H1) (h : AnyQ (nw H0 H) v) : AnyQ (nw H0 H1) v := h.same (nw_mono k)
def tAny (H0 : Hp) : TE := fun _ H Q => Anc H0 H ∧ ∀ v H', Same H H' → AnyQ (nw H0 H') v → Q v H'
def tAnyL (H0 : Hp) (n : Nat) : TA := fun _ H Q => Anc H0 H ∧ ∀ vs H', Same H H' → vs.length = n → (∀ v ∈ vs, AnyQ (nw H0 H') v) → Q vs H'
section
variable {X : Cx} {e : Expr} {es : List Expr} {t t' : TE} {H0 : Hp} {n : Nat}
theorem pe_weak (h : PE X e t) (k : ∀ σ H Q, t' σ H Q → t σ H Q) : PE X e t' := ⟨fun pins s σ H Q I q => h.run pins s σ H Q I (k σ H Q q)⟩
theorem pa_weak {u u' : TA} (h : PA X es u) (k : ∀ σ H Q, u' σ H Q → u σ H Q) : PA X es u' := ⟨fun pos pins s σ H Q I q => h.run pos pins s σ H Q I (k σ H Q q)⟩
theorem pn_nil : PA X [] (tAnyL H0 0) := pa_weak pa_nil fun σ H Q q => q.2 [] H (Same.refl H) rfl fun _ h => by cases h
theorem pn_cons (h : PE X e (tAny H0)) (r : PA X es (tAnyL H0 n)) (hs : starEach (e :: es) X.env = (false, eval e X.env) :: starEach es X.env := by rfl) : PA X (e :: es) (tAnyL H0 (n + 1)) :=
  pa_weak (pa_cons h r hs) fun σ H Q q => ⟨q.1, fun v H1 s1 a1 => ⟨q.1.same s1, fun vs H2 s2 hl hv => q.2 (v :: vs) H2 (Same.trans s1 s2) (by rw [List.length_cons, hl]) fun x hx => by
    rcases List.mem_cons.mp hx with rfl | hx
    · exact any_mono s2 a1
    · exact hv x hx⟩⟩
/-- an expression that is one value -/
theorem an_c {v : V} {d : PyData} (h : PE X e (tC v)) (s : ∀ H, Shw true H v d) (m : smallB d = true) (n : notRef v = true := by rfl) : PE X e (tAny H0) :=
  pe_weak h fun σ H Q q => q.2 v H (Same.refl H) (anyQ_c ⟨true, d, s _, small_dec m⟩ n)
theorem an_tup {es : List Expr} {pos : Pos} {u : TA} {vs : List V} {ds : List PyData} {k : Nat} (h : PA X es u) (hu : ∀ σ H Q, Q vs H → u σ H Q) (hl : vs.length ≤ sizeLine) (s : ∀ H, ShwL true H vs ds) (m : smallB (.tuple ds) = true) (b : vs.all smallV = true := by decide +kernel) : PE X (.Tuple es k pos) (tAny H0) :=
  pe_weak (pe_tup h) fun σ H Q q => hu _ _ _ ⟨hl, fun a ha => q.2 _ _ (Same.new ha) (anyQ_tup ⟨true, _, .tup (nw_tup upd_same) (s _), small_dec m⟩ (nw_tup upd_same) b)⟩
theorem an_lst {es : List Expr} {pos : Pos} {u : TA} {vs : List V} {ds : List PyData} (h : PA X es u) (hu : ∀ σ H Q, Q vs H → u σ H Q) (hl : vs.length ≤ sizeLine) (s : ∀ H, ShwL true H vs ds) (m : smallB (.list ds) = true) : PE X (.List es pos) (tAny H0) :=
  pe_weak (pe_lstB h) fun σ H Q q => hu _ _ _ ⟨hl, fun a ha hs => q.2 _ _ (Same.new ha) (anyQ_o ⟨true, _, .lst (nw_new (q.1 a ha) upd_same) (fun _ => hs) (s _), small_dec m⟩ (nw_new (q.1 a ha) upd_same) (fun _ z => by cases z))⟩
theorem an_dict0 {pos : Pos} : PE X (.Dict [] [] pos) (tAny H0) :=
  pe_weak pe_dnewK fun σ H Q q p hp => q.2 _ _ (Same.new hp) (anyQ_o ⟨true, .dict [], .dK (kvs := []) (ds := []) (nw_new (q.1 p hp) upd_same) .nil, small_dec rfl⟩ (nw_new (q.1 p hp) upd_same) (fun _ z => by cases z))
/-- {k: v} with v one value -/
theorem an_dict1 {ke ve : Expr} {pos : Pos} {key : Key} {v : V} {d : PyData} (hk : PE X ke (tC (kV key))) (hv : PE X ve (tC v)) (s : ∀ H, Shw true H v d) (m : smallB (.dict [(keyD key, d)]) = true) : PE X (.Dict [some ke] [ve] pos) (tAny H0) :=
  pe_weak (pe_disp (pps_cons hk hv pps_nil) rfl rfl (by simp) (by show 1 ≤ 15; decide)) fun σ H Q q p hp => ⟨upd_same, [(key, v)], rfl, by show 1 ≤ 15; decide, by
    rw [upd_upd]
    exact q.2 _ _ (Same.new hp) (anyQ_o ⟨true, _, .dK (kvs := [(key, v)]) (ds := [d]) (nw_new (q.1 p hp) upd_same) (.cons (s _) .nil), small_dec m⟩ (nw_new (q.1 p hp) upd_same) (fun _ z => by cases z))⟩
theorem nw_skip {H0 H1 H2 : Hp} {p : Addr} {o : HO} (an : Anc H0 H1) (h1 : H1 p = some (.dK [])) (k : Same H1 H2) : Same (nw H1 H2) (nw H0 (upd H2 p o)) := fun c u h => by
  obtain ⟨g1, g2⟩ := nw_at h
  have hc : c ≠ p := fun z => by
    subst z
    rcases g2 with g2 | ⟨xs, rfl⟩
    · rw [h1] at g2
      cases g2
    · rw [k _ _ h1] at g1
      cases g1
  rcases g2 with g2 | ⟨xs, rfl⟩
  · exact nw_new (an c g2) (by rw [upd_ne hc]; exact g1)
  · exact nw_tup (by rw [upd_ne hc]; exact g1)
/-- {k: v} with v a new value -/
theorem an_dict2 {ke ve : Expr} {pos : Pos} {key : Key} {t : TE} (hk : PE X ke (tC (kV key))) (hv : PE X ve t) (k : ∀ σ H Q, (∀ v d H', Same H H' → Shw true (nw H H') v d → smallB (.dict [(keyD key, d)]) = true → Q v H') → t σ H Q) : PE X (.Dict [some ke] [ve] pos) (tAny H0) :=
  pe_weak (pe_disp (pps_cons hk hv pps_nil) rfl rfl (by simp) (by show 1 ≤ 15; decide)) fun σ H Q q p hp => k _ _ _ fun v d H2 s2 hs m => ⟨s2 _ _ upd_same, [(key, v)], rfl, by show 1 ≤ 15; decide, by
    have s3 : Same H (upd H2 p (.dK (mergeK [] [(key, v)]))) := Same.mut (Same.trans (Same.new hp) s2) hp
    exact q.2 _ _ s3 (anyQ_o ⟨true, _, .dK (kvs := [(key, v)]) (ds := [d]) (nw_new (q.1 p hp) upd_same) (.cons (hs.same (nw_skip (q.1.same (Same.new hp)) upd_same s2)) .nil), small_dec m⟩ (nw_new (q.1 p hp) upd_same) (fun _ z => by cases z))⟩
theorem an_tupT {ve : Expr} {pos : Pos} {es : List Expr} {k : Nat} {p2 : Pos} {u : TA} (hu : X.A.units < cLine) (h : PA X es u) (hw : ∀ σ H Q, Q [V.int 0, V.int 0] H → u σ H Q) (hv : PE X ve (tC (.int 0))) : PE X (.Dict [some (.Tuple es k p2)] [ve] pos) (tAny H0) :=
  pe_weak (pe_disT hu (pe_tup h) hv) fun σ H Q q a ha => hw _ _ _ ⟨by show 2 ≤ sizeLine; decide, fun b hb => ⟨b, [.inl 0, .inl 0], rfl, upd_same, (Same.new hb) _ _ upd_same, by
    have s3 : Same H (upd (upd (upd H a (.dT [])) b (.tup [V.int 0, V.int 0])) a (.dT [([.inl 0, .inl 0], .int 0)])) := Same.mut (Same.trans (Same.new ha) (Same.new hb)) ha
    exact q.2 _ _ s3 (anyQ_o ⟨true, _, .dP (nw_new (q.1 a ha) upd_same), small_dec (by decide +kernel)⟩ (nw_new (q.1 a ha) upd_same) (fun _ z => by cases z))⟩⟩
theorem an_odd {ke ve : Expr} {pos : Pos} (hk : PE X ke (tC (.bl true))) (hv : PE X ve (tC (.int 0))) : PE X (.Dict [some ke] [ve] pos) (tAny H0) :=
  pe_weak (pe_odd hk hv) fun σ H Q q p hp => q.2 _ _ (Same.new hp) (anyQ_o ⟨true, _, .odd (nw_new (q.1 p hp) upd_same), small_dec (by decide +kernel)⟩ (nw_new (q.1 p hp) upd_same) (fun _ z => by cases z))
end
end Ef

set_option Elab.async false
set_option linter.all false
set_option maxRecDepth 100000
set_option maxHeartbeats 4000000
namespace Ef
open PySem PySem.Spec PyProof.Rows L2 He
theorem nw_ex {p l : Addr} {m k : Nat} {H0 H1 H2 : Hp} (h0 : Pen p l m H0) (h1 : Pen p l k H1) (e : Ex p H1 H2) : Same (nw H0 H1) (nw H0 H2) := fun c o h => by
  obtain ⟨g1, g2⟩ := nw_at h
  have hc : c ≠ p := fun z => by
    obtain ⟨_, _, _, a0, _⟩ := h0
    obtain ⟨_, _, _, a1, _⟩ := h1
    subst z
    rcases g2 with g2 | ⟨xs, rfl⟩
    · rw [a0] at g2
      cases g2
    · rw [a1] at g1
      cases g1
  rcases g2 with g2 | ⟨xs, rfl⟩
  · exact nw_new g2 (e _ _ g1 hc)
  · exact nw_tup (e _ _ g1 hc)
section
variable {X : Cx} {H0 : Hp} {pos p1 p2 p3 : Pos} {j j2 : Nat}
theorem pe_m1 : PE X (.UnaryOp .USub (.Constant (.int 1) j p1) pos) (tC (.int (-1))) := pe_weak (pe_un un_neg pe_int) fun σ H Q q => ⟨_, rfl, q⟩
theorem an_pow30 : PE X (.BinOp (.Constant (.int 10) j p1) .Pow (.Constant (.int 30) j2 p2) pos) (tAny H0) :=
  pe_weak (pe_op op_pow pe_int pe_int) fun σ H Q q => ⟨_, _, rfl, rfl, ⟨by decide, by decide, by decide⟩, q.2 _ _ (Same.refl H) (anyQ_int (any_int (by decide +kernel)))⟩
theorem an_pow59 : PE X (.BinOp (.Constant (.int 10) j p1) .Pow (.Constant (.int 59) j2 p2) pos) (tAny H0) :=
  pe_weak (pe_op op_pow pe_int pe_int) fun σ H Q q => ⟨_, _, rfl, rfl, ⟨by decide, by decide, by decide⟩, q.2 _ _ (Same.refl H) (anyQ_int (any_int (by decide +kernel)))⟩
theorem an_tt : PE X (.Tuple [.Tuple [.Constant (.int 0) j p1] j2 p2] j2 pos) (tAny H0) :=
  pe_weak (pe_tup (pa_cons (pe_tup (pa_cons pe_int pa_nil)) pa_nil)) fun σ H Q q => ⟨by show 1 ≤ sizeLine; decide, fun b hb => ⟨by show 1 ≤ sizeLine; decide, fun a ha => q.2 _ _ (Same.trans (Same.new hb) (Same.new ha)) (anyQ_tup ⟨true, _, .tup (nw_tup upd_same) (.cons (.tup (nw_tup ((Same.new ha) _ _ upd_same)) (.cons (.int 0) .nil)) .nil), small_dec (by decide +kernel)⟩ (nw_tup upd_same) rfl)⟩⟩
theorem in_tup {u : TA} {vs : List V} {ds : List PyData} {key : Key} (hu : ∀ σ H Q, Q vs H → u σ H Q) (hl : vs.length ≤ sizeLine) (s : ∀ H, ShwL true H vs ds) (m : smallB (.dict [(keyD key, .tuple ds)]) = true) :
    ∀ σ H Q, (∀ v d H', Same H H' → Shw true (nw H H') v d → smallB (.dict [(keyD key, d)]) = true → Q v H') → tTup u σ H Q :=
  fun σ H Q q => hu _ _ _ ⟨hl, fun a ha => q _ _ _ (Same.new ha) (.tup (nw_tup upd_same) (s _)) m⟩
theorem in_lst {u : TA} {vs : List V} {ds : List PyData} {key : Key} (hu : ∀ σ H Q, Q vs H → u σ H Q) (hl : vs.length ≤ sizeLine) (s : ∀ H, ShwL true H vs ds) (m : smallB (.dict [(keyD key, .list ds)]) = true) :
    ∀ σ H Q, (∀ v d H', Same H H' → Shw true (nw H H') v d → smallB (.dict [(keyD key, d)]) = true → Q v H') → tLstB u σ H Q :=
  fun σ H Q q => hu _ _ _ ⟨hl, fun a ha hs => q _ _ _ (Same.new ha) (.lst (nw_new ha upd_same) (fun _ => hs) (s _)) m⟩
end
section
variable {P : Program} {w : World} {K : PySem.W.Frag} {mg : Str → Option Value} {base : Heap}
theorem bnd_odd : BindN "_law_odd" "_law_odd" s_l_odd ["_law_pen_here", "_law_near"] := fun _ _ _ _ _ _ us hl => match us, hl with | [_, _], _ => rfl
theorem sc_odd : FnScope ["_law_pen_here", "_law_near", "_law_some"] ["_law_pen_here", "_law_near"] (defScope s_l_odd) := ⟨rfl, rfl, rfl, by decide +kernel, rfl, by decide +kernel, by decide +kernel⟩
def pOdd (pn near : V) (H : Hp) (Q : VK) (_ : XK) : Prop := ∃ (H0 : Hp) (p l : Addr) (m n : Nat), pn = .ref p ∧ Pen p l m H0 ∧ Anc H0 H ∧ Pen p l (n + 1) H ∧ AnyQ (nw H0 H) near ∧ ∀ (H' : Hp) (v : V), Ex p H H' → Pen p l n H' → AnyQ (nw H0 H') v → Q v H'
theorem law_odd (T : Top K mg) : Clb P w K mg base CX0 3 "_law_odd" (sp2 pOdd) := by
  obtain ⟨fd, F⟩ := T.d_l_odd
  refine Clb.of T.g_l_odd F (fnN2 F sc_odd bnd_odd fun cdv A outer s H pn near Q E hr h => ?_)
  obtain ⟨H0, p, l, m, n, rfl, hp0, an, hp, hnr, q⟩ := h
  have nd := sc_odd.nd
  have hu := hu_of hr
  have hu1 := Nat.lt_of_succ_lt hu
  have catL : ∀ {H1 H2 : Hp} {c : Addr} {xs ys : List V}, Same H1 H2 → (∀ v ∈ xs, AnyQ (nw H0 H1) v) → (∀ v ∈ ys, AnyQ (nw H0 H2) v) → ∀ v ∈ xs ++ ys, AnyQ (nw H0 H2) v := fun s hx hy v hv => by
    rcases List.mem_append.mp hv with h | h
    · exact any_mono s (hx v h)
    · exact hy v h
  refine ⟨_, pss_cons (ps_set (i := 2) nd rfl (.inl rfl) (pe_lst (pn_cons (an_c pe_non (fun _ => .non) (by decide +kernel)) (pn_cons (an_c pe_bl (fun _ => .bl _) (by decide +kernel)) (pn_cons (an_c pe_bl (fun _ => .bl _) (by decide +kernel)) (pn_cons (an_c pe_int (fun _ => .int _) (by decide +kernel)) (pn_cons (an_c pe_int (fun _ => .int _) (by decide +kernel)) (pn_cons (an_c pe_m1 (fun _ => .int _) (by decide +kernel)) (pn_cons (an_c pe_int (fun _ => .int _) (by decide +kernel)) (pn_cons (an_c pe_int (fun _ => .int _) (by decide +kernel)) (pn_cons (an_c pe_int (fun _ => .int _) (by decide +kernel)) (pn_cons (an_c pe_int (fun _ => .int _) (by decide +kernel)) (pn_cons (an_c pe_int (fun _ => .int _) (by decide +kernel)) (pn_cons an_pow30 (pn_cons an_pow59 (pn_cons (an_c pe_str (fun _ => .str _) (by decide +kernel)) (pn_cons (an_c pe_str (fun _ => .str _) (by decide +kernel)) (pn_cons (an_c pe_str (fun _ => .str _) (by decide +kernel)) (pn_cons (an_tup (vs := []) pa_nil (fun _ _ _ q => q) (by show 0 ≤ sizeLine; decide) (fun _ => .nil) (by decide +kernel)) (pn_cons (an_lst (vs := []) pa_nil (fun _ _ _ q => q) (by show 0 ≤ sizeLine; decide) (fun _ => .nil) (by decide +kernel)) (pn_cons an_dict0 (pn_cons (an_tup (vs := [.int (0)]) (pa_cons pe_int pa_nil) (fun _ _ _ q => q) (by show 1 ≤ sizeLine; decide) (fun _ => (.cons (.int _) .nil)) (by decide +kernel)) (pn_nil (H0 := H0))))))))))))))))))))))))
    (pss_cons (ps_set (i := 2) nd rfl (.inl rfl) (pe_op op_cat (pv 2) (pe_lst (pn_cons (an_lst (vs := [.int (0)]) (pa_cons pe_int pa_nil) (fun _ _ _ q => q) (by show 1 ≤ sizeLine; decide) (fun _ => (.cons (.int _) .nil)) (by decide +kernel)) (pn_cons (an_dict1 (key := .inl (0)) pe_int pe_int (fun _ => .int _) (by decide +kernel)) (pn_cons (an_odd pe_bl pe_int) (pn_cons (an_dict1 (key := .inl (0)) pe_int pe_bl (fun _ => .bl _) (by decide +kernel)) (pn_cons (an_dict1 (key := .inl (0)) pe_int pe_non (fun _ => .non) (by decide +kernel)) (pn_cons (an_dict2 (key := .inl (0)) pe_int (pe_tup (pa_cons pe_int pa_nil)) (in_tup (vs := [.int (0)]) (fun _ _ _ q => q) (by show 1 ≤ sizeLine; decide) (fun _ => (.cons (.int _) .nil)) (by decide +kernel))) (pn_cons (an_dict2 (key := .inl (0)) pe_int (pe_lstB (pa_cons pe_int (pa_cons pe_int pa_nil))) (in_lst (vs := [.int (0), .int (0)]) (fun _ _ _ q => q) (by show 2 ≤ sizeLine; decide) (fun _ => (.cons (.int _) (.cons (.int _) .nil))) (by decide +kernel))) (pn_cons (an_dict2 (key := .inl (0)) pe_int (pe_tup (pa_cons pe_int (pa_cons pe_int pa_nil))) (in_tup (vs := [.int (0), .int (0)]) (fun _ _ _ q => q) (by show 2 ≤ sizeLine; decide) (fun _ => (.cons (.int _) (.cons (.int _) .nil))) (by decide +kernel))) (pn_cons (an_dict1 (key := .inl (-1)) pe_m1 pe_int (fun _ => .int _) (by decide +kernel)) (pn_nil (H0 := H0))))))))))))))
    (pss_cons (ps_set (i := 2) nd rfl (.inl rfl) (pe_op op_cat (pv 2) (pe_lst (pn_cons (an_dict1 (key := .inr "0") pe_str pe_int (fun _ => .int _) (by decide +kernel)) (pn_cons (an_dict1 (key := .inl (40)) pe_int pe_int (fun _ => .int _) (by decide +kernel)) (pn_cons (an_tup (vs := [.int (0), .int (0)]) (pa_cons pe_int (pa_cons pe_int pa_nil)) (fun _ _ _ q => q) (by show 2 ≤ sizeLine; decide) (fun _ => (.cons (.int _) (.cons (.int _) .nil))) (by decide +kernel)) (pn_cons (an_tup (vs := [.bl true, .int (0)]) (pa_cons pe_bl (pa_cons pe_int pa_nil)) (fun _ _ _ q => q) (by show 2 ≤ sizeLine; decide) (fun _ => (.cons (.bl _) (.cons (.int _) .nil))) (by decide +kernel)) (pn_cons (an_tup (vs := [.int (0), .non]) (pa_cons pe_int (pa_cons pe_non pa_nil)) (fun _ _ _ q => q) (by show 2 ≤ sizeLine; decide) (fun _ => (.cons (.int _) (.cons (.non) .nil))) (by decide +kernel)) (pn_cons (an_lst (vs := [.int (0), .int (1)]) (pa_cons pe_int (pa_cons pe_int pa_nil)) (fun _ _ _ q => q) (by show 2 ≤ sizeLine; decide) (fun _ => (.cons (.int _) (.cons (.int _) .nil))) (by decide +kernel)) (pn_cons an_tt (pn_cons (an_tupT hu1 (pa_cons pe_int (pa_cons pe_int pa_nil)) (fun _ _ _ q => q) pe_int) (pn_nil (H0 := H0)))))))))))))
    (pss_one (ps_ret (pe_f (law_pick T) hr pass0 (pa_cons (pv 0) (pa_cons (pe_op op_cat (pv 2) (pe_lst (pa_cons (an_dict2 (H0 := H0) (key := .inl (0)) pe_int (pe_tup (pa_cons pe_bl (pa_cons pe_int pa_nil))) (in_tup (vs := [.bl true, .int (1)]) (fun _ _ _ q => q) (by show 2 ≤ sizeLine; decide) (fun _ => (.cons (.bl _) (.cons (.int _) .nil))) (by decide +kernel))) (pa_cons (an_dict2 (H0 := H0) (key := .inl (0)) pe_int (pe_tup (pa_cons pe_m1 (pa_cons pe_int pa_nil))) (in_tup (vs := [.int (-1), .int (0)]) (fun _ _ _ q => q) (by show 2 ≤ sizeLine; decide) (fun _ => (.cons (.int _) (.cons (.int _) .nil))) (by decide +kernel))) (pa_cons (pv 1) (pa_cons (pv 1) (pa_cons (pv 1) pa_nil))))))) pa_nil))))))), ?_⟩
  refine ⟨an, fun vs1 H1 s1 hl1 hv1 => ⟨by rw [hl1, sizeLine_eq]; decide, fun a1 ha1 => ?_⟩⟩
  have sa1 := Same.new (o := .lst vs1) ha1
  refine ⟨_, rfl, (an.same s1).same sa1, fun vs2 H2 s2 hl2 hv2 => ⟨by rw [hl2, sizeLine_eq]; decide, fun a2 ha2 => ?_⟩⟩
  have sa2 := Same.new (o := .lst vs2) ha2
  have an2 := ((an.same s1).same sa1).same (Same.trans s2 sa2)
  refine ⟨a1, a2, vs1, vs2, rfl, rfl, (Same.trans s2 sa2) _ _ upd_same, upd_same, by rw [hl1, hl2, sizeLine_eq]; decide, fun a3 ha3 => ?_⟩
  have sa3 := Same.new (o := .lst (vs1 ++ vs2)) ha3
  have hv3 := catL (c := a1) (Same.trans sa1 (Same.trans s2 (Same.trans sa2 sa3))) hv1 (fun v h => any_mono (Same.trans sa2 sa3) (hv2 v h))
  refine ⟨_, rfl, an2.same sa3, fun vs4 H4 s4 hl4 hv4 => ⟨by rw [hl4, sizeLine_eq]; decide, fun a4 ha4 => ?_⟩⟩
  have sa4 := Same.new (o := .lst vs4) ha4
  have an4 := (an2.same sa3).same (Same.trans s4 sa4)
  refine ⟨a3, a4, vs1 ++ vs2, vs4, rfl, rfl, (Same.trans s4 sa4) _ _ upd_same, upd_same, by rw [List.length_append, hl1, hl2, hl4, sizeLine_eq]; decide, fun a5 ha5 => ?_⟩
  have sa5 := Same.new (o := .lst ((vs1 ++ vs2) ++ vs4)) ha5
  have hv5 := catL (c := a1) (Same.trans s4 (Same.trans sa4 sa5)) hv3 (fun v h => any_mono (Same.trans sa4 sa5) (hv4 v h))
  have s5 := Same.trans (Same.trans (Same.trans (Same.trans (Same.trans (Same.trans s1 sa1) s2) sa2) sa3) s4) (Same.trans sa4 sa5)
  refine ⟨_, rfl, _, rfl, an4.same sa5, fun x H6 s6 hx => ⟨(an4.same sa5).same s6, fun y H7 s7 hy => ⟨_, rfl, _, rfl, _, rfl, by show 5 ≤ sizeLine; decide, fun a8 ha8 => ?_⟩⟩⟩
  have sa8 := Same.new (o := .lst [x, y, near, near, near]) ha8
  refine ⟨a5, a8, _, _, rfl, rfl, (Same.trans s6 (Same.trans s7 sa8)) _ _ upd_same, upd_same, by simp only [List.length_append, List.length_cons, List.length_nil, hl1, hl2, hl4, sizeLine_eq]; decide, fun a9 ha9 => ?_⟩
  have sa9 := Same.new (o := .lst (((vs1 ++ vs2) ++ vs4) ++ [x, y, near, near, near])) ha9
  have s9 := Same.trans s5 (Same.trans s6 (Same.trans s7 (Same.trans sa8 sa9)))
  refine ⟨_, _, rfl, p, l, a9, n, _, rfl, rfl, upd_same, hp.same s9, by simp only [List.length_append, List.length_cons, List.length_nil, hl1, hl2, hl4]; decide, by simp only [List.length_append, List.length_cons, List.length_nil, hl1, hl2, hl4]; decide, fun H' v ex pen hv => ?_⟩
  refine q H' v ((Ex.of s9).trans ex) pen (AnyQ.same (nw_ex hp0 (hp.same s9) ex) ?_)
  rcases List.mem_append.mp hv with h | h
  · exact any_mono (Same.trans s6 (Same.trans s7 (Same.trans sa8 sa9))) (hv5 v h)
  · simp only [List.mem_cons, List.not_mem_nil, or_false] at h
    rcases h with rfl | rfl | rfl | rfl | rfl
    · exact any_mono (Same.trans s7 (Same.trans sa8 sa9)) hx
    · exact any_mono (Same.trans sa8 sa9) hy
    · exact any_mono s9 hnr
    · exact any_mono s9 hnr
    · exact any_mono s9 hnr
end
end Ef

set_option Elab.async false
set_option linter.all false
set_option maxRecDepth 100000
set_option maxHeartbeats 4000000
namespace Ef
open PySem PySem.Spec PyProof.Rows L2 He
theorem tuple_mul1 (l : Addr) (items : Array Value) (n : Nat) (dd : Option Addr) (sl : Array (Option Value)) (u : Tok) (c1 : (items.isEmpty || (1 : Int) == 1) = true) :
    Meets (Builtin.«tuple.__mul__» ⟨[.ref l, .int 1 u], []⟩) (fun _ R s => s.heap.get? l = some { cls := .type "tuple", dict := dd, data := .seq items n, slots := sl } ∧ R (.ok (.ret (Value.ref l))) s) :=
  .of_wp fun prog w A R s h => by
    obtain ⟨hp, g, d, tk, os⟩ := s
    obtain ⟨hl, h⟩ := h
    have f1 := AutoSeq1.idx_int
    have c0 : (decide ((1 : Int) < -(2 ^ 63)) || decide ((1 : Int) ≥ 2 ^ 63)) = false := by decide
    wp_walk using wpAny_loadPart' hl
    repeat (first
      | (refine wpAny_ite_false (decide_eq_false (by rw [c0]; exact Bool.false_ne_true)) ?_; wp_walk using wpAny_loadPart' hl)
      | (refine wpAny_ite_true (decide_eq_true c1) ?_; wp_walk using wpAny_loadPart' hl))
    all_goals first | exact ⟨_, rfl, h⟩ | exact h
/-- a tuple times 1: itself -/
def rRep1 (K : PySem.W.Frag) : R2 := fun x y H Q => ∃ l xs, x = .ref l ∧ y = .int 1 ∧ SqT K H l xs ∧ xs ≠ [] ∧ Q (.ref l) H
section
variable {X : Cx}
theorem op_rep1 : OpR X (binaryOp .Mult) (rRep1 X.K) := by
  intro pins s σ H x y v u Q I rx ry h
  obtain ⟨l, xs, rfl, rfl, hT, hne, q⟩ := h
  cases rx
  obtain ⟨t, rfl⟩ := ry
  obtain ⟨its, r, ⟨⟨cls, dd, data, sl⟩, ho, hc, n, hd⟩, hs⟩ := I.tuple hT
  simp only at hc hd
  subst hc hd
  refine wpAny_binaryOp_repeat_ref (T := "tuple") (U := "int") (by decide) ⟨_, ho, rfl⟩ (fun s' => typeIs_int s' 1 t) noFill_tuple_mul PySem.F.fills_int_mul PySem.F.slot_int_rmul repeat_tuple PySem.F.slot_int_index.lookup
    (call_meets PySem.F.slot_int_rmul (typeIs_int s 1 t) PySem.F.entry_int_rmul (PySem.F.args_int_rmul_2 _ _) (int_rmul_tuple 1 t l its.toArray n dd sl)
      ⟨ho, rfl, ⟨_, ho, rfl⟩, call_meets PySem.F.slot_tuple_mul ⟨_, ho, rfl⟩ PySem.F.entry_tuple_mul (PySem.F.args_tuple_mul_2 _ _) (tuple_mul1 l its.toArray n dd sl t (by rw [show ((1 : Int) == 1) = true from rfl, Bool.or_true])) ⟨ho, ?_⟩⟩)
  exact ⟨.ref l, H, I, rfl, q⟩
/-- a tuple times 1 .. 1000 -/
def rRepB (K : PySem.W.Frag) : R2 := fun x y H Q => ∃ l k xs, x = .ref l ∧ y = .int k ∧ SqT K H l xs ∧ xs ≠ [] ∧ 1 ≤ k ∧ k ≤ 1000 ∧ xs.length ≤ 1000 ∧ (k = 1 → Q (.ref l) H) ∧ (2 ≤ k → ∀ p, H p = none → Q (.ref p) (upd H p (.tup (List.replicate k.toNat xs).flatten)))
theorem op_repB : OpR X (binaryOp .Mult) (rRepB X.K) := by
  intro pins s σ H x y v u Q I rx ry h
  obtain ⟨l, k, xs, rfl, rfl, hT, hne, k1, k2, hz, q1, q2⟩ := h
  by_cases e : k = 1
  · subst e
    exact op_rep1 pins s σ H _ _ v u Q I rx ry ⟨l, xs, rfl, rfl, hT, hne, q1 rfl⟩
  · exact op_repT pins s σ H _ _ v u Q I rx ry ⟨l, k, xs, rfl, rfl, hT, hne, by omega, k2, hz, q2 (by omega)⟩
end
end Ef

set_option Elab.async false
set_option linter.all false
set_option maxRecDepth 100000
set_option maxHeartbeats 4000000
namespace Ef
open PySem PySem.Spec PyProof.Rows L2 He
theorem flat1 {α : Type} (x : α) : ∀ n : Nat, (List.replicate n [x]).flatten = List.replicate n x
  | 0 => rfl
  | n + 1 => by
    rw [List.replicate_succ, List.flatten_cons, flat1 x n, List.replicate_succ]
    rfl
theorem zeros (k : Nat) : (List.replicate k [V.int 0]).flatten = (List.replicate k (some (0 : Int))).map oI := by
  rw [flat1, List.map_replicate]
  rfl
theorem okQ_zeros {k : Nat} : ∀ p ∈ List.replicate k (some (0 : Int)), OkQ p := fun p hp => by
  rw [List.eq_of_mem_replicate hp]
  intro i e
  cases e
  exact ⟨by decide, by decide +kernel⟩
def zeroR (k : Nat) : Rw := List.replicate k (List.replicate k (some 0))
theorem okR_zero {k : Nat} (h1 : 1 ≤ k) (h5 : k ≤ 5) : OkR k (zeroR k) := by
  refine ⟨List.length_replicate, h1, h5, fun r hr => ?_⟩
  rw [List.eq_of_mem_replicate hr]
  refine ⟨List.length_replicate, fun p hp => ?_⟩
  rw [List.eq_of_mem_replicate hp]
  intro i e
  cases e
  exact ⟨by decide, by decide⟩
theorem rowsL_zero {H : Hp} {a b : Addr} {k : Nat} (ha : H a = some (.lst (List.replicate k [V.ref b]).flatten)) (hb : H b = some (.lst (List.replicate k [V.int 0]).flatten)) : RowsL H (.ref a) (zeroR k) := by
  rw [flat1] at ha
  rw [zeros] at hb
  refine ⟨a, _, rfl, ha, ?_⟩
  have z : ∀ n : Nat, Paired (fun x (r : List (Option Int)) => ∃ b, x = V.ref b ∧ H b = some (.lst (r.map oI))) (List.replicate n (V.ref b)) (List.replicate n (List.replicate k (some (0 : Int)))) := by
    intro n
    induction n with
    | zero => exact .nil
    | succ n ih =>
      rw [List.replicate_succ, List.replicate_succ]
      exact .cons ⟨b, rfl, hb⟩ ih
  exact z k
/-- TupV of a plain value -/
theorem tupV_of {H : Hp} {v : V} (h : AnyQ H v) : ∃ o, TupV H v o ∧ ∀ xs, o = some xs → ∀ i, V.int i ∈ xs → i ≤ BigI := by
  by_cases e : ∃ a xs, v = .ref a ∧ H a = some (.tup xs)
  · obtain ⟨a, xs, e, ha⟩ := e
    exact ⟨some xs, ⟨a, e, ha⟩, fun ys ey => by
      cases ey
      exact h.tup e ha⟩
  · exact ⟨none, fun a xs ev ha => e ⟨a, xs, ev, ha⟩, fun xs z => by cases z⟩
theorem wish_of {K : PySem.W.Frag} {H : Hp} {t : Addr} {pl pr : V} (ht : H t = some (.tup [.str "wish", pl, pr])) (h1 : AnyQ H pl) (h2 : AnyQ H pr) : ∃ d, DeedAt K H (.ref t) d := by
  obtain ⟨o, ho, hb⟩ := tupV_of h2
  exact ⟨.wish pl pr o, t, rfl, ht, h1.1, h2.1, ho, hb⟩
end Ef

set_option Elab.async false
set_option linter.all false
set_option maxRecDepth 100000
set_option maxHeartbeats 4000000
namespace Ef
open PySem PySem.Spec PyProof.Rows L2 He
theorem anyQ_r {H : Hp} {a : Addr} {r : List (Option Int)} (ha : H a = some (.tup (r.map oI))) (hl : r.length ≤ 20) (h : ∀ p ∈ r, OkQ p) : AnyQ H (.ref a) := ⟨any_r ha hl h, fun c e => by
  cases e
  exact ⟨_, ha, fun xs ex => by cases ex; exact oI_le h _ rfl⟩⟩
/-- a tuple times 1 .. 1000, the road not told -/
def rRepC (K : PySem.W.Frag) : R2 := fun x y H Q => ∃ l k xs, x = .ref l ∧ y = .int k ∧ H l = some (.tup xs) ∧ xs ≠ [] ∧ 1 ≤ k ∧ k ≤ 1000 ∧ xs.length ≤ 1000 ∧ ∀ z H', Same H H' → H' z = some (.tup (List.replicate k.toNat xs).flatten) → Q (.ref z) H'
theorem op_repC {X : Cx} : OpR X (binaryOp .Mult) (rRepC X.K) := by
  intro pins s σ H x y v u Q I rx ry h
  obtain ⟨l, k, xs, rfl, rfl, hT, hne, k1, k2, hz, q⟩ := h
  refine op_repB pins s σ H _ _ v u Q I rx ry ⟨l, k, xs, rfl, rfl, SqT.of hT, hne, k1, k2, hz, fun e => ?_, fun _ p hp => q _ _ (Same.new hp) upd_same⟩
  subst e
  refine q l H (Same.refl H) ?_
  rw [hT]
  show _ = some (HO.tup (List.replicate 1 xs).flatten)
  rw [List.replicate_one, List.flatten_cons, List.flatten_nil, List.append_nil]
section
variable {P : Program} {w : World} {K : PySem.W.Frag} {mg : Str → Option Value} {base : Heap}
theorem bnd_odeed : BindN "_law_odd_deed" "_law_odd_deed" s_l_odd_deed ["_law_pen_here", "_law_song_here"] := fun _ _ _ _ _ _ us hl => match us, hl with | [_, _], _ => rfl
theorem sc_odeed : FnScope ["_law_pen_here", "_law_song_here", "_law_way", "_law_some", "_law_place", "_law_other", "_law_own", "_law_thing"] ["_law_pen_here", "_law_song_here"] (defScope s_l_odd_deed) := ⟨rfl, rfl, rfl, by decide +kernel, rfl, by decide +kernel, by decide +kernel⟩
def cODeed : Nat := 125
def pODeed (K : PySem.W.Frag) (pn sv : V) (H : Hp) (Q : VK) (_ : XK) : Prop := ∃ (p l : Addr) (n : Nat) (s : Sg), pn = .ref p ∧ LSong H sv s ∧ OkSg s ∧ Pen p l (n + cODeed) H ∧ ∀ (H' : Hp) (v : V) (d : Dd), Ex p H H' → Pen p l n H' → DeedAt K (nw H H') v d → Q v H'
/-- pick of a display whose last is odd: what is picked is plain -/
theorem anc_ex {p l : Addr} {m : Nat} {H H1 : Hp} (k : Ex p H H1) (h : Pen p l m H1) : Anc H H1 := fun c e => k.back h e
theorem TabAt.ex {p l : Addr} {m : Nat} {H H1 : Hp} {v : V} {R : Rw} (h : TabAt K H v R) (hp : Pen p l m H) (k : Ex p H H1) : TabAt K H1 v R := by
  obtain ⟨a, dx, t, e, g1, b, xs, e2, g2, r⟩ := h
  exact ⟨a, dx, t, e, k _ _ g1 (pen_ne hp g1 (fun _ z => by cases z)), b, xs, e2, k _ _ g2 (pen_ne hp g2 (fun _ z => by cases z)), paired_mono r fun _ _ ⟨c, ec, hc⟩ => ⟨c, ec, k _ _ hc (pen_ne hp hc (fun _ z => by cases z))⟩⟩
theorem law_odd_deed (T : Top K mg) : Clb P w K mg base CX0 6 "_law_odd_deed" (sp2 (pODeed K)) := by
  obtain ⟨fd, F⟩ := T.d_l_odd_deed
  obtain ⟨ft, Ft⟩ := T.d_Table_init
  refine Clb.of T.g_l_odd_deed F (fnN2 F sc_odeed bnd_odeed fun cdv A outer s0 H pn sv Q E hr h => ?_)
  obtain ⟨p, l, n, s, rfl, ⟨sa, sb, xs, rfl, hsa, hsb, hse⟩, ok, hp, q⟩ := h
  have nd := sc_odeed.nd
  have hr1 : Room 1 _ := hr.mono (by decide)
  have hr2 : Room 2 _ := hr.mono (by decide)
  have hr3 : Room 3 _ := hr.mono (by decide)
  refine ⟨_, pss_cons (ps_set (i := 2) nd rfl (.inl rfl) (pe_f (law_draw T) hr1 pass0 (pa_cons (pv 0) (pa_cons pe_int pa_nil))))
    (pss_cons (ps_if (pt_cmp (pc_lt (pv 2) pe_int)) (pss_cons (ps_set (i := 3) nd rfl (.inl rfl) (pe_lst (pa_cons (pe_callTy (T := "list") call_list_of (by rfl) T.b_list (by decide +kernel) (pa_cons (pe_f (law_prices T) hr3 pass0 (pa_cons (pv 0) (pa_cons (pe_ix ix_tup (pv 1) pe_int (fun _ _ => rfl)) (pa_cons pe_int pa_nil)))) pa_nil)) (pa_cons (pe_tup pa_nil) (pa_cons (pe_op op_repC (pe_tup (pa_cons pe_int pa_nil)) (pe_op op_add (pe_ix ix_tup (pv 1) pe_int (fun _ _ => rfl)) pe_int)) (pa_cons (pe_f (law_odd T) hr3 pass0 (pa_cons (pv 0) (pa_cons (pe_op op_repC (pe_tup (pa_cons pe_int pa_nil)) (pe_ix ix_tup (pv 1) pe_int (fun _ _ => rfl))) pa_nil))) pa_nil)))))) (pss_cons (ps_set (i := 4) nd rfl (.inl rfl) (pe_f (law_pick T) hr2 pass0 (pa_cons (pv 0) (pa_cons (pe_lst (pa_cons (pe_f (law_draw T) hr1 pass0 (pa_cons (pv 0) (pa_cons (pe_ix ix_tup (pv 1) pe_int (fun _ _ => rfl)) pa_nil))) (pa_cons (pe_ix ix_tup (pv 1) pe_int (fun _ _ => rfl)) (pa_cons (pe_f (law_odd T) hr3 pass0 (pa_cons (pv 0) (pa_cons pe_int pa_nil))) pa_nil)))) pa_nil)))) (pss_one (ps_ret (pe_tup (pa_cons pe_str (pa_cons (pv 4) (pa_cons (pe_f (law_pick T) hr2 pass0 (pa_cons (pv 0) (pa_cons (pv 3) pa_nil))) pa_nil)))))))) pss_nil)
    (pss_cons (ps_if (pt_cmp (pc_eqI (pv 2) pe_int)) (pss_one (ps_ret (pe_tup (pa_cons pe_str (pa_cons (pe_f (law_pick T) hr2 pass0 (pa_cons (pv 0) (pa_cons (pe_lst (pa_cons (pe_ix ix_tup (pv 1) pe_int (fun _ _ => rfl)) (pa_cons (pe_un un_neg pe_int) (pa_cons (pe_f (law_odd T) hr3 pass0 (pa_cons (pv 0) (pa_cons pe_int pa_nil))) pa_nil)))) pa_nil))) pa_nil))))) pss_nil)
    (pss_cons (ps_if (pt_cmp (pc_eqI (pv 2) pe_int)) (pss_one (ps_ret (pe_tup (pa_cons pe_str (pa_cons (pe_f (law_pick T) hr2 pass0 (pa_cons (pv 0) (pa_cons (pe_lst (pa_cons pe_int (pa_cons pe_int (pa_cons (pe_op op_pow pe_int pe_int) (pa_cons (pe_op op_add (pe_op op_pow pe_int pe_int) pe_int) (pa_cons pe_int (pa_cons (pe_f (law_odd T) hr3 pass0 (pa_cons (pv 0) (pa_cons pe_int pa_nil))) pa_nil))))))) pa_nil))) pa_nil))))) pss_nil)
    (pss_cons (ps_if (pt_cmp (pc_eqI (pv 2) pe_int)) (pss_one (ps_ret (pe_tup (pa_cons pe_str (pa_cons (pe_f (law_pick T) hr2 pass0 (pa_cons (pv 0) (pa_cons (pe_lst (pa_cons (pe_callB call_len (by rfl) T.b_len (by decide +kernel) (pa_cons (pe_ix ix_tup (pv 1) pe_int (fun _ _ => rfl)) pa_nil)) (pa_cons (pe_un un_neg pe_int) (pa_cons (pe_f (law_odd T) hr3 pass0 (pa_cons (pv 0) (pa_cons pe_int pa_nil))) pa_nil)))) pa_nil))) pa_nil))))) pss_nil)
    (pss_cons (ps_set (i := 5) nd rfl (.inl rfl) (StX.pe_makeR T.k_Table (Table_init T Ft) hr (by rfl) T.g_Table pass0 (pa_cons (pe_op op_rep (pe_lst (pa_cons (pe_op op_rep (pe_lst (pa_cons pe_int pa_nil)) (pe_op op_add (pe_op op_mod (pe_callTy (T := "int") call_int1 (by rfl) T.b_int (by decide +kernel) (pa_cons (pe_ix ix_tup (pv 1) pe_int (fun _ _ => rfl)) pa_nil)) pe_int) pe_int)) pa_nil)) (pe_op op_add (pe_op op_mod (pe_callTy (T := "int") call_int1 (by rfl) T.b_int (by decide +kernel) (pa_cons (pe_ix ix_tup (pv 1) pe_int (fun _ _ => rfl)) pa_nil)) pe_int) pe_int)) pa_nil)))
    (pss_cons (ps_set (i := 6) nd rfl (.inl rfl) (StX.pe_makeR T.k_Table (Table_init T Ft) hr (by rfl) T.g_Table pass0 (pa_cons (pe_f (law_rows T) hr3 pass0 (pa_cons (pv 0) (pa_cons (pe_ix ix_tup (pv 1) pe_int (fun _ _ => rfl)) (pa_cons pe_int pa_nil)))) pa_nil)))
    (pss_cons (ps_set (i := 7) nd rfl (.inl rfl) (pe_f (law_pick T) hr2 pass0 (pa_cons (pv 0) (pa_cons (pe_lst (pa_cons (pv 6) (pa_cons (pv 6) (pa_cons (pv 5) (pa_cons (pe_f (law_odd T) hr3 pass0 (pa_cons (pv 0) (pa_cons pe_int pa_nil))) pa_nil))))) pa_nil))))
    (pss_one (ps_ret (pe_tup (pa_cons pe_str (pa_cons (pe_f (law_pick T) hr2 pass0 (pa_cons (pv 0) (pa_cons (pe_lst (pa_cons pe_int (pa_cons pe_int (pa_cons pe_int (pa_cons (pe_op op_add (pe_op op_pow pe_int pe_int) pe_int) (pa_cons (pe_op op_pow pe_int pe_int) (pa_cons (pe_f (law_odd T) hr3 pass0 (pa_cons (pv 0) (pa_cons pe_int pa_nil))) pa_nil))))))) pa_nil))) (pa_cons (pv 7) pa_nil))))))))))))), ?_⟩
  have hn1 := ok.n1
  have hn40 := ok.n40
  have hB : BigI = 1000000000000000000000000000000000000000000000000000000000000 := rfl
  have sng : ∀ {H2 : Hp}, Ex p H H2 → SqT K H2 sa [.int (s.k : Int), .int s.n, .ref sb] := fun ex => SqT.of (ex _ _ hsa (pen_ne hp hsa (fun _ z => by cases z)))
  have mv : ∀ {H2 H3 : Hp} {v : V} {m : Nat}, Pen p l m H2 → Ex p H2 H3 → AnyQ (nw H H2) v → AnyQ (nw H H3) v := fun pen ex hv => hv.same (nw_ex hp pen ex)
  have mi : ∀ {H2 : Hp} {i : Int}, i.natAbs < 10 ^ 100 → AnyQ (nw H H2) (.int i) := fun h => anyQ_int (any_int h)
  refine ⟨_, rfl, _, _, rfl, p, l, n + 124, 7, rfl, rfl, hp, by decide, by decide, fun H1 wy ex1 pen1 w0 w7 => ?_⟩
  refine ⟨_, rfl, _, _, rfl, rfl, _, rfl, ?_⟩
  by_cases c1 : wy < 2
  · refine itT (decide_eq_true c1) ?_
    have k1 := ok.k1
    have k5 := ok.k5
    refine ⟨_, rfl, _, rfl, sa, _, 0, _, rfl, rfl, sng ex1, rfl, _, _, _, rfl, p, l, n + 115, s.k, 3, rfl, rfl, rfl, pen1, ok.k1, ok.k5, by decide, by decide, fun H2 a r ex2 pen2 hn ha hl hq => ?_⟩
    refine ⟨a, _, rfl, .inr (SqT.of ha), fun b hb => ?_⟩
    have ex12 := ex1.trans ex2
    have hbH := ex12.back pen2 hb
    have sb2 := Same.new (o := .lst (r.map oI)) hb
    refine ⟨by show 0 ≤ sizeLine; decide, fun e he => ?_⟩
    have se := Same.new (o := .tup []) he
    refine ⟨by show 1 ≤ sizeLine; decide, fun g hg => ?_⟩
    have sg := Same.new (o := .tup [V.int 0]) hg
    have ex3 := ex12.trans (Ex.of (Same.trans (Same.trans sb2 se) sg))
    refine ⟨_, rfl, sa, _, 0, _, rfl, rfl, sng ex3, rfl, _, _, rfl, rfl, g, _, _, rfl, rfl, upd_same, by simp, by omega, by omega, by show 1 ≤ 1000; decide, fun i H3 s3 hi => ?_⟩
    refine ⟨_, rfl, by show 1 ≤ sizeLine; decide, fun j hj => ?_⟩
    have sj := Same.new (o := .tup [V.int 0]) hj
    have ex4 := ex3.trans (Ex.of (Same.trans s3 sj))
    refine ⟨_, rfl, sa, _, 0, _, rfl, rfl, sng ex4, rfl, j, _, _, rfl, rfl, upd_same, by simp, by omega, by omega, by show 1 ≤ 1000; decide, fun z H4 s4 hz => ?_⟩
    have s24 := Same.trans (Same.trans (Same.trans (Same.trans (Same.trans sb2 se) sg) s3) sj) s4
    have pen4 := pen2.same s24
    have ex5 := ex12.trans (Ex.of s24)
    rw [zeros] at hi hz
    refine ⟨_, _, rfl, H, p, l, n + 125, n + 114, rfl, hp, anc_ex ex5 pen4, pen4, anyQ_r (nw_tup hz) (by rw [List.length_replicate]; omega) okQ_zeros, fun H5 v ex6 pen5 hv => ⟨by show 4 ≤ sizeLine; decide, fun L hL => ?_⟩⟩
    have sL := Same.new (o := .lst [V.ref b, .ref e, .ref i, v]) hL
    have ex56 := ex5.trans (ex6.trans (Ex.of sL))
    refine ⟨_, rfl, _, rfl, _, rfl, sa, _, 1, _, rfl, rfl, sng ex56, rfl, _, _, rfl, p, l, n + 113, s.n, rfl, rfl, pen5.same sL, by omega, by omega, fun H6 d ex7 pen6 d0 d1 => ?_⟩
    have ex67 := ex56.trans ex7
    refine ⟨_, rfl, sa, _, 1, _, rfl, rfl, sng ex67, rfl, _, rfl, _, _, rfl, H, p, l, n + 125, n + 112, rfl, hp, anc_ex ex67 pen6, pen6, mi (by decide), fun H7 u ex8 pen7 hu => ⟨by show 3 ≤ sizeLine; decide, fun f hf => ?_⟩⟩
    have sf := Same.new (o := .lst [V.int d, .int s.n, u]) hf
    refine ⟨_, _, rfl, p, l, f, n + 111, _, rfl, rfl, upd_same, pen7.same sf, by show 1 ≤ 3; decide, by show 3 < 1000; decide, fun H8 pl ex9 pen8 hpl => ?_⟩
    have eL : Ex p (upd H5 L (.lst [V.ref b, .ref e, .ref i, v])) H8 := ex7.trans (ex8.trans ((Ex.of sf).trans ex9))
    have hL8 := eL _ _ upd_same (pen_ne (pen5.same sL) upd_same (fun _ z => by cases z))
    refine ⟨_, rfl, _, rfl, _, rfl, _, _, rfl, p, l, L, n + 110, _, rfl, rfl, hL8, pen8, by show 1 ≤ 4; decide, by show 4 < 1000; decide, fun H9 pr ex10 pen9 hpr => ⟨by show 3 ≤ sizeLine; decide, fun t ht => ?_⟩⟩
    have e9 : Ex p H8 (upd H9 t (.tup [V.str "wish", pl, pr])) := ex10.trans (Ex.of (Same.new ht))
    have e7 : Ex p H7 (upd H9 t (.tup [V.str "wish", pl, pr])) := (Ex.of sf).trans (ex9.trans e9)
    have e5 : Ex p H5 (upd H9 t (.tup [V.str "wish", pl, pr])) := (Ex.of sL).trans (eL.trans e9)
    have e4 : Ex p H4 (upd H9 t (.tup [V.str "wish", pl, pr])) := ex6.trans e5
    have hplq : AnyQ (nw H (upd H9 t (.tup [V.str "wish", pl, pr]))) pl := by
      simp only [List.mem_cons, List.not_mem_nil, or_false] at hpl
      rcases hpl with rfl | rfl | rfl
      · exact mi (Nat.lt_of_le_of_lt (by omega) big100)
      · exact mi (Nat.lt_of_le_of_lt (by omega) big100)
      · exact mv pen7 e7 hu
    have hprq : AnyQ (nw H (upd H9 t (.tup [V.str "wish", pl, pr]))) pr := by
      simp only [List.mem_cons, List.not_mem_nil, or_false] at hpr
      rcases hpr with rfl | rfl | rfl | rfl
      · have hb4 := (Same.trans (Same.trans (Same.trans (Same.trans se sg) s3) sj) s4) _ _ upd_same
        have hb9 := nw_new hbH (e4 _ _ hb4 (pen_ne pen4 hb4 (fun _ z => by cases z)))
        exact anyQ_o (any_rl hb9 (by omega) hq) hb9 (fun _ z => by cases z)
      · have he4 := (Same.trans (Same.trans (Same.trans sg s3) sj) s4) _ _ upd_same
        exact anyQ_r (r := []) (nw_tup (e4 _ _ he4 (pen_ne pen4 he4 (fun _ z => by cases z)))) (by decide) (fun _ h => by cases h)
      · have hi4 := (Same.trans sj s4) _ _ hi
        exact anyQ_r (nw_tup (e4 _ _ hi4 (pen_ne pen4 hi4 (fun _ z => by cases z)))) (by rw [List.length_replicate]; omega) okQ_zeros
      · exact mv pen5 e5 hv
    obtain ⟨dd, hdd⟩ := wish_of (K := K) (nw_tup (H := H) (upd_same (H := H9) (a := t))) hplq hprq
    exact q _ _ dd (ex12.trans ((Ex.of s24).trans e4)) ((pen9.same (Same.new ht)).less (by omega)) hdd
  · refine itF (decide_eq_false c1) ⟨_, rfl, _, _, rfl, rfl, _, rfl, ?_⟩
    by_cases c2 : wy = 2
    · refine itT (decide_eq_true c2) ?_
      refine ⟨_, rfl, _, rfl, sa, _, 1, _, rfl, rfl, sng ex1, rfl, _, rfl, _, rfl, _, _, rfl, H, p, l, n + 125, n + 123, rfl, hp, anc_ex ex1 pen1, pen1, mi (by decide), fun H2 v ex2 pen2 hv => ⟨by show 3 ≤ sizeLine; decide, fun a ha => ?_⟩⟩
      refine ⟨_, _, rfl, p, l, a, n + 122, _, rfl, rfl, upd_same, pen2.same (Same.new ha), by show 1 ≤ 3; decide, by show 3 < 1000; decide, fun H3 x ex3 pen3 hx => ⟨by show 2 ≤ sizeLine; decide, fun t ht => ?_⟩⟩
      have e3 : Ex p H2 (upd H3 t (.tup [V.str "free", x])) := (Ex.of (Same.new ha)).trans (ex3.trans (Ex.of (Same.new ht)))
      have hxq : AnyQ (nw H (upd H3 t (.tup [V.str "free", x]))) x := by
        simp only [List.mem_cons, List.not_mem_nil, or_false] at hx
        rcases hx with rfl | rfl | rfl
        · exact mi (Nat.lt_of_le_of_lt (by omega) big100)
        · exact mi (by decide)
        · exact mv pen2 e3 hv
      exact q _ _ (.free x) (ex1.trans (ex2.trans e3)) ((pen3.same (Same.new ht)).less (by omega)) ⟨t, rfl, nw_tup upd_same, hxq.1⟩
    · refine itF (decide_eq_false c2) ⟨_, rfl, _, _, rfl, rfl, _, rfl, ?_⟩
      by_cases c3 : wy = 3
      · refine itT (decide_eq_true c3) ?_
        refine ⟨_, rfl, _, _, rfl, rfl, ⟨by decide, by decide, by decide⟩, _, _, rfl, rfl, ⟨by decide, by decide, by decide⟩, _, _, rfl, rfl, _, rfl, _, _, rfl, H, p, l, n + 125, n + 123, rfl, hp, anc_ex ex1 pen1, pen1, mi (by decide), fun H2 v ex2 pen2 hv => ⟨by show 6 ≤ sizeLine; decide, fun a ha => ?_⟩⟩
        refine ⟨_, _, rfl, p, l, a, n + 122, _, rfl, rfl, upd_same, pen2.same (Same.new ha), by show 1 ≤ 6; decide, by show 6 < 1000; decide, fun H3 x ex3 pen3 hx => ⟨by show 2 ≤ sizeLine; decide, fun t ht => ?_⟩⟩
        have e3 : Ex p H2 (upd H3 t (.tup [V.str "length", x])) := (Ex.of (Same.new ha)).trans (ex3.trans (Ex.of (Same.new ht)))
        have hxq : AnyQ (nw H (upd H3 t (.tup [V.str "length", x]))) x := by
          simp only [List.mem_cons, List.not_mem_nil, or_false] at hx
          rcases hx with rfl | rfl | rfl | rfl | rfl | rfl
          · exact mi (by decide)
          · exact mi (by decide)
          · exact mi (by decide +kernel)
          · exact mi (by decide +kernel)
          · exact mi (by decide)
          · exact mv pen2 e3 hv
        exact q _ _ (.len x) (ex1.trans (ex2.trans e3)) ((pen3.same (Same.new ht)).less (by omega)) ⟨t, rfl, nw_tup upd_same, hxq.1⟩
      · refine itF (decide_eq_false c3) ⟨_, rfl, _, _, rfl, rfl, _, rfl, ?_⟩
        by_cases c4 : wy = 4
        · refine itT (decide_eq_true c4) ?_
          have hsb1 := ex1 _ _ hsb (pen_ne hp hsb (fun _ z => by cases z))
          have hxl : xs.length = s.es.length := Paired.length hse
          have hl2 := ok.l2
          refine ⟨_, rfl, _, rfl, sa, _, 2, _, rfl, rfl, sng ex1, rfl, _, xs.length, rfl, .inr ⟨_, SqT.of hsb1, rfl⟩, _, rfl, _, rfl, _, _, rfl, H, p, l, n + 125, n + 123, rfl, hp, anc_ex ex1 pen1, pen1, mi (by decide), fun H2 v ex2 pen2 hv => ⟨by show 3 ≤ sizeLine; decide, fun a ha => ?_⟩⟩
          refine ⟨_, _, rfl, p, l, a, n + 122, _, rfl, rfl, upd_same, pen2.same (Same.new ha), by show 1 ≤ 3; decide, by show 3 < 1000; decide, fun H3 x ex3 pen3 hx => ⟨by show 2 ≤ sizeLine; decide, fun t ht => ?_⟩⟩
          have e3 : Ex p H2 (upd H3 t (.tup [V.str "drop", x])) := (Ex.of (Same.new ha)).trans (ex3.trans (Ex.of (Same.new ht)))
          have hxq : AnyQ (nw H (upd H3 t (.tup [V.str "drop", x]))) x := by
            simp only [List.mem_cons, List.not_mem_nil, or_false] at hx
            rcases hx with rfl | rfl | rfl
            · exact mi (Nat.lt_of_le_of_lt (by omega) big100)
            · exact mi (by decide)
            · exact mv pen2 e3 hv
          exact q _ _ (.drop x) (ex1.trans (ex2.trans e3)) ((pen3.same (Same.new ht)).less (by omega)) ⟨t, rfl, nw_tup upd_same, hxq.1⟩
        · refine itF (decide_eq_false c4) ?_
          obtain ⟨kk, hkk, kk1, kk5⟩ : ∃ kk : Nat, (s.k : Int) % 5 + 1 = (kk : Int) ∧ 1 ≤ kk ∧ kk ≤ 5 := by
            have h1 := Int.emod_nonneg (s.k : Int) (show (5 : Int) ≠ 0 by decide)
            have h2 := Int.emod_lt_of_pos (s.k : Int) (show (0 : Int) < 5 by decide)
            exact ⟨((s.k : Int) % 5 + 1).toNat, by omega, by omega, by omega⟩
          refine ⟨by show 1 ≤ sizeLine; decide, fun b0 hb0 => ?_⟩
          have sb0 := Same.new (o := .lst [V.int 0]) hb0
          refine ⟨_, rfl, sa, _, 0, _, rfl, rfl, sng (ex1.trans (Ex.of sb0)), rfl, .inl ⟨_, rfl, _, _, rfl, rfl, (by show (0 : Int) < _; decide), _, _, rfl, rfl, ?_⟩⟩
          refine ⟨b0, _, _, rfl, rfl, upd_same, by rw [hkk]; omega, by rw [hkk]; omega, by rw [hkk, sizeLine_eq]; simp; omega, fun b1 hb1 => ?_⟩
          have htk : ((s.k : Int) % 5 + 1).toNat = kk := by rw [hkk]; exact Int.toNat_natCast kk
          rw [htk] at *
          have sb1 := Same.new (o := .lst (List.replicate kk [V.int 0]).flatten) hb1
          refine ⟨by show 1 ≤ sizeLine; decide, fun c0 hc0 => ?_⟩
          have sc0 := Same.new (o := .lst [V.ref b1]) hc0
          have s1c := Same.trans (Same.trans sb0 sb1) sc0
          refine ⟨_, rfl, sa, _, 0, _, rfl, rfl, sng (ex1.trans (Ex.of s1c)), rfl, .inl ⟨_, rfl, _, _, rfl, rfl, (by show (0 : Int) < _; decide), _, _, rfl, rfl, ?_⟩⟩
          refine ⟨c0, _, _, rfl, rfl, upd_same, by rw [hkk]; omega, by rw [hkk]; omega, by rw [hkk, sizeLine_eq]; simp; omega, fun c1 hc1 => ?_⟩
          have sc1 := Same.new (o := .lst (List.replicate ((s.k : Int) % 5 + 1).toNat [V.ref b1]).flatten) hc1
          refine fun x dx hx hdx hne => tab_made (okR_zero kk1 kk5) (.inr (rowsL_zero (b := b1) (a := c1) (by rw [upd_same, hkk, Int.toNat_natCast]) ((Same.trans sc0 sc1) _ _ upd_same))) hx hdx hne fun H5 s5 htO => ?_
          have s15 := Same.trans (Same.trans s1c sc1) s5
          have ex5 : Ex p H H5 := ex1.trans (Ex.of s15)
          have pen5 := pen1.same s15
          refine ⟨_, rfl, _, rfl, sa, _, 0, _, rfl, rfl, sng ex5, rfl, _, _, _, rfl, p, l, n + 4, s.k, 3, rfl, rfl, rfl, pen5, ok.k1, ok.k5, by decide, by decide, fun H6 v6 R ex6 pen6 hv6 okR6 => ?_⟩
          refine fun y dy hy hdy hney => tab_made okR6 (.inl hv6) hy hdy hney fun H7 s7 htW => ?_
          have ex7 : Ex p H H7 := ex5.trans (ex6.trans (Ex.of s7))
          have pen7 := pen6.same s7
          refine ⟨_, rfl, _, rfl, _, rfl, _, rfl, _, rfl, _, _, rfl, H, p, l, n + 125, n + 3, rfl, hp, anc_ex ex7 pen7, pen7, mi (by decide), fun H8 v8 ex8 pen8 hv8 => ⟨by show 4 ≤ sizeLine; decide, fun a ha => ?_⟩⟩
          refine ⟨_, _, rfl, p, l, a, n + 2, _, rfl, rfl, upd_same, pen8.same (Same.new ha), by show 1 ≤ 4; decide, by show 4 < 1000; decide, fun H9 th ex9 pen9 hth => ?_⟩
          have ex89 : Ex p H8 H9 := (Ex.of (Same.new ha)).trans ex9
          have ex09 : Ex p H H9 := ex7.trans (ex8.trans ex89)
          refine ⟨_, rfl, _, _, rfl, rfl, ⟨by decide, by decide, by decide⟩, _, _, rfl, rfl, _, _, rfl, rfl, ⟨by decide, by decide, by decide⟩, _, rfl, _, _, rfl, H, p, l, n + 125, n + 1, rfl, hp, anc_ex ex09 pen9, pen9, mi (by decide), fun H10 v10 ex10 pen10 hv10 => ⟨by show 6 ≤ sizeLine; decide, fun a2 ha2 => ?_⟩⟩
          refine ⟨_, _, rfl, p, l, a2, n, _, rfl, rfl, upd_same, pen10.same (Same.new ha2), by show 1 ≤ 6; decide, by show 6 < 1000; decide, fun H11 dl ex11 pen11 hdl => ⟨_, rfl, by show 3 ≤ sizeLine; decide, fun t ht => ?_⟩⟩
          have e10 : Ex p H10 (upd H11 t (.tup [V.str "echo", dl, th])) := (Ex.of (Same.new ha2)).trans (ex11.trans (Ex.of (Same.new ht)))
          have e8 : Ex p H8 (upd H11 t (.tup [V.str "echo", dl, th])) := ex89.trans (ex10.trans e10)
          have e0 : Ex p H (upd H11 t (.tup [V.str "echo", dl, th])) := ex09.trans (ex10.trans e10)
          have hdq : AnyQ (nw H (upd H11 t (.tup [V.str "echo", dl, th]))) dl := by
            simp only [List.mem_cons, List.not_mem_nil, or_false] at hdl
            rcases hdl with rfl | rfl | rfl | rfl | rfl | rfl
            · exact mi (by decide)
            · exact mi (by decide)
            · exact mi (by decide)
            · exact mi (by decide +kernel)
            · exact mi (by decide +kernel)
            · exact mv pen10 e10 hv10
          obtain ⟨o, hto, hoR⟩ : ∃ o, TabQ K (nw H (upd H11 t (.tup [V.str "echo", dl, th]))) th o ∧ ∀ R', o = some R' → ∃ n, OkR n R' := by
            simp only [List.mem_cons, List.not_mem_nil, or_false] at hth
            have ownQ : TabAt K (nw H (upd H11 t (.tup [V.str "echo", dl, th]))) (.ref y) R := TabAt.nw ((ex5.trans ex6).back pen6 hy) (TabAt.ex htW pen7 (ex8.trans e8))
            rcases hth with rfl | rfl | rfl | rfl
            · exact ⟨some R, ownQ, fun R' e => by cases e; exact ⟨_, okR6⟩⟩
            · exact ⟨some R, ownQ, fun R' e => by cases e; exact ⟨_, okR6⟩⟩
            · refine ⟨some (zeroR kk), TabAt.nw ((ex1.trans (Ex.of (Same.trans s1c sc1))).back (pen1.same (Same.trans s1c sc1)) hx) (TabAt.ex htO pen5 (ex6.trans ((Ex.of s7).trans (ex8.trans e8)))), fun R' e => by cases e; exact ⟨_, okR_zero kk1 kk5⟩⟩
            · exact ⟨none, (mv pen8 e8 hv8).1, fun R' e => by cases e⟩
          exact q _ _ (.echo dl th o) e0 ((pen11.same (Same.new ht)).less (by omega)) ⟨t, rfl, nw_tup upd_same, hdq.1, hto, hoR⟩
end
end Ef

set_option Elab.async false
set_option linter.all false
set_option maxRecDepth 100000
set_option maxHeartbeats 4000000
namespace Ef
open PySem PySem.Spec PyProof.Rows L2 He L2H HotX
/-! ### _law_plain -/
theorem piled_mem {t : Str} : ∀ {ts : List Str}, t ∈ ts → t.length + 2 ≤ piled ts
  | [], h => by cases h
  | a :: r, h => by
    have e : piled (a :: r) = a.length + 2 + piled r := by simp [piled]
    rcases List.mem_cons.mp h with rfl | h
    · omega
    · have := piled_mem h
      omega
theorem piled_len : ∀ (ts : List Str), 2 * ts.length ≤ piled ts
  | [] => Nat.zero_le _
  | a :: r => by
    have e : piled (a :: r) = a.length + 2 + piled r := by simp [piled]
    have := piled_len r
    rw [e, List.length_cons]
    omega
theorem shown_mem {d : PyData} : ∀ {ds : List PyData}, d ∈ ds → d.shown ∈ PyData.shownAll ds
  | [], h => by cases h
  | a :: r, h => by
    simp only [PyData.shownAll, List.mem_cons]
    rcases List.mem_cons.mp h with rfl | h
    · exact .inl rfl
    · exact .inr (shown_mem h)
theorem shownAll_len : ∀ (ds : List PyData), (PyData.shownAll ds).length = ds.length
  | [] => by simp only [PyData.shownAll, List.length_nil]
  | a :: r => by simp only [PyData.shownAll, List.length_cons, shownAll_len r]
theorem depth_mem {d : PyData} : ∀ {ds : List PyData}, d ∈ ds → d.depth ≤ PyData.depthAll ds
  | [], h => by cases h
  | a :: r, h => by
    simp only [PyData.depthAll]
    rcases List.mem_cons.mp h with rfl | h
    · exact Nat.le_max_left _ _
    · exact Nat.le_trans (depth_mem h) (Nat.le_max_right _ _)
theorem showable_mem {d : PyData} : ∀ {ds : List PyData}, PyData.showableAll ds = true → d ∈ ds → d.showable = true
  | [], _, h => by cases h
  | a :: r, z, h => by
    simp only [PyData.showableAll, Bool.and_eq_true] at z
    rcases List.mem_cons.mp h with rfl | h
    · exact z.1
    · exact showable_mem z.2 h
theorem tupleText_ge (ts : List Str) : ts ≠ [] → piled ts ≤ (tupleText ts).length + 2 := fun h => by
  have z := join_length_add ts h
  have e : (tupleText ts).length = (("(" : Str) ++ Str.join ", " ts).length + (if ts.length == 1 then ((",)" : String) : Str) else ((")" : String) : Str)).length := by
    unfold tupleText
    rw [strLen_append]
    split <;> rfl
  rw [strLen_append] at e
  omega
theorem small_item {ds : List PyData} {d : PyData} (h : SmallD (.tuple ds)) (hd : d ∈ ds) : SmallD d ∧ d.depth + 1 ≤ (PyData.tuple ds).depth := by
  have e : (PyData.tuple ds).depth = PyData.depthAll ds + 1 := by simp only [PyData.depth]
  have k := depth_mem hd
  have hs := h.sh
  simp only [PyData.showable] at hs
  have hl := h.len
  simp only [PyData.shown] at hl
  have m := shown_mem hd
  have z := tupleText_ge (PyData.shownAll ds) (List.ne_nil_of_mem m)
  have q := piled_mem m
  have hp := h.dep
  exact ⟨⟨showable_mem hs hd, by omega, by omega⟩, by omega⟩
theorem tup_small_len {ds : List PyData} (h : SmallD (.tuple ds)) : ds.length < sizeLine := by
  have hl := h.len
  simp only [PyData.shown] at hl
  by_cases e : PyData.shownAll ds = []
  · have z := shownAll_len ds
    rw [e] at z
    rw [← z, sizeLine_eq]
    decide
  · have z := tupleText_ge (PyData.shownAll ds) e
    have q := piled_len (PyData.shownAll ds)
    rw [shownAll_len] at q
    rw [sizeLine_eq] at *
    omega
theorem ShwL.get2 {b : Bool} {H : Hp} : ∀ {xs : List V} {ds : List PyData}, ShwL b H xs ds → ∀ x ∈ xs, ∃ d ∈ ds, Shw b H x d
  | _, _, .nil, x, hx => by cases hx
  | _, _, .cons h r, x, hx => by
    rcases List.mem_cons.mp hx with rfl | hx
    · exact ⟨_, List.mem_cons_self, h⟩
    · obtain ⟨d, m, z⟩ := r.get2 x hx
      exact ⟨d, List.mem_cons_of_mem _ m, z⟩
/-- a value that _law_plain takes at the depth n -/
inductive Pln (K : PySem.W.Frag) (H : Hp) : Nat → V → Prop
  | any {n : Nat} {b : Bool} {v : V} {d : PyData} (h : Shw b H v d) (s : SmallD d) (k : d.depth ≤ n) : Pln K H n v
  | tab {n : Nat} {v : V} {R : Rw} (h : TabAt K H v R) : Pln K H n v
  | tup {n : Nat} {a : Addr} {xs : List V} (h : H a = some (.tup xs)) (l : xs.length < sizeLine) (r : ∀ x ∈ xs, Pln K H n x) : Pln K H (n + 1) (.ref a)
theorem Pln.same {K : PySem.W.Frag} {H H1 : Hp} (k : Same H H1) : ∀ {n : Nat} {v : V}, Pln K H n v → Pln K H1 n v
  | _, _, .any h s d => .any (h.same k) s d
  | _, _, .tab h => .tab (TabAt.same k h)
  | _, _, .tup h l r => .tup (k _ _ h) l fun x hx => (r x hx).same k
theorem Pln.view {K : PySem.W.Frag} {H : Hp} {n : Nat} {v : V} (h : Pln K H n v) : (∃ R, TabAt K H v R) ∨ (∃ a xs m, n = m + 1 ∧ v = .ref a ∧ H a = some (.tup xs) ∧ xs.length < sizeLine ∧ ∀ x ∈ xs, Pln K H m x) ∨ (∃ b d k, Shw b H v d ∧ SmallD d ∧ KdAt K H v k ∧ k.basic = true ∧ k ≠ .tup) := by
  cases h with
  | tab h => exact .inl ⟨_, h⟩
  | @tup m a xs h l r => exact .inr (.inl ⟨a, xs, m, rfl, rfl, h, l, r⟩)
  | @any _ b _ d h s k =>
    cases h with
    | @tup _ _ a xs ds h r =>
      have e : (PyData.tuple ds).depth = PyData.depthAll ds + 1 := by simp only [PyData.depth]
      obtain ⟨m, rfl⟩ : ∃ m, n = m + 1 := ⟨n - 1, by omega⟩
      refine .inr (.inl ⟨a, xs, m, rfl, rfl, h, by rw [r.length]; exact tup_small_len s, fun x hx => ?_⟩)
      obtain ⟨d, hd, z⟩ := r.get2 x hx
      obtain ⟨s1, s2⟩ := small_item s hd
      exact .any z s1 (by omega)
    | non => exact .inr (.inr ⟨b, _, .non, .non, s, rfl, rfl, by decide⟩)
    | bl x => exact .inr (.inr ⟨b, _, .bl, .bl x, s, ⟨x, rfl⟩, rfl, by decide⟩)
    | int i => exact .inr (.inr ⟨b, _, .int, .int i, s, ⟨i, rfl⟩, rfl, by decide⟩)
    | str x => exact .inr (.inr ⟨b, _, .str, .str x, s, ⟨x, rfl⟩, rfl, by decide⟩)
    | lst h n r => exact .inr (.inr ⟨b, _, .lst, .lst h n r, s, ⟨_, _, rfl, h⟩, rfl, by decide⟩)
    | dK h r => exact .inr (.inr ⟨true, _, .dct, .dK h r, s, ⟨_, rfl, .inl ⟨_, h⟩⟩, rfl, by decide⟩)
    | dP h => exact .inr (.inr ⟨true, _, .dct, .dP h, s, ⟨_, rfl, .inr (.inl ⟨_, h⟩)⟩, rfl, by decide⟩)
    | odd h => exact .inr (.inr ⟨true, _, .dct, .odd h, s, ⟨_, rfl, .inr (.inr h)⟩, rfl, by decide⟩)
section
variable {P : Program} {w : World} {K : PySem.W.Frag} {mg : Str → Option Value} {base : Heap}
theorem rows_w (T : Top K mg) : FnW P w K mg base 1 (pgt K (ga K "Table") "rows") (sp1 (pFld (ga K "Table") "entries")) := by
  obtain ⟨fd, F⟩ := T.d_Table_rows
  refine raw_ofW F sc_Table_rows bnd_Table_rows len1 fun cdv A outer s H vs Q pl hr hg wc h => ?_
  obtain ⟨v, rfl, a, dx, fs, u, rfl, ha, hl, q⟩ := h
  exact ⟨_, pss_one (ps_ret (pe_fld (pv 0) rfl)), _, rfl, a, _, dx, fs, u, rfl, ha, T.c_Table, T.n_Table_entries, hl, q⟩
theorem bnd_plain : BindN "_law_plain" "_law_plain" s_l_plain ["_law_value"] := fun _ _ _ _ _ _ us hl => match us, hl with | [_], _ => rfl
theorem sc_plain : FnScope ["_law_value", "_law_part"] ["_law_value"] (defScope s_l_plain) := ⟨rfl, rfl, rfl, by decide +kernel, rfl, by decide +kernel, by decide +kernel⟩
def pPlain (K : PySem.W.Frag) : Nat → V → Hp → VK → XK → Prop
  | 0 => fun _ _ _ _ => False
  | n + 1 => fun v H Q _ => Pln K H n v ∧ ∀ H' u, Same H H' → Q u H'
theorem law_plain (T : Top K mg) : ∀ n, ClW P w K mg base (n + 2) "_law_plain" (sp1 (pPlain K n))
  | 0 => by
    obtain ⟨fd, F⟩ := T.d_l_plain
    refine ClW.of T.g_l_plain F fun A outer s H us vs Q pl _ _ _ _ _ h => ?_
    obtain ⟨_, _, h⟩ := h
    exact h.elim
  | n + 1 => by
    have IH := law_plain T n
    obtain ⟨fd, F⟩ := T.d_l_plain
    refine ClW.of T.g_l_plain F (raw_ofW F sc_plain bnd_plain len1 fun cdv A outer s H vs Q pl hr hg wc h => ?_)
    obtain ⟨v, rfl, hv, q⟩ := h
    have hr2 : RoomH 2 _ := hr.mono (by omega)
    have hu : (A.deeper (envOfC "_law_plain" (defScope s_l_plain) s.heap.objs.size (ga K "_law_plain") cdv)).units + 100 < cLine := by have := hr.un; omega
    refine ⟨_, pss_cons (ps_if (pt_val (pe_callB (call_isTab T.kt) (by rfl) T.b_isinstance (by decide +kernel) (pa_cons (pv 0) (pa_cons (pe_glob (v := .ref (ga K "Table")) (by rfl) T.g_Table rfl) pa_nil))))
        (pss_one (ps_ret (pe_tup (pa_cons pe_str (pa_cons (pe_pw T.c_Table T.p_Table_rows (rows_w T) hr2 hg wc (pv 0)) pa_nil))))) pss_nil)
      (pss_cons (ps_if (pt_val (pe_callB call_isB (by rfl) T.b_isinstance (by decide +kernel) (pa_cons (pv 0) (pa_cons (pe_bltn (v := .ty "tuple") (by rfl) T.b_tuple (by decide +kernel) rfl) pa_nil))))
        (pss_one (ps_ret (pe_tupleOf (by rfl) T.b_tuple (pe_lcT (iy := 1) wc sc_plain.nd (pv 0) (blkOk_by (N := ["_law_value", "_law_part"]) (sc := defScope s_l_plain) (own := [("_law_part", 1)]) (by decide +kernel))
          (fun _ _ _ _ _ => pg_name (i := 1) sc_plain.nd rfl (.inl rfl)) (fun _ _ _ _ _ => pe_w IH hr hg wc.blk (pa_cons (pv 1) pa_nil)))))) pss_nil)
      (pss_one (ps_ret (pe_callB (call_reprG hg hu) (by rfl) T.b_repr (by decide +kernel) (pa_cons (pv 0) pa_nil))))), ?_⟩
    rcases hv.view with ⟨R, hT⟩ | ⟨a, xs, m, rfl, rfl, ha, hl, hx⟩ | ⟨b, d, k, hs, sm, hk, hb, hn⟩
    · obtain ⟨a, dx, t, rfl, ha, hR⟩ := id hT
      refine ⟨_, rfl, _, .tab, rfl, ⟨a, dx, _, rfl, ha⟩, by decide, _, rfl, itT (by decide) ?_⟩
      exact ⟨_, rfl, a, dx, _, rfl, ha, _, rfl, a, dx, _, t, rfl, ha, lk_hd, by show 2 ≤ sizeLine; decide, fun p hp => q _ _ (Same.new hp)⟩
    · refine ⟨_, rfl, _, .tup, rfl, ⟨a, _, rfl, ha⟩, by decide, _, rfl, itF (by decide) ?_⟩
      refine ⟨_, rfl, _, .tup, .tuple, rfl, ⟨a, _, rfl, ha⟩, rfl, _, rfl, itT (by decide) ?_⟩
      refine ⟨_, rfl, a, xs, rfl, ha, fun D hD => ⟨fun i H1 => Same H H1 ∧ ∃ acc, H1 D = some (.lst acc) ∧ acc.length = i, ⟨Same.new hD, [], upd_same, rfl⟩, fun i H1 h => h.1 _ _ ha, fun i x H1 hi ⟨s1, acc, hacc, la⟩ => ?_, fun H1 ⟨s1, acc, hacc, la⟩ => ?_⟩⟩
      · have hil : i < xs.length := (List.getElem?_eq_some_iff.mp hi).1
        refine ⟨_, rfl, _, rfl, (hx x (List.mem_of_getElem? hi)).same s1, fun H2 u s2 => ⟨acc, s2 _ _ hacc, by omega, Same.mut (Same.trans s1 s2) hD, acc ++ [u], upd_same, by rw [List.length_append, la]; rfl⟩⟩
      · exact .inl ⟨D, acc, rfl, SqL.of hacc, fun t ht => q _ _ (Same.snd s1 ht)⟩
    · refine ⟨_, rfl, _, k, rfl, hk, (fun z => by rw [z] at hb; cases hb), _, rfl, itF (decide_eq_false (fun z => by rw [z] at hb; cases hb)) ?_⟩
      have e : isKb k .tuple = false := by cases k <;> first | rfl | exact absurd rfl hn
      refine ⟨_, rfl, _, k, .tuple, rfl, hk, hb, _, rfl, itF e ?_⟩
      exact ⟨_, rfl, b, v, d, rfl, hs, sm, q _ _ (Same.refl H)⟩
end
end Ef

set_option Elab.async false
set_option linter.all false
set_option maxRecDepth 100000
set_option maxHeartbeats 4000000
namespace Ef
open PySem PySem.Spec PyProof.Rows L2 He
/-! ### exceptions of which Z is known: Zc (class, dict), Zn (and that the context is None) -/
abbrev ZT := Value → Option Addr → Obj → Prop
structure ZK (Z : ZT) : Prop where
  st : ∀ c d, PXN.Steady1 (Z c d)
  cls : ∀ c d o, Z c d o → o.cls = c
theorem zk_n : ZK L2N.Zn := ⟨fun _ _ => L2N.Zn.steady, fun _ _ _ h => h.1⟩
theorem zk_c : ZK L2.Zc := ⟨fun _ _ => PXN.steady_and PXN.steady_cls PXN.steady_dict, fun _ _ _ h => h.1⟩
def XEz (Z : ZT) (X : Cx) (W : WX) (u : Value) (s' : Shared) : Prop := ∃ (a : Addr) (B : Heap) (sI : Shared) (pins : List (Addr × Obj)) (σ : L2.St) (H : Hp) (cls : Value) (d : Option Addr), u = .ref a ∧ Inv X pins σ H sI ∧
  (∀ b o, sI.heap.get? b = some o → b ∉ frs X.stack → B.get? b = some o) ∧ sI.heap.UpToSlots s'.heap ∧ Sky B X.stack a (Z cls d) X.env.locals s'.heap ∧ H a = none ∧ s'.os = sI.os ∧ AllBare s'.gens ∧ W cls d σ H
def TkZ (Z : ZT) (X : Cx) (W : WX) : Prop := ∀ u s', XEz Z X W u s' → X.xe u s'
def CXz (Z : ZT) (P : Program) (w : World) (outer : List Env) (H : Hp) (s : Shared) (E : XK) (u : Value) (s' : Shared) : Prop := ∃ (a : Addr) (B : Heap) (H' : Hp) (cls : Value) (d : Option Addr), u = .ref a ∧ HandSPX.FlyingZ B outer a (Z cls d) s'.heap ∧ HOk P w H' B ∧
  UB (frs outer) H H' s.heap B s'.heap ∧ H' a = none ∧ s'.os = s.os ∧ AllBare s'.gens ∧ E cls d H'
theorem cxz_n {P : Program} {w : World} : CXz L2N.Zn P w = L2N.CX P w := rfl
theorem cxz_c {P : Program} {w : World} : CXz L2.Zc P w = L2.CX P w := rfl
theorem tkz_n {X : Cx} {W : WX} : TkZ L2N.Zn X W = L2N.Takes X W := rfl
theorem tkz_c {X : Cx} {W : WX} : TkZ L2.Zc X W = L2.Takes X W := rfl
/-! ### try: .., several clauses except x as n (one n), one of which takes it -/
def asD (i : Nat) (D : Ends) : Ends := { nx := fun σ' H' => D.nx (σ'.set i none) H', rt := D.rt, bk := fun σ' H' => D.bk (σ'.set i none) H', ct := fun σ' H' => D.ct (σ'.set i none) H' }
def wMAs (K : PySem.W.Frag) (i : Nat) (D : Ends) : List (Value × (Addr → Value → Option Addr → TS)) → WX
  | [] => fun _ _ _ _ => False
  | (c, ts) :: r => fun cls d σ H => ∃ b, PySem.W.exmOne K cls c = some b ∧ (b = true → ∀ a, H a = none → ts a cls d (asD i D) (σ.set i (some (.ref a))) H) ∧ (b = false → wMAs K i D r cls d σ H)
inductive HdsAs (Z : ZT) (X : Cx) (n : Str) : List ExceptHandler → List (Value × (Addr → Value → Option Addr → TS)) → Prop
  | nil : HdsAs Z X n [] []
  | cons {x : Str} {c : Value} {ts : Addr → Value → Option Addr → TS} {b₀ : Stmt} {suite : List Stmt} {np pos' : Pos} {hds : List ExceptHandler} {l : List (Value × (Addr → Value → Option Addr → TS))} (hc : Names X x c)
      (hsu : ∀ (a : Addr) (oe : Obj) (cls : Value) (d : Option Addr) (pn : List (Addr × Obj)), Z cls d oe → (∃ vs, oe.data = .fields vs) → PSs (X.suite a ((a, oe) :: pn)) (b₀ :: suite) (ts a cls d)) (r : HdsAs Z X n hds l) :
      HdsAs Z X n (.ExceptHandler (some (.Name x np)) (some n) (b₀ :: suite) pos' :: hds) ((c, ts) :: l)
section
variable {Z : ZT} {X : Cx} {n : Str} {i : Nat} {body : List Stmt} {h₀ : ExceptHandler} {hds : List ExceptHandler} {l : List (Value × (Addr → Value → Option Addr → TS))} {pos : Pos} {tb : WX → TS}
theorem ps_try_asM (zk : ZK Z) (hs : X.stack = X.env :: X.outer) (hf : X.env.frame = some X.env.locals) (hN : X.N.Nodup) (hi : X.N[i]? = some n) (hln : X.env.kindOf n = some .local)
    (hb : ∀ (W : WX) (pn : List (Addr × Obj)) (xe : Value → Shared → Prop), TkZ Z (X.tr pn xe) W → PassesOwn (model X.prog X.w) X.A X.env xe → PSs (X.tr pn xe) body (tb W))
    (hh : HdsAs Z X n (h₀ :: hds) l) : PS X (.Try body (h₀ :: hds) [] [] pos) (fun D σ H => tb (wMAs X.K i D l) D σ H) := by
  refine ⟨fun pins s σ H D I h => ?_⟩
  have ok := I.ok
  have fra : X.A.frames = some (X.env :: X.outer) := by rw [ok.frames, hs]
  have loc : Loc X.env.scope n := .inl hln
  let XH : Value → Shared → Prop := fun e s₁ => wpAny (model X.prog X.w) X.A (noteFrame e X.env) (fun _ s₂ => wpAny (model X.prog X.w) X.A (setFlight e none) (fun _ s₃ => wpAny (model X.prog X.w) X.A (handleBy e X.env (h₀ :: hds)) (SP X pins D) X.xe s₃) X.xe s₂) X.xe s₁
  refine wpAny_Try_except (wpAny_mono ((hb (wMAs X.K i D l) (X.pn ++ pins) XH (fun u s' xx => ?_) PassesOwn.looking).run [] s σ H D (I.toTry _) h) (fun f s1 hsp => ?_) (fun e s1 he => he))
  rotate_left
  · cases f with
    | next =>
      obtain ⟨σ', H', J, z⟩ := hsp
      exact wpAny_execs_nil ⟨σ', H', J.ofTry ok, z⟩
    | ret u =>
      obtain ⟨v, σ', H', J, r, z⟩ := hsp
      exact ⟨v, σ', H', J.ofTry ok, r, z⟩
    | brk =>
      obtain ⟨σ', H', J, z⟩ := hsp
      exact ⟨σ', H', J.ofTry ok, z⟩
    | cont =>
      obtain ⟨σ', H', J, z⟩ := hsp
      exact ⟨σ', H', J.ofTry ok, z⟩
  obtain ⟨a, B, sI, pins', σ', H', cls, d, eu, J0, nb, up, sky, na, os, ag, wish⟩ := xx
  subst eu
  have J : Inv X pins σ' H' sI := J0.ofTry ok
  have sky1 : Sky B (X.env :: X.outer) a (Z cls d) X.env.locals s'.heap := by rw [← hs]; exact sky
  show wpAny (model X.prog X.w) X.A (noteFrame (.ref a) X.env) _ _ _
  refine L2N.Sky.land (zk.st cls d) fra hf sky1 fun h3 fl3 up3 => ?_
  have J3 : Inv X pins σ' H' { s' with heap := h3 } := J.landed nb fl3.1 (up.trans up3) os ag
  obtain ⟨oe3, vs3, he3, hz3, hd3⟩ := fl3.there
  have nfr : a ∉ frs (X.env :: X.outer) := fun hm => by
    obtain ⟨_, o', e', hnf⟩ := fl3.2.2.1.mem hm
    rw [he3] at e'
    cases e'
    exact hnf _ hd3
  have nL : a ≠ X.env.locals := fun z => nfr (List.mem_filterMap.mpr ⟨X.env, List.mem_cons_self, by rw [hf, z]⟩)
  have nF : a ∉ X.fs := fun hm => by
    obtain ⟨e, he, q⟩ := List.mem_filterMap.mp hm
    exact nfr (List.mem_filterMap.mpr ⟨e, List.mem_cons_of_mem _ he, q⟩)
  have S3 := J3.suite he3 hd3 na nL nF
  have go : ∀ {hs' : List ExceptHandler} {l' : List (Value × (Addr → Value → Option Addr → TS))}, HdsAs Z X n hs' l' → wMAs X.K i D l' cls d σ' H' → wpAny (model X.prog X.w) X.A (handleBy (.ref a) X.env hs') (SP X pins D) X.xe { s' with heap := h3 } := by
    intro hs' l' hk
    induction hk with
    | nil => intro z; exact False.elim z
    | @cons x c ts b₀ suite np pos' hds2 l2 hc hsu r ih =>
      intro z
      obtain ⟨b, hb1, yes, no⟩ := z
      refine wpAny_handleBy_cons (codeAny_handlers_test ?_) (by intro q; cases q)
      have tyL : PySem.W.Looks (model X.prog X.w) h3 (typeOf (.ref a)) cls := fun A Q E s k q => wpAny_typeOf_ref (k _ _ he3) (by rw [zk.cls _ _ _ hz3]; exact q)
      have LM := PySem.W.exm_one (M := model X.prog X.w) J3.kIn tyL hb1
      have named : ∀ {Q : Value → Shared → Prop} {E : Value → Shared → Prop}, Q c { s' with heap := h3 } → wpAny (model X.prog X.w) (X.A.mark (some (.ref a))) (eval (.Name x np) X.env) Q E { s' with heap := h3 } := fun {Q E} q => by
        obtain ⟨hg, hdbg, hm | ⟨hm, hv, hnn⟩⟩ := hc
        · exact ld_glob (X := X.suite a ((a, oe3) :: (X.pn ++ pins))) S3 hg hm q hdbg
        · exact ld_blt (X := X.suite a ((a, oe3) :: (X.pn ++ pins))) S3 hg hm hv q hnn hdbg
      refine named (LM.here ?_)
      cases b with
      | false =>
        show wpAny _ X.A (handleBy (.ref a) X.env hds2) _ _ _
        exact ih (no rfl)
      | true =>
        refine codeAny_handlers_suite_as ?_
        refine HandSPX.lands_againZ fl3 fun h4 fl4 up4 => ?_
        have J4 : Inv X pins σ' H' { s' with heap := h4 } := J.landed nb fl4.1 ((up.trans up3).trans up4) os ag
        obtain ⟨oe4, vs4, he4, hz4, hd4⟩ := fl4.there
        have S4 := J4.suite he4 hd4 na nL nF
        refine store_ok (X := X.suite a ((a, oe4) :: (X.pn ++ pins))) (v := .ref a) S4 hN hi loc rfl (fun s5 S5 => ?_) (.inr hln)
        refine wpAny_mono ((hsu a oe4 cls d (X.pn ++ pins) hz4 ⟨_, hd4⟩).run [] s5 _ H' _ S5 (yes rfl a na)) (fun f s6 hsp => ?_) (fun _ _ z => False.elim z)
        have lets : ∀ {σ6 : L2.St} {H6 : Hp} {Q : Shared → Prop}, Inv (X.suite a ((a, oe4) :: (X.pn ++ pins))) [] σ6 H6 s6 → (∀ s7, Inv X pins (σ6.set i none) H6 s7 → Q s7) →
            wpAny (model X.prog X.w) X.A (do bindName X.env n .none; unbindBehindTheSuite X.env n pos') (fun _ s7 => Q s7) X.xe s6 := fun {σ6 H6 Q} S6 hq => gone_ok (S6.unsuite ok) hN hi hln hq
        cases f with
        | next =>
          obtain ⟨σ6, H6, S6, z⟩ := hsp
          exact lets S6 fun s7 J7 => ⟨_, _, J7, z⟩
        | brk =>
          obtain ⟨σ6, H6, S6, z⟩ := hsp
          exact lets S6 fun s7 J7 => ⟨_, _, J7, z⟩
        | cont =>
          obtain ⟨σ6, H6, S6, z⟩ := hsp
          exact lets S6 fun s7 J7 => ⟨_, _, J7, z⟩
        | ret u =>
          obtain ⟨v6, σ6, H6, S6, r6, z⟩ := hsp
          exact lets S6 fun s7 J7 => ⟨_, _, _, J7, r6, z⟩
  exact go hh wish
end
end Ef

set_option Elab.async false
set_option linter.all false
set_option maxRecDepth 100000
set_option maxHeartbeats 4000000
namespace Ef
open PySem PySem.Spec PyProof.Rows L2 He LamX
/-! ### x(lambda: body), what the body lets out known by Z -/
def ZP (Z : ZT) : Prop := ∀ (X : Cx) (W : WX) (E : XK), TkZ Z X W → (∀ cls d σ H, E cls d H → W cls d σ H) → Passes (CXz Z X.prog X.w) X E
theorem zp_n : ZP L2N.Zn := fun _ _ _ tk hW => L2N.passes_call tk hW
theorem zp_c : ZP L2.Zc := fun _ _ _ tk hW => L2.passes_call tk hW
/-- the context of the lambda's body -/
abbrev lamZ (Z : ZT) (X : Cx) (A : Around) (outer : List Env) (s : Shared) (H : Hp) (E : XK) (scope : Scope) (f c' : Addr) : Cx :=
  (lamCx X A outer s H E scope f c').wish fun e s' => wpAny (model X.prog X.w) (A.deeper (lamEnv X scope s.heap.objs.size f c')) (leaving (lamEnv X scope s.heap.objs.size f c') e) (fun _ s'' => CXz Z X.prog X.w outer H s E e s'') (fun e' s'' => CXz Z X.prog X.w outer H s E e' s'') s'
section
variable {Z : ZT} {X : Cx} {pins : List (Addr × Obj)} {σ : L2.St} {H HZ : Hp} {s s1 : Shared}
/-- a(), in the def that got the lambda -/
theorem pe_actZ {Ng : List Str} {qg : Str} {sg : Scope} {g f c' : Addr} {cdg pm ctv : Value} {params : Arguments} {body : Expr} {scope : Scope} {k i : Nat} {a : Str} {pn : List (Addr × Obj)} {xe : Value → Shared → Prop} {W : WX} {E : XK} {tb : TE} {p1 p2 : Pos} (zp : ZP Z)
    (I : Inv X pins σ H s) (L : LamS X.env.scope scope) (hf : s.heap.get? f = some (PySem.W.kla_obj "<lambda>" (X.env.qual ++ "<lambda>") params body scope (cloFrom X.env.cells scope.names []) pm c' ctv)) (hfn : H f = none) (hfr : f ∉ frs X.stack)
    (hbind : bindArgs (PySem.W.kla_fn "<lambda>" (X.env.qual ++ "<lambda>") params body scope (cloFrom X.env.cells scope.names []) pm (.ref c') ctv) ⟨[], []⟩ = pure [])
    (tk : TkZ Z ((cxOf C8.CX0 X.prog X.w X.K X.mg X.base Ng qg sg g cdg X.A X.stack s H C8.E0).tr pn xe) W) (hW : ∀ cls d σ' H', E cls d H' → W cls d σ' H') (hr : Room (k + 1) (X.A.deeper (envOfC qg sg s.heap.objs.size g cdg)))
    (hbody : ∀ (A : Around) (outer : List Env) (s : Shared) (H : Hp), Room k (A.deeper (lamEnv X scope s.heap.objs.size f c')) → PE (lamZ Z X A outer s H E scope f c') body tb)
    (hN : Ng[i]? = some a) (hv : Vis sg a) (hd : (a == ("__debug__" : Str)) = false := by decide) (hcd : (a == ("__classdict__" : Str)) = false := by decide) :
    PE ((cxOf C8.CX0 X.prog X.w X.K X.mg X.base Ng qg sg g cdg X.A X.stack s H C8.E0).tr pn xe) (.Call (.Name a p1) [] [] p2) (fun σZ HZ Q => σZ[i]? = some (some (.ref f)) ∧ HZ c' = some (CodeO c' (X.env.qual ++ "<lambda>")) ∧ tb σ HZ Q) := by
  refine ⟨fun pinsZ sZ σZ HZ Q IZ h => ?_⟩
  obtain ⟨hs, hc, ht⟩ := h
  refine wpAny_Call_Name_kw (thn ((pe_var (pos := p1) (i := i) hN hv hd hcd).run pinsZ sZ σZ HZ (fun v H1 => v = .ref f ∧ H1 = HZ) IZ ⟨.ref f, hs, rfl, rfl⟩) fun u s1 ⟨v, H1, I1, r1, ev, eH⟩ => ?_)
  subst ev
  rw [eH] at I1
  obtain rfl : u = Value.ref f := r1
  have of1 : s1.heap.get? f = some (PySem.W.kla_obj "<lambda>" (X.env.qual ++ "<lambda>") params body scope (cloFrom X.env.cells scope.names []) pm c' ctv) := I1.base.keep f _ hf hfn hfr (fun z => nomatch (show f ∈ ([] : List Addr) from z))
  refine PySem.W.callWith_F0 ⟨_, _, _, _, of1⟩ ?_
  have un : Un (frs X.stack) [] H HZ s.heap s1.heap := I1.base
  obtain ⟨⟨oc, vs, t, hoc, hdc, hvc⟩, _, _⟩ := I1.hok c' _ hc
  have rc : codeAny (model X.prog X.w) (X.A.deeper (envOfC qg sg s.heap.objs.size g cdg)) (.call (.ref f) ⟨[], []⟩) (CR (CXz Z X.prog X.w) (envOfC qg sg s.heap.objs.size g cdg :: X.stack) X.prog X.w HZ s1 Q E) s1 := by
    refine PySem.W.kla_callFunE hr.depth of1 rfl L.co L.gen rfl ⟨c', oc, vs, t, rfl, hoc, hdc, hvc⟩ ?_
    rw [hbind]
    refine wpAny_pure (wpAny_newFunctionEnv (fun y hy => (L.own y hy).2) (fun y hy => absurd hy (by simp)) (fun h₁ hns hsb => ⟨I1.nolimit.fresh _ hsb, ?_⟩) L.kind)
    show codeAny _ _ (.expr body (lamEnv X scope s1.heap.objs.size f c')) _ _
    have kp : ∀ b o, s1.heap.get? b = some o → h₁.get? b = some o := fun b o e => hsb.extBut b o (Nat.ne_of_lt (Heap.lt_size e)) (Heap.get?_push_of_some _ e)
    have J0 : Inv (lamCx X (X.A.deeper (envOfC qg sg s.heap.objs.size g cdg)) (envOfC qg sg s.heap.objs.size g cdg :: X.stack) s1 HZ E scope f c') [] σ HZ { s1 with heap := h₁, toks := s1.toks + ([] : List (Str × Value)).length } := lam_start2 I L I1.env0 hr.hd un hns kp
    have J : Inv (lamZ Z X (X.A.deeper (envOfC qg sg s.heap.objs.size g cdg)) (envOfC qg sg s.heap.objs.size g cdg :: X.stack) s1 HZ E scope f c') [] σ HZ { s1 with heap := h₁, toks := s1.toks + ([] : List (Str × Value)).length } := J0.wish _
    refine PySem.W.kla_codeExpr (wpAny_mono ((hbody _ _ s1 HZ (hr.deeper _)).run [] _ _ HZ Q J ht) (fun v s' hq => ?_) fun e s' hq => hq)
    obtain ⟨w', H', J', rv, q⟩ := hq
    exact ⟨w', H', J'.os, J'.bare, J'.base, J'.hok, rv, q⟩
  have hx := zp _ _ _ tk hW
  refine wpAny_call (codeAny_mono rc fun r s' hq => ?_)
  cases r with
  | error e => exact hx pinsZ σZ HZ s1 e s' I1 hq
  | ok fl =>
    cases fl with
    | ret u => exact I1.after hq
    | next => exact False.elim hq
    | brk => exact False.elim hq
    | cont => exact False.elim hq
end
/-- the def that calls what it got: a calls it; TT: what it makes of the lambda's reading -/
def GivesZ (Z : ZT) (X : Cx) (Ng : List Str) (x : Str) (sg : Scope) (g : Addr) (cdg : Value) (bg : List Stmt) (a : Str) (q : Str) (TT : (XK → Hp → VK → Prop) → Hp → VK → Prop) : Prop :=
  ∀ (f c' : Addr) (s : Shared) (H : Hp) (Q : VK) (tl : XK → Hp → VK → Prop),
    (∀ (W : WX) (pn : List (Addr × Obj)) (xe : Value → Shared → Prop) (E : XK) (p1 p2 : Pos), TkZ Z ((cxOf C8.CX0 X.prog X.w X.K X.mg X.base Ng x sg g cdg X.A X.stack s H C8.E0).tr pn xe) W → (∀ cls d σ' H', E cls d H' → W cls d σ' H') →
      PE ((cxOf C8.CX0 X.prog X.w X.K X.mg X.base Ng x sg g cdg X.A X.stack s H C8.E0).tr pn xe) (.Call (.Name a p1) [] [] p2) (fun σZ HZ Q => σZ[0]? = some (some (.ref f)) ∧ HZ c' = some (CodeO c' q) ∧ tl E HZ Q)) →
    H c' = some (CodeO c' q) → TT tl H Q →
    ∃ t, PSs (cxOf C8.CX0 X.prog X.w X.K X.mg X.base Ng x sg g cdg X.A X.stack s H C8.E0).nox bg t ∧ t { nx := fun _ H' => Q .non H', rt := Q } (L2.start Ng [.ref f]) H
section
variable {Z : ZT} {X : Cx}
/-- x(lambda: body) -/
theorem pe_lamZ {T : List (Addr × Str)} {TT : (XK → Hp → VK → Prop) → Hp → VK → Prop} {x a : Str} {st : Stmt} {g c P : Addr} {fd : FuncData} {k : Nat} {Ng : List Str} (zp : ZP Z)
    {params : Arguments} {body : Expr} {scope : Scope} {t : XK → TE} {p lpos pos : Pos} (hg : Gl X x) (hm : X.mg x = some (.ref g)) (F : FnP X.K x x st g fd) (hb : BindN x x st [a]) (Sg : FnScope Ng [a] (defScope st)) (hNg : Ng[0]? = some a) (hva : Vis (defScope st) a)
    (hr : Room (k + 2) X.A) (hG : ∀ cdv, GivesZ Z X Ng x (defScope st) g cdv (defBody st) a (X.env.qual ++ "<lambda>") TT)
    (TB : TabB X.base X.mg c P) (hcode : X.env.code = .ref c) (hmT : (P, X.env.qual ++ "<lambda>") ∈ T) (hu : ∀ p ∈ T, p.1 = P → p.2 = X.env.qual ++ "<lambda>") (L : LamS X.env.scope scope) (hdef : defaultsOf params X.env = ([], []))
    (hbind : ∀ (q : Str) (cl : List (Str × Addr)) (pm cv ctv : Value), bindArgs (PySem.W.kla_fn "<lambda>" q params body scope cl pm cv ctv) ⟨[], []⟩ = pure [])
    (hbody : ∀ (A : Around) (outer : List Env) (s : Shared) (H : Hp) (E : XK) (f c' : Addr), Room k (A.deeper (lamEnv X scope s.heap.objs.size f c')) → PE (lamZ Z X A outer s H E scope f c') body (t E))
    (hdb : (x == ("__debug__" : Str)) = false := by decide) (hd : (a == ("__debug__" : Str)) = false := by decide) (hcd : (a == ("__classdict__" : Str)) = false := by decide) :
    PE X (.Call (.Name x p) [.Lambda params body scope lpos] [] pos) (tLam T TT t) := by
  refine ⟨fun pins s σ H Q I h => ?_⟩
  obtain ⟨hT, h⟩ := h
  have Fb := F.bindsN hb
  obtain ⟨oc, od, dV, kV, doc, pm, an, cdv, ct, osl, rfl, lk, hcg, hD, hK⟩ := F.ex
  obtain ⟨_, rfl⟩ | ⟨e, _⟩ := hD
  rotate_left
  · exact absurd rfl e
  refine wpAny_Call_Name_kw (ld_glob I hg hm ?_ hdb)
  refine PySem.W.callWith_K (h₀ := X.base) I.ok.mod.kin F.kp ?_ (by rfl) (by rfl)
  show wpAny _ _ (spliced ((false, eval (.Lambda params body scope lpos) X.env) :: backTo pos (starEach [] X.env))) _ _ s
  refine Calls.spliced_cons (lam_make2 I TB hcode hmT hu hT hdef (L.has I.ok) fun f c' pm' ctv H1 s' I1 eN T1 hf hfn hfr hco => ?_)
  refine Calls.spliced_nil ⟨I1.kIn, ?_⟩
  have rc : codeAny (model X.prog X.w) X.A (.call (.ref g) ⟨[.ref f], []⟩) (CR C8.CX0 X.stack X.prog X.w H1 s' Q C8.E0) s' := by
    refine run_ofS (N := Ng) (ps := [a]) (us := [.ref f]) (vs := [.ref f]) lk hcg Sg hr I1.env0 (Fb s' [.ref f] I1.kIn rfl) (.cons rfl .nil) rfl fun hr' => ?_
    obtain ⟨t', ht', hq'⟩ := hG cdv f c' s' H1 Q (fun E H' Q' => t E σ H' Q') (fun W pn xe E p1 p2 tk hW => pe_actZ (i := 0) zp I1 L hf hfn hfr (hbind _ _ _ _ _) tk hW hr' (fun A outer s H hr2 => hbody A outer s H E f c' hr2) hNg hva hd hcd) hco (h H1 eN T1)
    exact ⟨t', ht'.nox, hq'⟩
  refine wpAny_call (codeAny_mono rc fun r s2 hq => ?_)
  cases r with
  | error e => exact (show False from hq).elim
  | ok fl =>
    cases fl with
    | ret u => exact I1.after hq
    | next => exact False.elim hq
    | brk => exact False.elim hq
    | cont => exact False.elim hq
end
end Ef

set_option Elab.async false
set_option linter.all false
set_option maxRecDepth 100000
set_option maxHeartbeats 4000000
namespace Ef
open PySem PySem.Spec PyProof.Rows L2 He L2H LamX
/-! ### .. and some facts more -/
structure Top3 (w : World) (K : PySem.W.Frag) (mg : Str → Option Value) : Prop extends Top2 w K mg where
  xfc : ∀ x ∈ xall, XfC K (ga K x)
  exc : ∀ x ∈ xall, ExcC K (ga K x)
  kit_rt : ∀ x ∈ [("NothingToUndo" : Str), "NothingToRedo"], PySem.W.kitOne K (.ref (ga K x)) (.type "RuntimeError") = some true
/-! ### _law_refused -/
theorem sc_refused : FnScope ["_law_call", "e"] ["_law_call"] (defScope s_l_refused) := ⟨rfl, rfl, rfl, by decide +kernel, rfl, by decide +kernel, by decide +kernel⟩
theorem bnd_refused : BindN "_law_refused" "_law_refused" s_l_refused ["_law_call"] := fun _ _ _ _ _ _ us hl => match us, hl with | [_], _ => rfl
/-- None, or something else where an error came -/
def TTref (K : PySem.W.Frag) (ok : Value → Option Addr → Hp → Prop) : (XK → Hp → VK → Prop) → Hp → VK → Prop := fun tl H Q =>
  tl (fun cls d H' => ok cls d H' ∧ ∀ H'' u, Same H' H'' → u ≠ V.non → Q u H'') H fun _ H' => Q .non H'
theorem pln_echo {K : PySem.W.Frag} {H : Hp} {a : Addr} {dl t : V} (ha : H a = some (.tup [dl, t])) (hd : AnyD H dl) (ht : AnyD H t ∨ ∃ R, TabAt K H t R) : Pln K H 21 (.ref a) := by
  refine .tup ha (by show 2 < sizeLine; rw [sizeLine_eq]; decide) fun x hx => ?_
  simp only [List.mem_cons, List.not_mem_nil, or_false] at hx
  have go : ∀ {v : V}, AnyD H v → Pln K H 20 v := fun ⟨b, d, h, s⟩ => .any h s s.dep
  rcases hx with rfl | rfl
  · exact go hd
  · rcases ht with h | ⟨R, h⟩
    · exact go h
    · exact .tab h
section
variable {X : Cx} {Ng : List Str} {x a q : Str} {sg : Scope} {g f c' : Addr} {cdg : Value} {s : Shared} {H : Hp} {pos : Pos}
end
theorem TkZ.len {Z : ZT} {X : Cx} {W : WX} {n : Nat} (hn : X.N.length = n) (tk : TkZ Z X W) : TkZ Z X (fun cls d σ H => σ.length = n → W cls d σ H) := fun u s' ⟨a, B, sI, pins, σ, H, cls, d, e, I, nb, up, sky, na, os, ag, z⟩ =>
  tk u s' ⟨a, B, sI, pins, σ, H, cls, d, e, I, nb, up, sky, na, os, ag, z (I.len.trans hn)⟩
theorem names_of {X : Cx} {x : Str} {c : Addr} (hm : X.mg x = some (.ref c)) (hg : Gl X x := by rfl) (hd : (x == ("__debug__" : Str)) = false := by decide) : Names X x (.ref c) := ⟨hg, hd, .inl hm⟩
section
variable {P : Program} {w : World} {K : PySem.W.Frag} {mg : Str → Option Value} {base : Heap}
theorem str_ne {a b : Str} (h : a ≠ b) : decide (a = b) = false := decide_eq_false h
theorem refused_n {X : Cx} {g : Addr} {q : Str} (T : Top3 X.w X.K X.mg) (hg : X.A.guards = some []) (hr : Room 27 X.A) (cdg : Value) :
    GivesZ L2N.Zn X ["_law_call", "e"] "_law_refused" (defScope s_l_refused) g cdg (defBody s_l_refused) "_law_call" q (TTref X.K fun cls d H' => XOk X.K H' cls d) := by
  intro f c' s H Q tl act hc h
  have hu : (X.A.deeper (envOfC "_law_refused" (defScope s_l_refused) s.heap.objs.size g cdg)).units + 100 < cLine := by
    have := (hr.deeper (envOfC "_law_refused" (defScope s_l_refused) s.heap.objs.size g cdg)).un
    omega
  have hrH : RoomH 24 (X.A.deeper (envOfC "_law_refused" (defScope s_l_refused) s.heap.objs.size g cdg)) := (roomH_of (hr.deeper _)).mono (by decide)
  have inx : ∀ y ∈ xall, y ∈ xall := fun _ h => h
  refine ⟨_, pss_cons (ps_try_asM (X := (cxOf C8.CX0 X.prog X.w X.K X.mg X.base ["_law_call", "e"] "_law_refused" (defScope s_l_refused) g cdg X.A X.stack s H C8.E0).nox) (i := 1) (n := "e") zk_n rfl rfl sc_refused.nd rfl rfl
      (tb := fun W D σ H => ∃ Ech : XK, (∀ cls d σ' H', Ech cls d H' → σ'.length = 2 → W cls d σ' H') ∧ σ[0]? = some (some (.ref f)) ∧ H c' = some (CodeO c' q) ∧ tl Ech H fun _ H' => D.nx σ H')
      (fun W pn xe tk _ => ⟨fun pins s' σ H' D I h' => ?_⟩)
      (.cons (names_of T.xg_InvalidPlace) (fun a oe cls d pn hz hf => pss_one (ps_ret (pe_tup (pa_cons pe_str (pa_cons (pe_callB (call_reprG (X := Cx.suite _ _ _) hg hu) (by rfl) T.b_repr (by decide +kernel) (pa_cons (pe_xf (T.xfc "InvalidPlace" (by decide +kernel)) T.xf_InvalidPlace hz.zc hf (pv 1)) pa_nil)) pa_nil)))))
      (.cons (names_of T.xg_InvalidWishes) (fun a oe cls d pn hz hf => pss_one (ps_ret (pe_tup (pa_cons pe_str (pa_cons (pe_callB (call_reprG (X := Cx.suite _ _ _) hg hu) (by rfl) T.b_repr (by decide +kernel) (pa_cons (pe_xf (T.xfc "InvalidWishes" (by decide +kernel)) T.xf_InvalidWishes hz.zc hf (pv 1)) pa_nil)) pa_nil)))))
      (.cons (names_of T.xg_InvalidNumber) (fun a oe cls d pn hz hf => pss_one (ps_ret (pe_tup (pa_cons pe_str (pa_cons (pe_callB (call_reprG (X := Cx.suite _ _ _) hg hu) (by rfl) T.b_repr (by decide +kernel) (pa_cons (pe_xf (T.xfc "InvalidNumber" (by decide +kernel)) T.xf_InvalidNumber hz.zc hf (pv 1)) pa_nil)) pa_nil)))))
      (.cons (names_of T.xg_TooFar) (fun a oe cls d pn hz hf => pss_one (ps_ret (pe_tup (pa_cons pe_str (pa_cons (pe_xf (T.xfc "TooFar" (by decide +kernel)) T.xf_TooFar hz.zc hf (pv 1)) pa_nil)))))
      (.cons (names_of T.xg_TooLong) (fun a oe cls d pn hz hf => pss_one (ps_ret (pe_tup (pa_cons pe_str (pa_cons (pe_xf (T.xfc "TooLong" (by decide +kernel)) T.xf_TooLong hz.zc hf (pv 1)) pa_nil)))))
      (.cons (names_of T.xg_InvalidEcho) (fun a oe cls d pn hz hf => pss_one (ps_ret (pe_tup (pa_cons pe_str (pa_cons (pe_w (law_plain T.toTop 22) ⟨hrH.dp, hrH.un⟩ hg (.inr ⟨(a, oe), ⟨rfl, hf.choose, hf.choose_spec, hz.2.2 _ hf.choose_spec⟩, List.mem_cons_self⟩) (pa_cons (pe_xf (T.xfc "InvalidEcho" (by decide +kernel)) T.xf_InvalidEcho hz.zc hf (pv 1)) pa_nil)) pa_nil)))))
      (.cons (names_of T.xg_NoEcho) (fun a oe cls d pn hz hf => pss_one (ps_ret (pe_tup (pa_cons pe_str (pa_cons (pe_callB (call_reprG (X := Cx.suite _ _ _) hg hu) (by rfl) T.b_repr (by decide +kernel) (pa_cons (pe_xf (T.xfc "NoEcho" (by decide +kernel)) T.xf_NoEcho hz.zc hf (pv 1)) pa_nil)) pa_nil)))))
      (.cons (names_of T.xg_InvalidDeed) (fun a oe cls d pn hz hf => pss_one (ps_ret (pe_tup (pa_cons pe_str (pa_cons (pe_xf (T.xfc "InvalidDeed" (by decide +kernel)) T.xf_InvalidDeed hz.zc hf (pv 1)) pa_nil)))))
      .nil)))))))))
    (pss_one (ps_ret pe_non)), ?_⟩
  · obtain ⟨Ech, hW, h1, h2, h3⟩ := h'
    exact (pss_one (ps_expr (act _ pn xe Ech _ _ (tk.len rfl) hW))).run pins s' σ H' D I ⟨h1, h2, h3⟩
  · refine ⟨_, fun cls d σ' H' z hl => ?_, rfl, hc, h⟩
    obtain ⟨hx, hq⟩ := z
    have no : ∀ {x y : Str}, x ∈ xall → y ∈ xall → x ≠ y → PySem.W.exmOne X.K (.ref (ga X.K x)) (.ref (ga X.K y)) = some false := fun h1 h2 h3 => by rw [T.exm _ h1 _ h2, decide_eq_false h3]
    have yes : ∀ {x : Str}, x ∈ xall → PySem.W.exmOne X.K (.ref (ga X.K x)) (.ref (ga X.K x)) = some true := fun h1 => by rw [T.exm _ h1 _ h1, decide_eq_true rfl]
    have sl : ∀ {a : Addr}, (σ'.set 1 (some (.ref a)))[1]? = some (some (V.ref a)) := fun {a} => List.getElem?_set_self (by omega)
    have fin : ∀ {b c : V}, ∀ t, H' t = none → Q (.ref t) (upd H' t (.tup [b, c])) := fun t ht => hq _ _ (Same.new ht) (fun z => by cases z)
    cases hx with
    | @place d v hd hv =>
      obtain ⟨b, dd, hs, sm⟩ := hv
      exact ⟨true, yes (by decide +kernel), fun _ a na => ⟨_, sl, rfl, rfl, d, _, v, rfl, hd, lk_hd, b, v, dd, rfl, hs, sm, by show 2 ≤ sizeLine; decide, fin⟩, fun z => nomatch z⟩
    | @wishes d v hd hv =>
      obtain ⟨b, dd, hs, sm⟩ := hv
      refine ⟨false, no (by decide +kernel) (by decide +kernel) (by decide +kernel), (fun z => nomatch z), fun _ => ?_⟩
      exact ⟨true, yes (by decide +kernel), fun _ a na => ⟨_, sl, rfl, rfl, d, _, v, rfl, hd, lk_hd, b, v, dd, rfl, hs, sm, by show 2 ≤ sizeLine; decide, fin⟩, fun z => nomatch z⟩
    | @number d v hd hv =>
      obtain ⟨b, dd, hs, sm⟩ := hv
      refine ⟨false, no (by decide +kernel) (by decide +kernel) (by decide +kernel), (fun z => nomatch z), fun _ => ?_⟩
      refine ⟨false, no (by decide +kernel) (by decide +kernel) (by decide +kernel), (fun z => nomatch z), fun _ => ?_⟩
      exact ⟨true, yes (by decide +kernel), fun _ a na => ⟨_, sl, rfl, rfl, d, _, v, rfl, hd, lk_hd, b, v, dd, rfl, hs, sm, by show 2 ≤ sizeLine; decide, fin⟩, fun z => nomatch z⟩
    | @far d v hd =>
      refine ⟨false, no (by decide +kernel) (by decide +kernel) (by decide +kernel), (fun z => nomatch z), fun _ => ?_⟩
      refine ⟨false, no (by decide +kernel) (by decide +kernel) (by decide +kernel), (fun z => nomatch z), fun _ => ?_⟩
      refine ⟨false, no (by decide +kernel) (by decide +kernel) (by decide +kernel), (fun z => nomatch z), fun _ => ?_⟩
      exact ⟨true, yes (by decide +kernel), fun _ a na => ⟨_, sl, rfl, rfl, d, _, v, rfl, hd, lk_hd, by show 2 ≤ sizeLine; decide, fin⟩, fun z => nomatch z⟩
    | @long d v hd =>
      refine ⟨false, no (by decide +kernel) (by decide +kernel) (by decide +kernel), (fun z => nomatch z), fun _ => ?_⟩
      refine ⟨false, no (by decide +kernel) (by decide +kernel) (by decide +kernel), (fun z => nomatch z), fun _ => ?_⟩
      refine ⟨false, no (by decide +kernel) (by decide +kernel) (by decide +kernel), (fun z => nomatch z), fun _ => ?_⟩
      refine ⟨false, no (by decide +kernel) (by decide +kernel) (by decide +kernel), (fun z => nomatch z), fun _ => ?_⟩
      exact ⟨true, yes (by decide +kernel), fun _ a na => ⟨_, sl, rfl, rfl, d, _, v, rfl, hd, lk_hd, by show 2 ≤ sizeLine; decide, fin⟩, fun z => nomatch z⟩
    | @echo d a2 v dl t hd ev ha hdl ht =>
      subst ev
      refine ⟨false, no (by decide +kernel) (by decide +kernel) (by decide +kernel), (fun z => nomatch z), fun _ => ?_⟩
      refine ⟨false, no (by decide +kernel) (by decide +kernel) (by decide +kernel), (fun z => nomatch z), fun _ => ?_⟩
      refine ⟨false, no (by decide +kernel) (by decide +kernel) (by decide +kernel), (fun z => nomatch z), fun _ => ?_⟩
      refine ⟨false, no (by decide +kernel) (by decide +kernel) (by decide +kernel), (fun z => nomatch z), fun _ => ?_⟩
      refine ⟨false, no (by decide +kernel) (by decide +kernel) (by decide +kernel), (fun z => nomatch z), fun _ => ?_⟩
      refine ⟨true, yes (by decide +kernel), fun _ a na => ⟨_, sl, rfl, rfl, d, _, _, rfl, hd, lk_hd, _, rfl, pln_echo ha hdl ht, fun H'' u s2 => ⟨by show 2 ≤ sizeLine; decide, fun t ht => hq _ _ (Same.snd s2 ht) (fun z => by cases z)⟩⟩, fun z => nomatch z⟩
    | @noecho d v hd hv =>
      obtain ⟨b, dd, hs, sm⟩ := hv
      refine ⟨false, no (by decide +kernel) (by decide +kernel) (by decide +kernel), (fun z => nomatch z), fun _ => ?_⟩
      refine ⟨false, no (by decide +kernel) (by decide +kernel) (by decide +kernel), (fun z => nomatch z), fun _ => ?_⟩
      refine ⟨false, no (by decide +kernel) (by decide +kernel) (by decide +kernel), (fun z => nomatch z), fun _ => ?_⟩
      refine ⟨false, no (by decide +kernel) (by decide +kernel) (by decide +kernel), (fun z => nomatch z), fun _ => ?_⟩
      refine ⟨false, no (by decide +kernel) (by decide +kernel) (by decide +kernel), (fun z => nomatch z), fun _ => ?_⟩
      refine ⟨false, no (by decide +kernel) (by decide +kernel) (by decide +kernel), (fun z => nomatch z), fun _ => ?_⟩
      exact ⟨true, yes (by decide +kernel), fun _ a na => ⟨_, sl, rfl, rfl, d, _, v, rfl, hd, lk_hd, b, v, dd, rfl, hs, sm, by show 2 ≤ sizeLine; decide, fin⟩, fun z => nomatch z⟩
/-- .. where InvalidDeed alone may come -/
theorem refused_c {X : Cx} {g : Addr} {q : Str} (T : Top3 X.w X.K X.mg) (cdg : Value) :
    GivesZ L2.Zc X ["_law_call", "e"] "_law_refused" (defScope s_l_refused) g cdg (defBody s_l_refused) "_law_call" q (TTref X.K fun cls d H' => cls = .ref (ga X.K "InvalidDeed") ∧ ∃ (dd : Addr) (v : V), d = some dd ∧ H' dd = some (.xd [(("index" : Str), v)])) := by
  intro f c' s H Q tl act hc h
  refine ⟨_, pss_cons (ps_try_asM (X := (cxOf C8.CX0 X.prog X.w X.K X.mg X.base ["_law_call", "e"] "_law_refused" (defScope s_l_refused) g cdg X.A X.stack s H C8.E0).nox) (i := 1) (n := "e") zk_c rfl rfl sc_refused.nd rfl rfl
      (tb := fun W D σ H => ∃ Ech : XK, (∀ cls d σ' H', Ech cls d H' → σ'.length = 2 → W cls d σ' H') ∧ σ[0]? = some (some (.ref f)) ∧ H c' = some (CodeO c' q) ∧ tl Ech H fun _ H' => D.nx σ H')
      (fun W pn xe tk _ => ⟨fun pins s' σ H' D I h' => ?_⟩)
      (.cons (names_of T.xg_InvalidPlace) (fun a oe cls d pn hz hf => pss_one ps_never)
      (.cons (names_of T.xg_InvalidWishes) (fun a oe cls d pn hz hf => pss_one ps_never)
      (.cons (names_of T.xg_InvalidNumber) (fun a oe cls d pn hz hf => pss_one ps_never)
      (.cons (names_of T.xg_TooFar) (fun a oe cls d pn hz hf => pss_one ps_never)
      (.cons (names_of T.xg_TooLong) (fun a oe cls d pn hz hf => pss_one ps_never)
      (.cons (names_of T.xg_InvalidEcho) (fun a oe cls d pn hz hf => pss_one ps_never)
      (.cons (names_of T.xg_NoEcho) (fun a oe cls d pn hz hf => pss_one ps_never)
      (.cons (names_of T.xg_InvalidDeed) (fun a oe cls d pn hz hf => pss_one (ps_ret (pe_tup (pa_cons pe_str (pa_cons (pe_xf (T.xfc "InvalidDeed" (by decide +kernel)) T.xf_InvalidDeed hz hf (pv 1)) pa_nil)))))
      .nil)))))))))
    (pss_one (ps_ret pe_non)), ?_⟩
  · obtain ⟨Ech, hW, h1, h2, h3⟩ := h'
    exact (pss_one (ps_expr (act _ pn xe Ech _ _ (tk.len rfl) hW))).run pins s' σ H' D I ⟨h1, h2, h3⟩
  · refine ⟨_, fun cls d σ' H' z hl => ?_, rfl, hc, h⟩
    obtain ⟨⟨rfl, dd, v, rfl, hd⟩, hq⟩ := z
    have no : ∀ {x y : Str}, x ∈ xall → y ∈ xall → x ≠ y → PySem.W.exmOne X.K (.ref (ga X.K x)) (.ref (ga X.K y)) = some false := fun h1 h2 h3 => by rw [T.exm _ h1 _ h2, decide_eq_false h3]
    have yes : ∀ {x : Str}, x ∈ xall → PySem.W.exmOne X.K (.ref (ga X.K x)) (.ref (ga X.K x)) = some true := fun h1 => by rw [T.exm _ h1 _ h1, decide_eq_true rfl]
    have sl : ∀ {a : Addr}, (σ'.set 1 (some (.ref a)))[1]? = some (some (V.ref a)) := fun {a} => List.getElem?_set_self (by omega)
    refine ⟨false, no (by decide +kernel) (by decide +kernel) (by decide +kernel), (fun z => nomatch z), fun _ => ?_⟩
    refine ⟨false, no (by decide +kernel) (by decide +kernel) (by decide +kernel), (fun z => nomatch z), fun _ => ?_⟩
    refine ⟨false, no (by decide +kernel) (by decide +kernel) (by decide +kernel), (fun z => nomatch z), fun _ => ?_⟩
    refine ⟨false, no (by decide +kernel) (by decide +kernel) (by decide +kernel), (fun z => nomatch z), fun _ => ?_⟩
    refine ⟨false, no (by decide +kernel) (by decide +kernel) (by decide +kernel), (fun z => nomatch z), fun _ => ?_⟩
    refine ⟨false, no (by decide +kernel) (by decide +kernel) (by decide +kernel), (fun z => nomatch z), fun _ => ?_⟩
    refine ⟨false, no (by decide +kernel) (by decide +kernel) (by decide +kernel), (fun z => nomatch z), fun _ => ?_⟩
    exact ⟨true, yes (by decide +kernel), fun _ a na => ⟨_, sl, rfl, rfl, dd, _, v, rfl, hd, lk_hd, by show 2 ≤ sizeLine; decide, fun t ht => hq _ _ (Same.new ht) (fun z => by cases z)⟩, fun z => nomatch z⟩
end
end Ef

set_option Elab.async false
set_option linter.all false
set_option maxRecDepth 100000
set_option maxHeartbeats 4000000
namespace Ef
open PySem PySem.Spec PyProof.Rows L2 He L2H LamX
/-! ### _law_moved -/
theorem sc_moved : FnScope ["_law_call", "e"] ["_law_call"] (defScope s_l_moved) := ⟨rfl, rfl, rfl, by decide +kernel, rfl, by decide +kernel, by decide +kernel⟩
theorem bnd_moved : BindN "_law_moved" "_law_moved" s_l_moved ["_law_call"] := fun _ _ _ _ _ _ us hl => match us, hl with | [_], _ => rfl
theorem call_isE' {X : Cx} {a D : Addr} {cls : Value} {d : Option Addr} {oe : Obj} {pn : List (Addr × Obj)} (C : ExcC X.K D) (hz : Zc cls d oe) (hf : ∃ vs, oe.data = .fields vs) :
    CallR (X.suite a ((a, oe) :: pn)) (.builtin "isinstance") (fun xs H Q => cls = .ref D ∧ d = none ∧ rIsE X.K D a xs H Q) := by
  intro pins s σ H xs us Q I r h
  obtain ⟨rfl, rfl, h⟩ := h
  exact call_isE C hz hf pins s σ H xs us Q I r h
/-- the text of what was moved, or the word of the error -/
def TTmov (K : PySem.W.Frag) : (XK → Hp → VK → Prop) → Hp → VK → Prop := fun tl H Q =>
  tl (fun cls d H' => d = none ∧ ((cls = .ref (ga K "NothingToUndo") ∧ Q (.str "undo") H') ∨ (cls = .ref (ga K "NothingToRedo") ∧ Q (.str "redo") H'))) H fun v H' => rRepr [v] H' Q
theorem repr_non {H : Hp} {Q : VK} (q : Q (.str "None") H) : rRepr [V.non] H Q :=
  ⟨true, .non, .none, rfl, .non, ⟨rfl, by show ("None" : Str).length ≤ _; decide +kernel, by decide⟩, by simpa only [PyData.shown] using q⟩
theorem moved_c {X : Cx} {g : Addr} {q : Str} (T : Top3 X.w X.K X.mg) (hg : X.A.guards = some []) (hr : Room 2 X.A) (cdg : Value) :
    GivesZ L2.Zc X ["_law_call", "e"] "_law_moved" (defScope s_l_moved) g cdg (defBody s_l_moved) "_law_call" q (TTmov X.K) := by
  intro f c' s H Q tl act hc h
  have hu : (X.A.deeper (envOfC "_law_moved" (defScope s_l_moved) s.heap.objs.size g cdg)).units + 100 < cLine := by
    have := (hr.deeper (envOfC "_law_moved" (defScope s_l_moved) s.heap.objs.size g cdg)).un
    omega
  refine ⟨_, pss_one (ps_try_asM (X := (cxOf C8.CX0 X.prog X.w X.K X.mg X.base ["_law_call", "e"] "_law_moved" (defScope s_l_moved) g cdg X.A X.stack s H C8.E0).nox) (i := 1) (n := "e") zk_c rfl rfl sc_moved.nd rfl rfl
      (tb := fun W D σ H => ∃ Ech : XK, (∀ cls d σ' H', Ech cls d H' → σ'.length = 2 → W cls d σ' H') ∧ σ[0]? = some (some (.ref f)) ∧ H c' = some (CodeO c' q) ∧ tl Ech H fun v H' => rRepr [v] H' D.rt)
      (fun W pn xe tk _ => ⟨fun pins s' σ H' D I h' => ?_⟩)
      (.cons (names_of T.xg_NothingToUndo) (fun a oe cls d pn hz hf => pss_one (ps_ret (pe_ifExp (pt_val (pe_callB (call_isE' (T.exc "NothingToUndo" (by decide +kernel)) hz hf) (by rfl) T.b_isinstance (by decide +kernel) (pa_cons (pv 1) (pa_cons (pe_bltn (v := .ty "RuntimeError") (by rfl) T.b_RuntimeError (by decide +kernel) rfl) pa_nil)))) pe_str pe_str)))
      (.cons (names_of T.xg_NothingToRedo) (fun a oe cls d pn hz hf => pss_one (ps_ret (pe_ifExp (pt_val (pe_callB (call_isE' (T.exc "NothingToRedo" (by decide +kernel)) hz hf) (by rfl) T.b_isinstance (by decide +kernel) (pa_cons (pv 1) (pa_cons (pe_bltn (v := .ty "RuntimeError") (by rfl) T.b_RuntimeError (by decide +kernel) rfl) pa_nil)))) pe_str pe_str)))
      .nil))), ?_⟩
  · obtain ⟨Ech, hW, h1, h2, h3⟩ := h'
    exact (pss_one (ps_ret (pe_callB (X := (cxOf C8.CX0 X.prog X.w X.K X.mg X.base ["_law_call", "e"] "_law_moved" (defScope s_l_moved) g cdg X.A X.stack s H C8.E0).tr pn xe) (call_reprG hg hu) (by rfl) T.b_repr (by decide +kernel) (pa_cons (act _ pn xe Ech _ _ (tk.len rfl) hW) pa_nil)))).run pins s' σ H' D I ⟨h1, h2, h3⟩
  · refine ⟨_, fun cls d σ' H' z hl => ?_, rfl, hc, h⟩
    have no : ∀ {x y : Str}, x ∈ xall → y ∈ xall → x ≠ y → PySem.W.exmOne X.K (.ref (ga X.K x)) (.ref (ga X.K y)) = some false := fun h1 h2 h3 => by rw [T.exm _ h1 _ h2, decide_eq_false h3]
    have yes : ∀ {x : Str}, x ∈ xall → PySem.W.exmOne X.K (.ref (ga X.K x)) (.ref (ga X.K x)) = some true := fun h1 => by rw [T.exm _ h1 _ h1, decide_eq_true rfl]
    have sl : ∀ {a : Addr}, (σ'.set 1 (some (.ref a)))[1]? = some (some (V.ref a)) := fun {a} => List.getElem?_set_self (by omega)
    obtain ⟨rfl, ⟨rfl, z⟩ | ⟨rfl, z⟩⟩ := z
    · exact ⟨true, yes (by decide +kernel), fun _ a na => ⟨.ref a, sl, rfl, rfl, .ty "RuntimeError", .type "RuntimeError", true, rfl, fun u r => r, T.kit_rt _ (by simp), _, rfl, itT rfl z⟩, fun z => nomatch z⟩
    · refine ⟨false, no (by decide +kernel) (by decide +kernel) (by decide +kernel), (fun z => nomatch z), fun _ => ?_⟩
      exact ⟨true, yes (by decide +kernel), fun _ a na => ⟨.ref a, sl, rfl, rfl, .ty "RuntimeError", .type "RuntimeError", true, rfl, fun u r => r, T.kit_rt _ (by simp), _, rfl, itT rfl z⟩, fun z => nomatch z⟩
end Ef

set_option Elab.async false
set_option linter.all false
set_option maxRecDepth 100000
set_option maxHeartbeats 4000000
namespace Ef
open PySem PySem.Spec PyProof.Rows L2 He L2H
/-! ### t + u, t[:i], t[i + 1:], the road not told -/
def rCatS : R2 := fun x y H Q => ∃ a b xs ys, x = .ref a ∧ y = .ref b ∧ H a = some (.tup xs) ∧ H b = some (.tup ys) ∧ xs.length + ys.length ≤ sizeLine ∧ ∀ z H', Same H H' → H' z = some (.tup (xs ++ ys)) → Q (.ref z) H'
theorem op_catS {X : Cx} : OpR X (binaryOp .Add) rCatS := by
  intro pins s σ H x y v u Q I rx ry h
  obtain ⟨a, b, xs, ys, rfl, rfl, ha, hb, hz, q⟩ := h
  refine op_catA pins s σ H _ _ v u Q I rx ry ⟨a, b, xs, ys, rfl, rfl, SqT.of ha, SqT.of hb, hz, fun e => ?_, fun _ e => ?_, fun _ _ p hp => q p _ (Same.new hp) upd_same⟩
  · subst e
    exact q b H (Same.refl H) hb
  · subst e
    exact q a H (Same.refl H) (by rw [List.append_nil]; exact ha)
theorem cut_take {xs : List V} {i : Nat} (h : i ≤ xs.length) : cutV xs none (some (i : Int)) = xs.take i := by
  unfold cutV
  rw [HT.sIx_none, HT.sIx_nat, List.drop_zero, Nat.sub_zero, Nat.min_eq_left h]
theorem cut_drop {xs : List V} {i : Nat} (h : i ≤ xs.length) : cutV xs (some (i : Int)) none = xs.drop i := by
  unfold cutV
  rw [HT.sIx_none, HT.sIx_nat, Nat.min_eq_left h, List.take_of_length_le (by rw [List.length_drop]; exact Nat.le_refl _)]
theorem erase_eq {α : Type} : ∀ (xs : List α) (i : Nat), xs.take i ++ xs.drop (i + 1) = xs.eraseIdx i
  | [], i => by simp
  | a :: r, 0 => rfl
  | a :: r, i + 1 => by
    show a :: (r.take i ++ r.drop (i + 1)) = a :: r.eraseIdx i
    rw [erase_eq r i]
theorem not_whole1 {n i : Nat} (h : i < n) : ¬ (HT.sIx n 0 none = 0 ∧ HT.sIx n n (some (i : Int)) = n) := fun z => by
  have := z.2
  rw [HT.sIx_nat] at this
  omega
theorem not_whole2 {n i : Nat} (h : i < n) : ¬ (HT.sIx n 0 (some ((i + 1 : Nat) : Int)) = 0 ∧ HT.sIx n n none = n) := fun z => by
  have := z.1
  rw [HT.sIx_nat] at this
  omega
/-! ### the law's wishes without one place -/
theorem put_fil {W : Int → Option V} {i : Int} {v : V} : putW (filW (neP i) W) i v = putW W i v := funext fun j => by
  unfold putW filW neP
  by_cases h : j = i
  · rw [if_pos h, if_pos h]
  · rw [if_neg h, if_neg h]
    simp [h]
theorem fil_at {W : Int → Option V} {i : Int} : filW (neP i) W i = none := by
  unfold filW neP
  simp
theorem InW.fil {n : Int} {W : Int → Option V} (h : InW n W) (p : Int → Bool) : InW n (filW p W) := fun i v e => by
  unfold filW at e
  split at e
  · exact h i v e
  · cases e
/-! ### what a song's echoes and one more are worth -/
theorem echo_fit {s : Sg} (ok : OkSg s) {dl : V} {o : Option Rw} : echoesOk s.k s.n (s.es.map vE ++ [(dl, o)]) = (decide (s.es.length ≤ 1) && vEcho s.k (dl, o) && (!decide (s.es.length = 1) || decide (s.n ≤ (s.es.map (·.1)).sum + dI dl))) := by
  have h1 : ((s.es.map vE).all (vEcho s.k)) = true := List.all_eq_true.mpr fun e he => by
    obtain ⟨f, hf, rfl⟩ := List.mem_map.mp he
    exact vE_ok ok hf
  have h2 : reachE (s.es.map vE ++ [(dl, o)]) = (s.es.map (·.1)).sum + dI dl := by
    have z := reach_map s.es
    unfold reachE at z ⊢
    rw [List.map_append, List.sum_append, z]
    simp
  unfold echoesOk
  rw [List.all_append, h1, h2, List.length_append, List.length_map]
  simp
end Ef

set_option Elab.async false
set_option linter.all false
set_option maxRecDepth 100000
set_option maxHeartbeats 4000000
namespace Ef
open PySem PySem.Spec PyProof.Rows L2 He L2H
abbrev nBeh : List Str := ["_law_song_here", "_law_wishes", "_law_deed_here", "_law_word", "_law_thing", "_law_letters", "_law_length", "_law_echoes", "_law_later", "_law_fits", "_law_place"]
theorem bnd_behind : BindN "_law_behind" "_law_behind" s_l_behind ["_law_song_here", "_law_wishes", "_law_deed_here"] := fun _ _ _ _ _ _ us hl => match us, hl with | [_, _, _], _ => rfl
theorem sc_behind : FnScope nBeh ["_law_song_here", "_law_wishes", "_law_deed_here"] (defScope s_l_behind) := ⟨rfl, rfl, rfl, by decide +kernel, rfl, by decide +kernel, by decide +kernel⟩
def tWo : TE := fun σ H Q => ∃ (u0 u2 u3 u5 u6 u7 u8 u9 u10 : Option V) (wa : Addr) (kvs : List (Key × V)) (W : Int → Option V) (i n : Int), σ = [u0, some (.ref wa), u2, u3, some (.int i), u5, u6, u7, u8, u9, u10] ∧ H wa = some (.dK kvs) ∧ WK kvs W ∧ InW n W ∧ 0 ≤ n ∧ n ≤ 40 ∧
  ∀ dn H', Same H H' → H dn = none → H' dn = some (.dK (filK (neP i) kvs)) → Q (.ref dn) H'
def pBehind (K : PySem.W.Frag) (sv wv dv : V) (H : Hp) (Q : VK) (_ : XK) : Prop := ∃ s W d, LSong H sv s ∧ OkSg s ∧ WAt H wv W ∧ InW s.n W ∧ DeedAt K H dv d ∧ ∀ H' v, Same H H' → BehOk H' v (okD s d) sv wv (sgD s d) (wD W d) → Q v H'
section
variable {P : Program} {w : World} {K : PySem.W.Frag} {mg : Str → Option Value} {base : Heap}
theorem law_behind (T : Top3 w K mg) : ClG P w K mg base CX0 25 "_law_behind" (sp3 (pBehind K)) := by
  have T1 : Top K mg := T.toTop
  obtain ⟨fd, F⟩ := T1.d_l_behind
  refine ClG.of T1.g_l_behind F (raw_ofG F sc_behind bnd_behind len3 fun cdv A outer s0 H vs Q E hr hgd h => ?_)
  obtain ⟨sv, wv, dv, rfl, s, W, d, hs, ok, hw, hin, hd, q⟩ := h
  have nd := sc_behind.nd
  have hu := hu_of hr
  have hr1 : Room 1 _ := hr.mono (by decide)
  have hr2 : Room 2 _ := hr.mono (by decide)
  have hr3 : Room 3 _ := hr.mono (by decide)
  suffices hh : ∃ t, PSs (cxB CX0 P w K mg base nBeh "_law_behind" s_l_behind (ga K "_law_behind") cdv A outer s0 H E).nox (defBody s_l_behind) t ∧ t { nx := fun _ H' => Q .non H', rt := Q } (L2.start nBeh [sv, wv, dv]) H by
    obtain ⟨t, ht, hq⟩ := hh
    exact ⟨t, ht.nox, hq⟩
  refine ⟨_, pss_cons (ps_asg (pe_tup (pa_cons (pe_ix ix_tup (pv 2) pe_int (fun _ _ => rfl)) (pa_cons (pe_ix ix_tup (pv 2) pe_int (fun _ _ => rfl)) pa_nil))) (pg_tup rfl (pgs_cons (pg_name (i := 3) nd rfl (.inl rfl)) (pgs_cons (pg_name (i := 4) nd rfl (.inr rfl)) pgs_nil))))
    (pss_cons (ps_asg (pv 0) (pg_tup rfl (pgs_cons (pg_name (i := 5) nd rfl (.inl rfl)) (pgs_cons (pg_name (i := 6) nd rfl (.inl rfl)) (pgs_cons (pg_name (i := 7) nd rfl (.inl rfl)) pgs_nil)))))
    (pss_cons (ps_if (pt_cmpR op_in_seq (pv 3) (pe_tup (pa_cons pe_str (pa_cons pe_str pa_nil))) (by rfl))
      (pss_cons (ps_if (pt_not (pt_val (pe_f (law_is_integer T1) hr1 pass0 (pa_cons (pv 4) (pa_cons pe_int (pa_cons (pe_op op_sub (pv 6) pe_int) pa_nil)))))) (pss_one (ps_ret (pe_tup (pa_cons (pe_tup (pa_cons pe_str (pa_cons (pe_repr hgd hr T1.b_repr (by rfl) (pa_cons (pv 4) pa_nil)) pa_nil))) (pa_cons (pv 0) (pa_cons (pv 1) pa_nil)))))) pss_nil)
      (pss_cons (ps_set (i := 8) nd rfl (.inl rfl) (pe_weak (t' := tWo) (pe_callTy (call_dictP rfl) (by rfl) T1.b_dict (by decide +kernel) (pa_cons (pe_lock (pe_lc (own := [("_law_place", 10)]) (g := gName 10) (te := tTup (tCons (tVar 10) (tCons (tDGet (tVar 1) (tVar 10)) tNil))) rfl nd (pi_keys (pv 1)) (blkOk_by (N := nBeh) (sc := defScope s_l_behind) (by decide +kernel))
        (fun _ _ _ _ _ => pg_name (i := 10) nd rfl (.inl rfl)) (fun _ _ _ _ _ => pts_one (pt_cmp (pc_neI (pv 10) (pv 4)))) (fun _ _ _ _ _ => pe_tup (pa_cons (pv 10) (pa_cons (pe_dget (by exact hu) (pv 1) (pv 10) (by intro _ _; rfl)) pa_nil))))) pa_nil)) (fun σ H3 Q q => by
      obtain ⟨u0, u2, u3, u5, u6, u7, u8, u9, u10, wa, kvs, W, i, n, rfl, ha3, wk, hin, n0, n40, q⟩ := q
      have hz := wk.len hin n0
      refine ⟨wa, _, ha3, True.intro, fun od => ?_⟩
      refine ⟨_, rfl, wa, od, rfl, .inl ⟨kvs, upd_same, fun D nD => lc_it (walk_keys (d := wa) (o := od) (kvs := kvs)) (fun j H2 => PW1 H3 wa D od kvs (neP i) j H2) (PW1.start nD) (fun j H2 _ h => h.s _ _ upd_same) ?_ ?_⟩⟩
      · rintro j x H2 H4 hj inv ⟨rfl, k, v, hkv, rfl⟩
        obtain ⟨jj, ek, hW, _⟩ := wk.item hkv
        have ek : k = .inl jj := ek
        subst ek
        refine ⟨rfl, ?_⟩
        refine ⟨_, rfl, _, rfl, _, _, rfl, rfl, _, rfl, ?_⟩
        by_cases hji : jj = i
        · exact itF (by simp [hji]) (inv.skip hkv (by simp [keyP, neP, hji]))
        · obtain ⟨ps, hd, hps⟩ := inv.d
          have hfz := inv.s _ _ (upd_same (H := H3) (a := wa) (o := .frz od (.dK kvs)))
          have dg : DGet H4 wa (.int jj) (some v) := .inl ⟨kvs, .inl jj, .inr ⟨od, hfz⟩, rfl, by rw [wk.at_]; exact hW.symm⟩
          refine itT (by simp [hji]) ⟨_, rfl, _, rfl, _, rfl, wa, v, rfl, dg, by show 2 ≤ sizeLine; decide, fun t ht => ⟨_, (Same.new ht) _ _ hd, ?_, inv.step nD hd hps hkv (by simp [keyP, neP, hji]) ht⟩⟩
          have h1 := Paired.length hps
          have h2 := fil_len (p := neP i) (kvs := kvs.take j)
          rw [List.length_take] at h2
          rw [List.length_map, sizeLine_eq]
          omega
      · rintro H2 inv
        obtain ⟨ps, hd, hps⟩ := inv.d
        rw [List.take_length] at hps
        have hfz := inv.s _ _ (upd_same (H := H3) (a := wa) (o := .frz od (.dK kvs)))
        have nDa : D ≠ wa := fun z => by
          rw [z, upd_same] at nD
          cases nD
        have hps2 : PairsAt (upd H2 wa (.dK kvs)) ps (filK (neP i) kvs) := paired_mono hps fun a kv z => by
          have z : H2 a = some (.tup [kV kv.1, kv.2]) := z
          show (upd H2 wa (.dK kvs)) a = _
          rw [upd_ne (ne_of z hfz (by intro y; cases y))]
          exact z
        refine ⟨hfz, D, ps, filK (neP i) kvs, rfl, SqL.of (by rw [upd_ne nDa]; exact hd), paired_mono hps2 fun a kv z => SqT.of z, fun dn hdn => ?_⟩
        rw [(wk.fil (neP i)).merge]
        exact q dn _ (Same.snd (Same.unlock ha3 inv.s) hdn) (none_same (Same.unlock ha3 inv.s) hdn) upd_same)))
      (pss_cons (ps_if (PW.pt (pw_and (pt_cmpR op_eq (pv 3) pe_str (nomark _)) (pw_and1 (pt_not (pt_val (pe_f (law_are_wishes T1) hr2 pass0 (pa_cons (pv 0) (pa_cons (pe_disp (pps_cons (pv 4) (pe_ix ix_tup (pv 2) pe_int (fun _ _ => rfl)) pps_nil) (by rfl) (by rfl) (fun z => by cases z) (by decide)) pa_nil)))))))) (pss_one (ps_ret (pe_tup (pa_cons (pe_tup (pa_cons pe_str (pa_cons (pe_repr hgd hr T1.b_repr (by rfl) (pa_cons (pe_ix ix_tup (pv 2) pe_int (fun _ _ => rfl)) pa_nil)) pa_nil))) (pa_cons (pv 0) (pa_cons (pv 1) pa_nil)))))) pss_nil)
      (pss_cons (ps_if (pt_cmpR op_eq (pv 3) pe_str (nomark _)) (pss_one (ps_dput hu (pv 8) (pv 4) (pe_ix ix_tup (pv 2) pe_int (fun _ _ => rfl)) rfl)) pss_nil)
      (pss_one (ps_ret (pe_tup (pa_cons pe_non (pa_cons (pv 0) (pa_cons (pv 8) pa_nil)))))))))) pss_nil)
    (pss_cons (ps_if (pt_cmpR op_eq (pv 3) pe_str (nomark _)) (pss_one (ps_ret (pe_g (law_lengthened T1) hr3 hgd pass0 (pa_cons (pv 0) (pa_cons (pv 1) (pa_cons (pv 4) pa_nil)))))) pss_nil)
    (pss_cons (ps_if (pt_cmpR op_eq (pv 3) pe_str (nomark _))
      (pss_cons (ps_if (pt_not (pt_val (pe_f (law_is_integer T1) hr1 pass0 (pa_cons (pv 4) (pa_cons pe_int (pa_cons (pe_op op_sub (pe_callB call_len (by rfl) T1.b_len (by decide +kernel) (pa_cons (pv 7) pa_nil)) pe_int) pa_nil)))))) (pss_one (ps_ret (pe_tup (pa_cons (pe_tup (pa_cons pe_str (pa_cons (pe_repr hgd hr T1.b_repr (by rfl) (pa_cons (pv 4) pa_nil)) pa_nil))) (pa_cons (pv 0) (pa_cons (pv 1) pa_nil)))))) pss_nil)
      (pss_one (ps_ret (pe_tup (pa_cons pe_non (pa_cons (pe_f (law_with_echoes T1) hr1 pass0 (pa_cons (pv 0) (pa_cons (pv 6) (pa_cons (pe_op op_catS (pe_slice sl_tup (pv 7) po_none (po_some (pv 4))) (pe_slice sl_tup (pv 7) (po_some (pe_op op_add (pv 4) pe_int)) po_none)) pa_nil)))) (pa_cons (pv 1) pa_nil))))))) pss_nil)
    (pss_cons (ps_set (i := 9) nd rfl (.inl rfl) (pe_and (pe_f (law_is_integer T1) hr1 pass0 (pa_cons (pv 4) (pa_cons pe_int (pa_cons (pe_op op_pow pe_int pe_int) pa_nil)))) (pe_and (pe_callB (call_isTab T1.kt) (by rfl) T1.b_isinstance (by decide +kernel) (pa_cons (pe_ix ix_tup (pv 2) pe_int (fun _ _ => rfl)) (pa_cons (pe_glob (v := .ref (ga K "Table")) (by rfl) T1.g_Table rfl) pa_nil))) (pe_one (pe_cmp (pc_lt (pe_callB call_len (by rfl) T1.b_len (by decide +kernel) (pa_cons (pv 7) pa_nil)) pe_int) rfl)))))
    (pss_cons (ps_if (PW.pt (pw_or (pt_not (pt_val (pv 9))) (pw_or1 (pt_cmpR op_ne (pe_p T1.c_Table (Table_letters T1) hr2 pass0 (pe_ix ix_tup (pv 2) pe_int (fun _ _ => rfl))) (pv 5) (nomark _))))) (pss_one (ps_ret (pe_tup (pa_cons (pe_tup (pa_cons pe_str (pa_cons (pe_w (law_plain T1 22) (roomH_of hr) hgd (.inl hr.hd) (pa_cons (pe_tup (pa_cons (pv 4) (pa_cons (pe_ix ix_tup (pv 2) pe_int (fun _ _ => rfl)) pa_nil))) pa_nil)) pa_nil))) (pa_cons (pv 0) (pa_cons (pv 1) pa_nil)))))) pss_nil)
    (pss_cons (ps_set (i := 8) nd rfl (.inl rfl) (pe_op op_catS (pv 7) (pe_tup (pa_cons (pe_tup (pa_cons (pv 4) (pa_cons (pe_p T1.c_Table (Table_rows T1) hr2 pass0 (pe_ix ix_tup (pv 2) pe_int (fun _ _ => rfl))) pa_nil))) pa_nil))))
    (pss_cons (ps_if (PW.pt (pw_and (pt_cmpR op_eq (pe_callB call_len (by rfl) T1.b_len (by decide +kernel) (pa_cons (pv 8) pa_nil)) pe_int (nomark _)) (pw_and1 (pt_cmp (pc_gt (pv 6) (pe_op op_add (pe_ix ix_tup (pe_ix ix_tup (pv 8) pe_int (fun _ _ => rfl)) pe_int (fun _ _ => rfl)) (pv 4))))))) (pss_one (ps_ret (pe_tup (pa_cons (pe_tup (pa_cons pe_str (pa_cons (pe_op op_add (pe_ix ix_tup (pe_ix ix_tup (pv 8) pe_int (fun _ _ => rfl)) pe_int (fun _ _ => rfl)) (pv 4)) pa_nil))) (pa_cons (pv 0) (pa_cons (pv 1) pa_nil)))))) pss_nil)
    (pss_one (ps_ret (pe_tup (pa_cons pe_non (pa_cons (pe_f (law_with_echoes T1) hr1 pass0 (pa_cons (pv 0) (pa_cons (pv 6) (pa_cons (pv 8) pa_nil)))) (pa_cons (pv 1) pa_nil)))))))))))))), ?_⟩
  obtain ⟨sa, sb, sxs, rfl, hsa, hsb, hse⟩ := id hs
  obtain ⟨wa, kvs, rfl, hwa, wk⟩ := id hw
  have bad : okD s d = false → ∀ (H1 : Hp) (t r : Addr) (xs : List V), Same H H1 → H1 t = none → (upd H1 t (.tup xs)) r = none → Q (.ref r) (upd (upd H1 t (.tup xs)) r (.tup [.ref t, .ref sa, .ref wa])) := fun hb H1 t r xs s1 ht hr =>
    q _ _ (Same.snd (Same.snd s1 ht) hr) ⟨r, .ref t, _, _, rfl, upd_same, by rw [hb]; rfl, (fun z => by rw [hb] at z; cases z), fun _ => ⟨rfl, rfl⟩⟩
  have good : okD s d = true → ∀ (H1 : Hp) (r : Addr) (sv' wv' : V), Same H H1 → H1 r = none → LSong H1 sv' (sgD s d) → WAt H1 wv' (wD W d) → Q (.ref r) (upd H1 r (.tup [.non, sv', wv'])) := fun hb H1 r sv' wv' s1 hr h1 h2 =>
    q _ _ (Same.snd s1 hr) ⟨r, .non, _, _, rfl, upd_same, by rw [hb]; rfl, fun _ => ⟨h1.same (Same.new hr), h2.same (Same.new hr)⟩, fun z => by rw [hb] at z; cases z⟩
  have hsl : sxs.length = s.es.length := Paired.length hse
  have hn1 := ok.n1
  have hn40 := ok.n40
  have hl2 := ok.l2
  obtain ⟨a, x, th, more, rfl, ha⟩ : ∃ a x th more, dv = .ref a ∧ H a = some (.tup (.str x :: th :: more)) := by
    cases d with
    | wish pl pr o => obtain ⟨a, e, h, _⟩ := hd; exact ⟨a, _, _, _, e, h⟩
    | free pl => obtain ⟨a, e, h, _⟩ := hd; exact ⟨a, _, _, _, e, h⟩
    | len pl => obtain ⟨a, e, h, _⟩ := hd; exact ⟨a, _, _, _, e, h⟩
    | echo dl t o => obtain ⟨a, e, h, _⟩ := hd; exact ⟨a, _, _, _, e, h⟩
    | drop pl => obtain ⟨a, e, h, _⟩ := hd; exact ⟨a, _, _, _, e, h⟩
  refine ⟨_, rfl, a, _, 0, _, rfl, rfl, SqT.of ha, atI_nat (j := 0) rfl, _, rfl, a, _, 1, _, rfl, rfl, SqT.of ha, atI_nat (j := 1) rfl, by show 2 ≤ sizeLine; decide, fun t ht => ⟨t, _, rfl, SqT.of upd_same, rfl, _, _, rfl, _, _, rfl, ⟨rfl, ?_⟩⟩⟩
  have s1 := Same.new (o := .tup [V.str x, th]) ht
  refine ⟨_, rfl, sa, _, rfl, SqT.of (s1 _ _ hsa), rfl, _, _, rfl, _, _, rfl, _, _, rfl, ⟨rfl, ?_⟩⟩
  refine ⟨_, rfl, by show 2 ≤ sizeLine; decide, fun p hp => ?_⟩
  have s2 := Same.trans s1 (Same.new (o := .tup [V.str "wish", V.str "free"]) hp)
  have ha2 := s2 _ _ ha
  have hsb2 := s2 _ _ hsb
  have hwa2 := s2 _ _ hwa
  refine ⟨p, _, rfl, .inr (SqT.of upd_same), rfl, rfl, _, rfl, ?_⟩
  generalize upd (upd H t (.tup [V.str x, th])) p (.tup [V.str "wish", V.str "free"]) = H2 at *
  cases d with
  | wish pl pr o =>
    obtain ⟨a', e, ha', hpl, hpr, hto, hB⟩ := hd
    cases e
    cases ha'.symm.trans ha
    obtain ⟨kd, hkd, hkb⟩ := (hpl.same s2).kd (K := K)
    refine itT (by decide +kernel) ?_
    refine ⟨_, rfl, _, rfl, _, _, rfl, rfl, _, _, _, rfl, kd, 0, s.n - 1, hkd, hkb, rfl, rfl, _, rfl, ?_⟩
    cases hI : isI th (some 0) (some (s.n - 1)) with
    | false =>
      obtain ⟨b0, d0, hsw, hsd⟩ := hpl.same s2
      exact itT rfl ⟨_, rfl, b0, _, d0, rfl, hsw, hsd, by show 2 ≤ sizeLine; decide, fun t ht => ⟨_, rfl, _, rfl, by show 3 ≤ sizeLine; decide, fun r hr => bad (by simp [okD, hI]) H2 t r _ s2 ht hr⟩⟩
    | true =>
      refine itF rfl ?_
      obtain ⟨i, rfl, hi1, hi2⟩ := isI_int hI
      have i0 : 0 ≤ i := by simpa [loB] using hi1
      have i1 : i ≤ s.n - 1 := by simpa [hiB] using hi2
      refine ⟨_, _, _, _, _, _, _, _, _, wa, kvs, W, i, s.n, rfl, hwa2, wk, hin, by omega, hn40, fun dn H3 s3 nd2 hdn => ?_⟩
      have s03 := Same.trans s2 s3
      have ndH := none_same s2 nd2
      have wf := wk.fil (neP i)
      have ha3 := s03 _ _ ha
      refine ⟨_, rfl, rfl, _, rfl, itT (by decide +kernel) ?_⟩
      refine ⟨_, rfl, fun p hp => ⟨_, rfl, _, rfl, a, _, 2, pr, rfl, rfl, SqT.of ((Same.new hp) _ _ ha3), atI_nat (j := 2) rfl, upd_same, [(.inl i, pr)], rfl, by show 1 ≤ 15; decide, ?_⟩⟩
      have s33 : Same H3 (upd (upd H3 p (.dK [])) p (.dK (mergeK [] [(.inl i, pr)]))) := Same.mut (Same.new hp) hp
      refine ⟨_, _, rfl, s, p, i, pr, o, H3, hs.same (Same.trans s03 s33), rfl, upd_same, i0, by omega, hp, s33, hpr.same s03, hto.same s03 hpr.there, hB, ok.k5, fun H4 s4 => ⟨_, rfl, ?_⟩⟩
      have s04 := Same.trans (Same.trans s03 s33) s4
      have ha4 := s04 _ _ ha
      have hdn4 := s4 _ _ (s33 _ _ hdn)
      cases hv : vPr s.k o with
      | false =>
        obtain ⟨b0, d0, hsw, hsd⟩ := hpr.same s04
        exact itT rfl ⟨_, rfl, a, _, 2, pr, rfl, rfl, SqT.of ha4, atI_nat (j := 2) rfl, b0, _, d0, rfl, hsw, hsd, by show 2 ≤ sizeLine; decide, fun t ht => ⟨_, rfl, _, rfl, by show 3 ≤ sizeLine; decide, fun r hr => bad (by simp [okD, hv]) H4 t r _ s04 ht hr⟩⟩
      | true =>
        refine itF rfl ⟨_, rfl, rfl, _, rfl, itT (by decide +kernel) ?_⟩
        have hln : (filK (neP i) kvs).length < sizeLine := by
          have h1 := fil_len (p := neP i) (kvs := kvs)
          have h2 := wk.len hin (by omega)
          rw [sizeLine_eq]
          omega
        refine ⟨_, rfl, a, _, 2, pr, rfl, rfl, SqT.of ha4, atI_nat (j := 2) rfl, _, rfl, _, rfl, dn, _, rfl, DPut.k (k := .inl i) hdn4 hln, ?_⟩
        have s05 : Same H (upd H4 dn (.dK (putK (filK (neP i) kvs) (.inl i) pr))) := Same.mut s04 ndH
        refine ⟨_, rfl, _, rfl, by show 3 ≤ sizeLine; decide, fun r hr => good (by simp [okD, hI, hv]) _ r _ _ s05 hr (hs.same s05) ⟨dn, _, rfl, upd_same, ?_⟩⟩
        have z := wf.put i pr
        rw [put_fil] at z
        exact z
  | free pl =>
    obtain ⟨a', e, ha', hpl⟩ := hd
    cases e
    cases ha'.symm.trans ha
    obtain ⟨kd, hkd, hkb⟩ := (hpl.same s2).kd (K := K)
    refine itT (by decide +kernel) ?_
    refine ⟨_, rfl, _, rfl, _, _, rfl, rfl, _, _, _, rfl, kd, 0, s.n - 1, hkd, hkb, rfl, rfl, _, rfl, ?_⟩
    cases hI : isI th (some 0) (some (s.n - 1)) with
    | false =>
      obtain ⟨b0, d0, hsw, hsd⟩ := hpl.same s2
      exact itT rfl ⟨_, rfl, b0, _, d0, rfl, hsw, hsd, by show 2 ≤ sizeLine; decide, fun t ht => ⟨_, rfl, _, rfl, by show 3 ≤ sizeLine; decide, fun r hr => bad (by simp [okD, hI]) H2 t r _ s2 ht hr⟩⟩
    | true =>
      refine itF rfl ?_
      obtain ⟨i, rfl, hi1, hi2⟩ := isI_int hI
      have i0 : 0 ≤ i := by simpa [loB] using hi1
      have i1 : i ≤ s.n - 1 := by simpa [hiB] using hi2
      refine ⟨_, _, _, _, _, _, _, _, _, wa, kvs, W, i, s.n, rfl, hwa2, wk, hin, by omega, hn40, fun dn H3 s3 nd2 hdn => ?_⟩
      have s03 := Same.trans s2 s3
      have ndH := none_same s2 nd2
      have wf := wk.fil (neP i)
      refine ⟨_, rfl, rfl, _, rfl, itF (by decide +kernel) (iteF ⟨_, rfl, rfl, _, rfl, itF (by decide +kernel) ?_⟩)⟩
      exact ⟨_, rfl, _, rfl, by show 3 ≤ sizeLine; decide, fun r hr => good hI _ r _ _ s03 hr (hs.same s03) ⟨dn, _, rfl, hdn, wf⟩⟩
  | len pl =>
    obtain ⟨a', e, ha', hpl⟩ := hd
    cases e
    cases ha'.symm.trans ha
    refine itF (by decide +kernel) ⟨_, rfl, rfl, _, rfl, itT (by decide +kernel) ?_⟩
    exact ⟨_, rfl, _, rfl, _, rfl, _, _, _, rfl, s, W, hs.same s2, ok, hw.same s2, hin, hpl.same s2, fun H' v s3 hb => q _ _ (Same.trans s2 s3) hb⟩
  | drop pl =>
    obtain ⟨a', e, ha', hpl⟩ := hd
    cases e
    cases ha'.symm.trans ha
    obtain ⟨kd, hkd, hkb⟩ := (hpl.same s2).kd (K := K)
    refine itF (by decide +kernel) ⟨_, rfl, rfl, _, rfl, itF (by decide +kernel) ⟨_, rfl, rfl, _, rfl, itT (by decide +kernel) ?_⟩⟩
    refine ⟨_, rfl, _, rfl, _, s.es.length, rfl, .inr ⟨_, SqT.of hsb2, hsl.symm⟩, _, _, rfl, rfl, _, _, _, rfl, kd, 0, _, hkd, hkb, rfl, rfl, _, rfl, ?_⟩
    cases hI : isI th (some 0) (some ((s.es.length : Int) - 1)) with
    | false =>
      obtain ⟨b0, d0, hsw, hsd⟩ := hpl.same s2
      exact itT rfl ⟨_, rfl, b0, _, d0, rfl, hsw, hsd, by show 2 ≤ sizeLine; decide, fun t ht => ⟨_, rfl, _, rfl, by show 3 ≤ sizeLine; decide, fun r hr => bad hI H2 t r _ s2 ht hr⟩⟩
    | true =>
      refine itF rfl ?_
      obtain ⟨i, rfl, hi1, hi2⟩ := isI_int hI
      have i0 : 0 ≤ i := by simpa [loB] using hi1
      have i1 : i ≤ (s.es.length : Int) - 1 := by simpa [hiB] using hi2
      obtain ⟨j, rfl⟩ : ∃ j : Nat, i = (j : Int) := ⟨i.toNat, by omega⟩
      have hj : j < sxs.length := by omega
      refine ⟨_, rfl, _, rfl, _, rfl, _, rfl, (j : Int), rfl, sb, _, rfl, SqT.of hsb2, not_whole1 hj, fun p hp => ?_⟩
      have s3 := Same.trans s2 (Same.new (o := .tup (cutV sxs none (some (j : Int)))) hp)
      refine ⟨_, rfl, _, rfl, _, _, rfl, rfl, ((j + 1 : Nat) : Int), rfl, sb, _, rfl, SqT.of (s3 _ _ hsb), not_whole2 hj, fun p2 hp2 => ?_⟩
      have sn2 := Same.new (o := .tup (cutV sxs (some ((j + 1 : Nat) : Int)) none)) hp2
      have s4 := Same.trans s3 sn2
      refine ⟨p, p2, _, _, rfl, rfl, sn2 _ _ upd_same, upd_same, ?_, fun z H5 s5 hz => ?_⟩
      · have h1 := cutV_length sxs none (some (j : Int))
        have h2 := cutV_length sxs (some ((j + 1 : Nat) : Int)) none
        rw [sizeLine_eq]
        omega
      · rw [cut_take (by omega), cut_drop (by omega), erase_eq] at hz
        have s05 := Same.trans s4 s5
        refine ⟨_, _, _, rfl, s, s.n, z, _, s.es.eraseIdx j, hs.same s05, rfl, rfl, hz, paired_erase j (paired_mono hse fun _ _ h => h.same s05), fun H6 v6 s6 hv6 => ⟨_, rfl, by show 3 ≤ sizeLine; decide, fun r hr => ?_⟩⟩
        have s06 := Same.trans s05 s6
        exact good hI _ r _ _ s06 hr hv6 (hw.same s06)
  | echo dl t o =>
    obtain ⟨a', e, ha', hpl, hto, hoR⟩ := hd
    cases e
    cases ha'.symm.trans ha
    obtain ⟨kd, hkd, hkb⟩ := (hpl.same s2).kd (K := K)
    have tq : AnyD H t ∨ ∃ R, TabAt K H t R := by
      cases o with
      | none => exact .inl hto
      | some R => exact .inr ⟨R, hto⟩
    have fit := echo_fit ok (dl := th) (o := o)
    refine itF (by decide +kernel) ⟨_, rfl, rfl, _, rfl, itF (by decide +kernel) ⟨_, rfl, rfl, _, rfl, itF (by decide +kernel) ?_⟩⟩
    refine ⟨_, rfl, _, _, rfl, rfl, ⟨by decide, by decide, by decide⟩, _, _, _, rfl, kd, 1, _, hkd, hkb, rfl, rfl, _, rfl, ?_⟩
    rw [p30]
    cases hI : isI th (some 1) (some G30) with
    | false =>
      have hb : okD s (.echo th t o) = false := by
        rw [okD, fit, vEcho]
        dsimp only
        rw [hI]
        simp
      exact itF rfl ⟨_, rfl, _, rfl, itT rfl ⟨_, rfl, _, rfl, a, _, 2, _, rfl, rfl, SqT.of ha2, atI_nat (j := 2) rfl, by show 2 ≤ sizeLine; decide, fun u hu' => ⟨_, rfl, pln_echo upd_same (hpl.same (Same.trans s2 (Same.new hu'))) (tq.elim (fun z => .inl (z.same (Same.trans s2 (Same.new hu')))) fun ⟨R, z⟩ => .inr ⟨R, TabAt.same (Same.trans s2 (Same.new hu')) z⟩), fun H4 x4 s4 => ⟨by show 2 ≤ sizeLine; decide, fun t1 ht1 => ⟨_, rfl, _, rfl, by show 3 ≤ sizeLine; decide, fun r hr => bad (hb) H4 t1 r _ (Same.trans (Same.trans s2 (Same.new hu')) s4) ht1 hr⟩⟩⟩⟩⟩
    | true =>
      obtain ⟨i, rfl, hi1, hi2⟩ := isI_int hI
      refine itT rfl ⟨_, rfl, a, _, 2, _, rfl, rfl, SqT.of ha2, atI_nat (j := 2) rfl, ?_⟩
      cases o with
      | none =>
        have hb : okD s (.echo (.int i) t none) = false := by
          rw [okD, fit, vEcho]
          simp
        obtain ⟨kt, hkt, hbt⟩ := AnyD.kd (K := K) (AnyD.same s2 hto)
        have hn : kt ≠ .tab := fun z => by rw [z] at hbt; cases hbt
        exact ⟨_, kt, rfl, hkt, (fun z => by rw [z] at hbt; cases hbt), _, rfl, itF (decide_eq_false hn) ⟨_, rfl, _, rfl, itT rfl ⟨_, rfl, _, rfl, a, _, 2, _, rfl, rfl, SqT.of ha2, atI_nat (j := 2) rfl, by show 2 ≤ sizeLine; decide, fun u hu' => ⟨_, rfl, pln_echo upd_same (hpl.same (Same.trans s2 (Same.new hu'))) (tq.elim (fun z => .inl (z.same (Same.trans s2 (Same.new hu')))) fun ⟨R, z⟩ => .inr ⟨R, TabAt.same (Same.trans s2 (Same.new hu')) z⟩), fun H4 x4 s4 => ⟨by show 2 ≤ sizeLine; decide, fun t1 ht1 => ⟨_, rfl, _, rfl, by show 3 ≤ sizeLine; decide, fun r hr => bad (hb) H4 t1 r _ (Same.trans (Same.trans s2 (Same.new hu')) s4) ht1 hr⟩⟩⟩⟩⟩⟩
      | some R =>
        have hT : TabAt K H t R := hto
        have hT2 := TabAt.same s2 hT
        obtain ⟨ta, dx, tt, rfl, hta, hrw⟩ := id hT
        have hta2 := s2 _ _ hta
        refine ⟨_, .tab, rfl, ⟨ta, dx, _, rfl, hta2⟩, by decide, _, rfl, itT (by decide) ?_⟩
        refine ⟨_, rfl, _, s.es.length, rfl, .inr ⟨_, SqT.of hsb2, hsl.symm⟩, _, _, rfl, rfl, ?_⟩
        by_cases h2 : (s.es.length : Int) < 2
        · refine ⟨_, rfl, _, rfl, itF (by show (!decide ((s.es.length : Int) < 2)) = false; rw [decide_eq_true h2]; rfl) ⟨_, rfl, a, _, 2, _, rfl, rfl, SqT.of ha2, atI_nat (j := 2) rfl, ta, dx, _, rfl, hta2, _, rfl, R, hT2, _, rfl, rfl, _, rfl, ?_⟩⟩
          by_cases hk : R.length = s.k
          · refine itF (by simp [hk]) ?_
            have hle1 : s.es.length ≤ 1 := by omega
            have okE : okD s (.echo (.int i) (.ref ta) (some R)) = (!decide (s.es.length = 1) || decide (s.n ≤ (s.es.map (·.1)).sum + i)) := by
              rw [okD, fit, vEcho]
              dsimp only
              rw [hI, decide_eq_true hk, decide_eq_true hle1, show dI (V.int i) = i from rfl, Bool.true_and, Bool.true_and, Bool.true_and]
            refine ⟨_, rfl, _, rfl, _, rfl, a, _, 2, _, rfl, rfl, SqT.of ha2, atI_nat (j := 2) rfl, ta, dx, _, rfl, hta2, _, rfl, ta, dx, _, tt, rfl, hta2, lk_hd, by show 2 ≤ sizeLine; decide, fun e1 he1 => ⟨by show 1 ≤ sizeLine; decide, fun e2 he2 => ?_⟩⟩
            have sn1 := Same.new (o := .tup [.int i, tt]) he1
            have sn2 := Same.new (o := .tup [.ref e1]) he2
            have s4 := Same.trans (Same.trans s2 sn1) sn2
            refine ⟨sb, e2, sxs, [.ref e1], rfl, rfl, s4 _ _ hsb, upd_same, by rw [sizeLine_eq, hsl]; show s.es.length + 1 ≤ _; omega, fun z H5 s5 hz => ?_⟩
            have s05 := Same.trans s4 s5
            have he15 := (Same.trans sn2 s5) _ _ (upd_same (H := H2) (a := e1) (o := .tup [.int i, tt]))
            have fin : okD s (.echo (.int i) (.ref ta) (some R)) = true → ∀ H6 v6, Same H5 H6 → LSong H6 v6 ⟨s.k, s.n, s.es ++ [(i, R)]⟩ → ∀ r, H6 r = none → Q (.ref r) (upd H6 r (.tup [.non, v6, .ref wa])) := fun hok H6 v6 s6 hv6 r hr => good hok _ r _ _ (Same.trans s05 s6) hr hv6 (hw.same (Same.trans s05 s6))
            have pairs : Paired (LEch H5) (sxs ++ [.ref e1]) (s.es ++ [(i, R)]) := paired_app (paired_mono hse fun _ _ h => h.same s05) (.cons ⟨e1, tt, rfl, he15, hrw.same s05⟩ .nil)
            refine ⟨_, rfl, _, (sxs ++ [V.ref e1]).length, rfl, .inr ⟨_, SqT.of hz, rfl⟩, rfl, _, rfl, ?_⟩
            have hle : (sxs ++ [V.ref e1]).length = s.es.length + 1 := by rw [List.length_append, hsl]; rfl
            rw [hle]
            by_cases h1 : s.es.length = 1
            · obtain ⟨e0, hes⟩ : ∃ e0, s.es = [e0] := List.length_eq_one_iff.mp h1
              have hse' := hse
              rw [hes] at hse'
              cases hse' with
              | @cons x0 _ l1 _ hx hr' =>
                cases hr'
                obtain ⟨c0, t0, rfl, hc0, _⟩ := hx
                have hc5 := s05 _ _ hc0
                have hsum : (s.es.map (·.1)).sum = e0.1 := by rw [hes]; simp
                rw [hsum] at okE
                refine itT (by rw [h1]; rfl) ⟨_, rfl, _, rfl, z, _, 0, _, rfl, rfl, SqT.of hz, at0, c0, _, 0, _, rfl, rfl, SqT.of hc5, at0, _, rfl, _, _, rfl, rfl, _, _, rfl, rfl, _, rfl, ?_⟩
                by_cases hm : s.n ≤ e0.1 + i
                · refine itF (decide_eq_false (by omega)) ⟨_, rfl, _, rfl, _, rfl, _, _, _, rfl, s, s.n, z, _, s.es ++ [(i, R)], hs.same s05, rfl, rfl, hz, pairs, fun H6 v6 s6 hv6 => ⟨_, rfl, by show 3 ≤ sizeLine; decide, fun r hr => fin (by rw [okE]; simp [hm]) H6 v6 s6 hv6 r hr⟩⟩
                · refine itT (decide_eq_true (by omega)) ⟨_, rfl, z, _, 0, _, rfl, rfl, SqT.of hz, at0, c0, _, 0, _, rfl, rfl, SqT.of hc5, at0, _, rfl, _, _, rfl, rfl, by show 2 ≤ sizeLine; decide, fun t1 ht1 => ⟨_, rfl, _, rfl, by show 3 ≤ sizeLine; decide, fun r hr => bad (by rw [okE]; simp [h1, hm]) H5 t1 r _ s05 ht1 hr⟩⟩
            · refine itF (decide_eq_false (by intro y; have := V.int.inj y; omega)) (iteF ⟨_, rfl, _, rfl, _, rfl, _, _, _, rfl, s, s.n, z, _, s.es ++ [(i, R)], hs.same s05, rfl, rfl, hz, pairs, fun H6 v6 s6 hv6 => ⟨_, rfl, by show 3 ≤ sizeLine; decide, fun r hr => fin (by rw [okE]; simp [h1]) H6 v6 s6 hv6 r hr⟩⟩)
          · have hb : okD s (.echo (.int i) (.ref ta) (some R)) = false := by
              rw [okD, fit, vEcho]
              simp [hk]
            exact itT (by simp; omega) ⟨_, rfl, _, rfl, a, _, 2, _, rfl, rfl, SqT.of ha2, atI_nat (j := 2) rfl, by show 2 ≤ sizeLine; decide, fun u hu' => ⟨_, rfl, pln_echo upd_same (hpl.same (Same.trans s2 (Same.new hu'))) (tq.elim (fun z => .inl (z.same (Same.trans s2 (Same.new hu')))) fun ⟨R, z⟩ => .inr ⟨R, TabAt.same (Same.trans s2 (Same.new hu')) z⟩), fun H4 x4 s4 => ⟨by show 2 ≤ sizeLine; decide, fun t1 ht1 => ⟨_, rfl, _, rfl, by show 3 ≤ sizeLine; decide, fun r hr => bad (hb) H4 t1 r _ (Same.trans (Same.trans s2 (Same.new hu')) s4) ht1 hr⟩⟩⟩⟩
        · have hb : okD s (.echo (.int i) (.ref ta) (some R)) = false := by
            rw [okD, fit]
            simp
            omega
          exact ⟨_, rfl, _, rfl, itT (by show (!decide ((s.es.length : Int) < 2)) = true; rw [decide_eq_false h2]; rfl) ⟨_, rfl, _, rfl, a, _, 2, _, rfl, rfl, SqT.of ha2, atI_nat (j := 2) rfl, by show 2 ≤ sizeLine; decide, fun u hu' => ⟨_, rfl, pln_echo upd_same (hpl.same (Same.trans s2 (Same.new hu'))) (tq.elim (fun z => .inl (z.same (Same.trans s2 (Same.new hu')))) fun ⟨R, z⟩ => .inr ⟨R, TabAt.same (Same.trans s2 (Same.new hu')) z⟩), fun H4 x4 s4 => ⟨by show 2 ≤ sizeLine; decide, fun t1 ht1 => ⟨_, rfl, _, rfl, by show 3 ≤ sizeLine; decide, fun r hr => bad (hb) H4 t1 r _ (Same.trans (Same.trans s2 (Same.new hu')) s4) ht1 hr⟩⟩⟩⟩⟩

end
end Ef

set_option Elab.async false
set_option linter.all false
set_option maxRecDepth 100000
set_option maxHeartbeats 4000000
namespace Ef
open PySem PySem.Spec PyProof.Rows L2 He L2H
/-! ### wishes that repr shows -/
def WVal (k : Nat) (H : Hp) (v : V) : Prop := ∃ (a : Addr) (r : List (Option Int)), v = .ref a ∧ H a = some (.tup (r.map oI)) ∧ r.length = k ∧ ∀ p ∈ r, OkQ p
def WOk (k : Nat) (H : Hp) (W : Int → Option V) : Prop := ∀ i v, W i = some v → WVal k H v
theorem WVal.same {k : Nat} {H H1 : Hp} {v : V} (s : Same H H1) (h : WVal k H v) : WVal k H1 v := by
  obtain ⟨a, r, e, h, l, o⟩ := h
  exact ⟨a, r, e, s _ _ h, l, o⟩
theorem WVal.fi {k : Nat} {K : PySem.W.Frag} {H H1 : Hp} {v : V} (s : Fi K H H1) (h : WVal k H v) : WVal k H1 v := by
  obtain ⟨a, r, e, h, l, o⟩ := h
  exact ⟨a, r, e, s _ _ h rfl, l, o⟩
theorem WOk.same {k : Nat} {H H1 : Hp} {W : Int → Option V} (s : Same H H1) (h : WOk k H W) : WOk k H1 W := fun i v e => (h i v e).same s
theorem WOk.fi {k : Nat} {K : PySem.W.Frag} {H H1 : Hp} {W : Int → Option V} (s : Fi K H H1) (h : WOk k H W) : WOk k H1 W := fun i v e => (h i v e).fi s
structure FitK (es : List (PyData × PyData)) (m : Nat) : Prop where
  l : PyData.leavesShortKv 101 es = true
  s : PyData.showableKv es = true
  w : PyData.weightKv es ≤ m
  d : PyData.depthKv es ≤ 5
theorem kv_fit {k : Nat} (hk : k ≤ 5) {H : Hp} : ∀ {kvs : List (Key × V)}, (∀ kv ∈ kvs, ∃ i : Int, kv.1 = .inl i ∧ 0 ≤ i ∧ i < 40) → (∀ kv ∈ kvs, WVal k H kv.2) →
    ∃ ds, ShwL true H (kvs.map (·.2)) ds ∧ FitK ((kvs.map fun p => keyD p.1).zip ds) (kvs.length * 2500)
  | [], _, _ => ⟨[], .nil, rfl, rfl, Nat.zero_le _, Nat.zero_le _⟩
  | kv :: r, h1, h2 => by
    obtain ⟨ds, g1, g2⟩ := kv_fit hk (fun x hx => h1 x (List.mem_cons_of_mem _ hx)) (fun x hx => h2 x (List.mem_cons_of_mem _ hx))
    obtain ⟨i, ei, i0, i1⟩ := h1 kv List.mem_cons_self
    obtain ⟨a, rr, ea, ha, hl, ho⟩ := h2 kv List.mem_cons_self
    have f : Fit (.tuple (rr.map oD)) (5 * 401) 3 := FitA.tup (n := 2) (by
      have z := fit_r (n := 2) ho
      exact ⟨z.l, z.s, Nat.le_trans z.w (by omega), z.d⟩)
    have fk : Fit (keyD kv.1) 400 3 := by
      rw [ei]
      exact fit_int (Nat.lt_of_le_of_lt (by omega) big100)
    refine ⟨.tuple (rr.map oD) :: ds, ?_, ?_⟩
    · rw [List.map_cons, ea]
      exact .cons (.tup ha shw_r) g1
    · rw [List.map_cons, List.zip_cons_cons]
      refine ⟨?_, ?_, ?_, ?_⟩
      · simp only [PyData.leavesShortKv, fk.l, f.l, g2.l, Bool.and_self]
      · simp only [PyData.showableKv, fk.s, f.s, g2.s, Bool.and_self]
      · simp only [PyData.weightKv, List.length_cons]
        have := fk.w
        have := f.w
        have := g2.w
        omega
      · simp only [PyData.depthKv]
        have := fk.d
        have := f.d
        have := g2.d
        omega
theorem FitK.small {es : List (PyData × PyData)} {m : Nat} (h : FitK es m) (hm : m ≤ 100000) : SmallD (.dict es) := by
  refine ⟨by simp only [PyData.showable, h.s], ?_, by simp only [PyData.depth]; have := h.d; omega⟩
  have z := PyData.shown_le 101 (by decide) (.dict es) (by simp only [PyData.leavesShort, h.l])
  have e : (PyData.dict es).weight = PyData.weightKv es := by simp only [PyData.weight]
  have := h.w
  rw [e] at z
  rw [sizeLine_eq]
  omega
theorem sorted_one : ∀ {l m : List Int}, l.Pairwise (· < ·) → m.Pairwise (· < ·) → (∀ i : Int, i ∈ l ↔ i ∈ m) → l = m
  | [], [], _, _, _ => rfl
  | [], b :: m, _, _, h => absurd ((h b).mpr List.mem_cons_self) (by simp)
  | a :: l, [], _, _, h => absurd ((h a).mp List.mem_cons_self) (by simp)
  | a :: l, b :: m, hl, hm, h => by
    obtain ⟨l1, l2⟩ := List.pairwise_cons.mp hl
    obtain ⟨m1, m2⟩ := List.pairwise_cons.mp hm
    have e : a = b := by
      rcases List.mem_cons.mp ((h a).mp List.mem_cons_self) with e | h1
      · exact e
      rcases List.mem_cons.mp ((h b).mpr List.mem_cons_self) with e | h2
      · exact e.symm
      have := l1 b h2
      have := m1 a h1
      omega
    subst e
    refine congrArg (a :: ·) (sorted_one l2 m2 fun i => ⟨fun hi => ?_, fun hi => ?_⟩)
    · rcases List.mem_cons.mp ((h i).mp (List.mem_cons_of_mem _ hi)) with e | h1
      · have := l1 i hi
        omega
      · exact h1
    · rcases List.mem_cons.mp ((h i).mpr (List.mem_cons_of_mem _ hi)) with e | h1
      · have := m1 i hi
        omega
      · exact h1
theorem srt_mem {W : Int → Option V} {l : List Int} {kv : Key × V} (h : kv ∈ srt W l) : ∃ i ∈ l, kv.1 = .inl i ∧ W i = some kv.2 := by
  obtain ⟨i, hi, e⟩ := List.mem_filterMap.mp h
  cases hw : W i with
  | none => rw [hw] at e; cases e
  | some v =>
    rw [hw] at e
    have e := Option.some.inj e
    subst e
    exact ⟨i, hi, rfl, hw⟩
theorem srt_keys {W : Int → Option V} : ∀ {l : List Int}, (∀ i ∈ l, (W i).isSome = true) → (srt W l).map (·.1) = l.map Sum.inl
  | [], _ => rfl
  | i :: l, h => by
    obtain ⟨v, hv⟩ := Option.isSome_iff_exists.mp (h i List.mem_cons_self)
    have ih := srt_keys (W := W) (l := l) fun j hj => h j (List.mem_cons_of_mem _ hj)
    unfold srt at ih ⊢
    rw [List.filterMap_cons, hv]
    simp only [Option.map_some, List.map_cons, ih]
section
variable {P : Program} {w : World} {K : PySem.W.Frag} {mg : Str → Option Value} {base : Heap}
abbrev nIsb : List Str := ["_law_book", "_law_song_here", "_law_wishes", "_law_moment", "_law_place"]
theorem bnd_isbook : BindN "_law_is_book" "_law_is_book" s_l_is_book ["_law_book", "_law_song_here", "_law_wishes", "_law_moment"] := fun _ _ _ _ _ _ us hl => match us, hl with | [_, _, _, _], _ => rfl
theorem sc_isbook : FnScope nIsb ["_law_book", "_law_song_here", "_law_wishes", "_law_moment"] (defScope s_l_is_book) := ⟨rfl, rfl, rfl, by decide +kernel, rfl, by decide +kernel, by decide +kernel⟩
def pIsBook (K : PySem.W.Frag) (bv sv wv mv : V) (H : Hp) (Q : VK) (_ : XK) : Prop := ∃ b pa la p bsv bwv ps ls s W, BookAt K H bv b pa la (.ref p) ps ls ∧ H p = some (.tup [bsv, bwv]) ∧ SongAt K H bsv s ∧ WAt H bwv W ∧ LSong H sv s ∧ OkSg s ∧ WAt H wv W ∧ InW s.n W ∧ WOk s.k H W ∧ mv = .int (ps.length : Int) ∧ ∀ H', Same H H' → Q (.bl true) H'
theorem law_is_book (T : Top3 w K mg) : ClG P w K mg base CX0 5 "_law_is_book" (sp4 (pIsBook K)) := by
  have T1 : Top K mg := T.toTop
  obtain ⟨fd, F⟩ := T1.d_l_is_book
  refine ClG.of T1.g_l_is_book F (raw_ofG F sc_isbook bnd_isbook len4 fun cdv A outer s0 H vs Q E hr hgd h => ?_)
  obtain ⟨bv, sv, wv, mv, rfl, b, pa, la, p, bsv, bwv, ps, ls, s, W, B, hp, hS, hbW, hs, ok, hw, hin, hwo, rfl, q⟩ := h
  have nd := sc_isbook.nd
  have hu := hu_of hr
  suffices hh : ∃ t, PSs (cxB CX0 P w K mg base nIsb "_law_is_book" s_l_is_book (ga K "_law_is_book") cdv A outer s0 H E).nox (defBody s_l_is_book) t ∧ t { nx := fun _ H' => Q .non H', rt := Q } (L2.start nIsb [bv, sv, wv, .int (ps.length : Int)]) H by
    obtain ⟨t, ht, hq⟩ := hh
    exact ⟨t, ht.nox, hq⟩
  refine ⟨_, pss_cons (ps_if (PW.pt (pw_or (pt_cmpR op_ne (pe_p T1.c_Song (Song_text T1) hr pass0 (pe_p T1.c_Book (Book_song T1) (hr.mono (by decide)) pass0 (pv 0))) (pe_f (law_song_text T1) (hr.mono (by decide)) pass0 (pa_cons (pv 1) pa_nil)) (nomark _))
      (pw_or1 (pt_cmpR op_ne (pe_p T1.c_Book (Book_moment T1) (hr.mono (by decide)) pass0 (pv 0)) (pv 3) (nomark _))))) (pss_one (ps_ret pe_bl)) pss_nil)
    (pss_one (ps_ret (pe_cmpR op_eq (pe_repr hgd hr T1.b_repr (by rfl) (pa_cons (pe_p T1.c_Book (Book_wishes T1) (hr.mono (by decide)) pass0 (pv 0)) pa_nil))
      (pe_repr hgd hr T1.b_repr (by rfl) (pa_cons (pe_callTy (call_dictP rfl) (by rfl) T1.b_dict (by decide +kernel) (pa_cons (pe_lc (own := [("_law_place", 4)]) (g := gName 4) (tt := tYes) (te := tTup (tCons (tVar 4) (tCons (tDGet (tVar 2) (tVar 4)) tNil))) rfl nd (pi_list (pe_callB (call_sortedDI rfl) (by rfl) T1.b_sorted (by decide +kernel) (pa_cons (pv 2) pa_nil))) (blkOk_by (N := nIsb) (sc := defScope s_l_is_book) (by decide +kernel))
        (fun _ _ _ _ _ => pg_name (i := 4) nd rfl (.inl rfl)) (fun _ _ _ _ _ => pts_nil) (fun _ _ _ _ _ => pe_tup (pa_cons (pv 4) (pa_cons (pe_dget (by exact hu) (pv 2) (pv 4) (by intro _ _; rfl)) pa_nil)))) pa_nil)) pa_nil)) (nomark _)))), ?_⟩
  obtain ⟨rfl, ⟨dx, hb⟩, hpa, hla, hne⟩ := id B
  obtain ⟨sa, sdx, c, sxs, rfl, hsa, _⟩ := id hS
  refine ⟨_, rfl, b, dx, _, rfl, hb, _, rfl, b, pa, la, p, _, bwv, ps, ls, B, hp, sa, sdx, _, rfl, hsa, _, rfl, s, hS, ok, fun H1 s1 => ?_⟩
  refine ⟨_, rfl, _, rfl, s, hs.same s1, ok, fun H2 s2 => ⟨rfl, _, rfl, itF (by simp) ?_⟩⟩
  have s02 := Same.trans s1 s2
  refine ⟨_, rfl, b, dx, _, rfl, s02 _ _ hb, _, rfl, b, pa, la, _, ps, ls, B.same s02, _, rfl, rfl, _, rfl, itF (by simp) ?_⟩
  have hn1 := ok.n1
  have hn40 := ok.n40
  refine ⟨_, rfl, b, dx, _, rfl, s02 _ _ hb, _, rfl, b, pa, la, p, _, bwv, W, s.n, ps, ls, B.same s02, s02 _ _ hp, hbW.same s02, hin, by omega, hn40, fun H3 d l s3 hlt hmem hd => ?_⟩
  have s03 := Same.trans s02 s3
  have hkeys : ∀ kv ∈ srt W l, ∃ i : Int, kv.1 = .inl i ∧ 0 ≤ i ∧ i < 40 := fun kv hkv => by
    obtain ⟨i, _, e, hW⟩ := srt_mem hkv
    obtain ⟨h0, h1⟩ := hin i _ hW
    exact ⟨i, e, h0, by omega⟩
  obtain ⟨ds, hds, hfit⟩ := kv_fit ok.k5 hkeys fun kv hkv => by
    obtain ⟨i, _, e, hW⟩ := srt_mem hkv
    exact (hwo i _ hW).same s03
  have hll : l.length ≤ 40 := pigeon 40 l (hlt.imp fun h => by omega) fun i hi => by
    obtain ⟨v, hv⟩ := Option.isSome_iff_exists.mp ((hmem i).mp hi)
    obtain ⟨h0, h1⟩ := hin i v hv
    exact ⟨h0, by omega⟩
  have hsm := hfit.small (by have := srt_len (W := W) (l := l); omega)
  refine ⟨true, _, _, rfl, .dK hd hds, hsm, ?_⟩
  obtain ⟨wa, kvs, rfl, hwa, wk⟩ := id hw
  obtain ⟨ks, hks, knd⟩ := wk.ks
  have hkl : ks.length = kvs.length := by
    have := congrArg List.length hks
    simpa using this.symm
  have hz := wk.len hin (by omega)
  refine ⟨_, rfl, wa, kvs, ks, rfl, .inl (s03 _ _ hwa), hks, by omega, fun ys sp hperm hle hsp => ?_⟩
  have hlt2 := sorted_strict hperm knd hle
  have ymem : ∀ i : Int, i ∈ ys ↔ (W i).isSome = true := fun i => by
    rw [hperm.mem_iff, wk.mem, hks]
    constructor
    · exact fun h => List.mem_map.mpr ⟨i, h, rfl⟩
    · intro h
      obtain ⟨j, h1, h2⟩ := List.mem_map.mp h
      exact Sum.inl.inj h2 ▸ h1
  have eyl : ys = l := sorted_one hlt2 hlt fun i => (ymem i).trans (hmem i).symm
  have ndy : ys.Nodup := hperm.nodup_iff.mpr knd
  have s4 := Same.new (o := .lst (ys.map V.int)) hsp
  have s04 := Same.trans s03 s4
  refine ⟨sp, rfl, ⟨_, SqL.of upd_same⟩, fun D nD => lc_list (K := K) (a := sp) (xs := ys.map V.int) (fun j H2 => Same (upd H3 sp (.lst (ys.map V.int))) H2 ∧ ∃ qs : List Addr, H2 D = some (.lst (qs.map V.ref)) ∧ PairsAt H2 qs (srt W (ys.take j))) ⟨Same.new nD, [], upd_same, by rw [List.take_zero]; exact .nil⟩ (fun j H2 _ h => SqL.of (h.1 _ _ upd_same)) ?_ ?_⟩
  · rintro j x H4 hx ⟨s5, qs, hqs, hpr⟩
    rw [List.getElem?_map] at hx
    cases ej : ys[j]? with
    | none => rw [ej] at hx; cases hx
    | some k =>
      rw [ej] at hx
      obtain rfl : V.int k = x := Option.some.inj hx
      obtain ⟨u, hu2⟩ := Option.isSome_iff_exists.mp ((ymem k).mp (List.mem_of_getElem? ej))
      have s05 := Same.trans s04 s5
      have hg : DGet H4 wa (.int k) (some u) := by
        have z := DGet.k (k := .inl k) (s05 _ _ hwa)
        rw [wk.at_, hu2] at z
        exact z
      refine ⟨rfl, ?_⟩
      refine ⟨_, rfl, _, rfl, _, rfl, wa, u, rfl, hg, by show 2 ≤ sizeLine; decide, fun t ht => ?_⟩
      have s6 := Same.new (o := .tup [.int k, u]) ht
      have hq6 := s6 _ _ hqs
      refine ⟨_, hq6, ?_, Same.mut (Same.trans s5 s6) nD, qs ++ [t], by rw [upd_same, List.map_append]; rfl, ?_⟩
      · have h1 := Paired.length hpr
        have h2 := srt_len (W := W) (l := ys.take j)
        rw [List.length_take] at h2
        rw [List.length_map, sizeLine_eq]
        have hyl : ys.length = l.length := by rw [eyl]
        omega
      · rw [srt_take ej hu2]
        refine paired_app ((hpr.same s6).mut hq6) (.cons ?_ .nil)
        show (upd (upd H4 t (.tup [.int k, u])) D _) t = _
        rw [upd_ne (ne_of_none hqs ht).symm, upd_same]
        rfl
  · rintro H4 ⟨s5, qs, hqs, hpr⟩
    rw [List.length_map, List.take_length] at hpr
    refine ⟨D, qs, srt W ys, rfl, SqL.of hqs, paired_mono hpr fun a kv z => SqT.of z, fun dn hdn => ?_⟩
    have hmg : mergeK [] (srt W ys) = srt W ys := by
      have z := merge_self (srt W ys) [] (by
        rw [List.nil_append, srt_keys fun i hi => (ymem i).mp hi]
        exact List.Pairwise.map Sum.inl (fun a b h e => h (Sum.inl.inj e)) ndy)
      rw [List.nil_append] at z
      exact z
    rw [hmg, eyl]
    have s6 := Same.new (o := .dK (srt W l)) hdn
    have s36 := Same.trans (Same.trans s4 s5) s6
    refine ⟨true, _, _, rfl, .dK upd_same (hds.same s36), hsm, rfl, ?_⟩
    rw [decide_eq_true rfl]
    exact q _ (Same.trans s03 s36)
end
end Ef

set_option Elab.async false
set_option linter.all false
set_option maxRecDepth 100000
set_option maxHeartbeats 4000000
namespace Ef
open PySem PySem.Spec PyProof.Rows L2 He L2H LamX
/-! ### all but some objects stay (and the tables of code objects) -/
def isTbl : HO → Bool
  | .tbl _ => true
  | _ => false
def Al (ex : List Addr) (H H' : Hp) : Prop := ∀ c o, H c = some o → c ∉ ex → isTbl o = false → H' c = some o
section
variable {H H1 H2 : Hp} {ex ey : List Addr}
theorem Al.refl : Al ex H H := fun _ _ h _ _ => h
theorem Al.trans (a : Al ex H H1) (b : Al ex H1 H2) : Al ex H H2 := fun c o h n t => b c o (a c o h n t) n t
theorem Al.mono (a : Al ex H H1) (h : ∀ c ∈ ex, c ∈ ey) : Al ey H H1 := fun c o e n t => a c o e (fun z => n (h c z)) t
theorem Al.of (k : Same H H1) : Al ex H H1 := fun c o h _ _ => k c o h
theorem Al.ext (k : ExtN H H1) : Al ex H H1 := fun c o h _ t => k c o h fun ps e => by rw [e] at t; cases t
theorem Al.ofEx {p : Addr} (k : Ex p H H1) (m : p ∈ ex) : Al ex H H1 := fun c o h n _ => k c o h fun e => n (e ▸ m)
theorem Al.ofFb {b pa la : Addr} (k : Fb b pa la H H1) (m : ∀ c ∈ [b, pa, la], c ∈ ex) : Al ex H H1 := fun c o h n _ =>
  k c o h (fun e => n (m c (by rw [e]; simp))) (fun e => n (m c (by rw [e]; simp))) fun e => n (m c (by rw [e]; simp))
theorem Al.upd {p : Addr} {o : HO} (m : p ∈ ex) : Al ex H (L2.upd H p o) := fun c u h n _ => by
  rw [upd_ne (fun e : c = p => n (by rw [e]; exact m))]
  exact h
/-- what is never changed stays, where the changing ones may change -/
theorem Al.fi {K : PySem.W.Frag} (a : Al ex H H1) (h : ∀ c ∈ ex, ∀ o, H c = some o → imm K o = false) : Fi K H H1 := fun c o e i => a c o e (fun m => by rw [h c m o e] at i; cases i) (by
  cases o <;> first | rfl | cases i)
end
/-! ### tables of code objects through a step -/
def isCode : HO → Bool
  | .tbl _ => true
  | .ext _ => true
  | _ => false
theorem tabS_keep {H H' : Hp} {P : Addr} {q : Str} (t : TabS H P q) (e : ∀ c o, H c = some o → isCode o = true → H' c = some o) : TabS H' P q := by
  obtain ⟨ps, h1, h2, h3⟩ := t
  refine ⟨ps, e _ _ h1 rfl, h2, fun pos cv hc => ?_⟩
  obtain ⟨c, e1, e2⟩ := h3 pos cv hc
  exact ⟨c, e1, e _ _ e2 rfl⟩
theorem tabs_keep {T : List (Addr × Str)} {H H' : Hp} (t : Tabs T H) (e : ∀ c o, H c = some o → isCode o = true → H' c = some o) : Tabs T H' := fun p hp => tabS_keep (t p hp) e
theorem tabs_same {T : List (Addr × Str)} {H H' : Hp} (t : Tabs T H) (k : Same H H') : Tabs T H' := tabs_keep t fun c o e _ => k c o e
theorem tabs_ex {T : List (Addr × Str)} {H H' : Hp} {p l : Addr} {n : Nat} (t : Tabs T H) (hp : Pen p l n H) (k : Ex p H H') : Tabs T H' := tabs_keep t fun c o e i => k c o e (pen_ne hp e fun kvs z => by rw [z] at i; cases i)
theorem tabs_upd {T : List (Addr × Str)} {H : Hp} {a : Addr} {u o : HO} (t : Tabs T H) (h : H a = some u) (hu : isCode u = false) : Tabs T (upd H a o) := tabs_keep t fun c z e i => by
  rw [upd_ne (fun q => by rw [q, h] at e; rw [← Option.some.inj e, hu] at i; cases i)]
  exact e
theorem tabs_fb {K : PySem.W.Frag} {T : List (Addr × Str)} {H H' : Hp} {v st : V} {b pa la : Addr} {ps ls : List V} (t : Tabs T H) (B : BookAt K H v b pa la st ps ls) (k : Fb b pa la H H') : Tabs T H' := tabs_keep t fun c o e i => by
  obtain ⟨_, ⟨dx, hb⟩, hpa, hla, _⟩ := B
  refine k c o e (fun z => ?_) (fun z => ?_) fun z => ?_
  · rw [z, hb] at e; rw [← Option.some.inj e] at i; cases i
  · rw [z, hpa] at e; rw [← Option.some.inj e] at i; cases i
  · rw [z, hla] at e; rw [← Option.some.inj e] at i; cases i
/-! ### a def's body, its code object known -/
section
variable {P : Program} {w : World} {K : PySem.W.Frag} {mg : Str → Option Value} {base : Heap} {CX : CXT} {k : Nat} {x q y : Str} {st : Stmt} {fd : FuncData} {N ps : List Str} {sp : Sp}
theorem raw_ofGT (F : FnP K x q st (ga K y) fd) (S : FnScope N ps (defScope st)) (hb : BindN x q st ps) (len : ∀ vs H Q E, sp vs H Q E → vs.length = ps.length)
    (body : ∀ (A : Around) (outer : List Env) (s : Shared) (H : Hp) (vs : List V) (Q : VK) (E : XK), Room k (A.deeper (envOfC q (defScope st) s.heap.objs.size (ga K y) (.ref (codeOf K (y, none))))) → A.guards = some [] → sp vs H Q E →
      ∃ t, PSs (cxOf CX P w K mg base N q (defScope st) (ga K y) (.ref (codeOf K (y, none))) A outer s H E) (defBody st) t ∧ t { nx := fun _ H' => Q .non H', rt := Q } (start N vs) H) : FnG P w K mg base CX (k + 1) (ga K y) sp := by
  intro A outer s H us vs Q E hr hg e0 r hs
  obtain ⟨oc, od, dV, kV, doc, pm, an, cdv, ct, osl, rfl, lk, hcd, hD, hK⟩ := F.ex
  obtain ⟨_, rfl⟩ | ⟨e, _⟩ := hD
  · obtain ⟨c, ec⟩ := codeIn_ref hcd
    subst ec
    have cc : codeOf K (y, none) = c := codeOf_eq lk rfl
    rw [cc] at body
    have hl := len _ _ _ _ hs
    refine StX.run_bnd lk hcd S hr e0 (G := fun xs H2 => xs = vs ∧ H2 = H) (fun A' Ex Q' h => ?_) fun s2 H2 xs ⟨ex, eH⟩ hr' => ?_
    · rw [hb kV doc pm an (.ref c) ct us (by rw [← r.length]; exact hl)]
      exact wpAny_pure (h s H vs us e0 (Un.kept fun _ _ e => e) rfl (fun _ _ z => z) r hl ⟨rfl, rfl⟩)
    · subst ex eH
      exact body A outer s2 _ _ Q E hr' hg hs
  · exact absurd rfl e
end
/-! ### what is new since H0 -/
theorem nw_anc {H0 H H' : Hp} (a : Anc H0 H) : Same (nw H H') (nw H0 H') := fun c o h => by
  obtain ⟨h1, h2⟩ := nw_at h
  rcases h2 with h2 | ⟨xs, h2⟩
  · exact nw_new (a c h2) h1
  · rw [h2]
    exact nw_tup (by rw [← h2]; exact h1)
/-- .. a step that changes only what stood at H0 and is no tuple -/
theorem nw_step {H0 H H' : Hp} (k : ∀ c o, H c = some o → (H0 c = none ∨ ∃ xs, o = .tup xs) → H' c = some o) : Same (nw H0 H) (nw H0 H') := fun c o h => by
  obtain ⟨h1, h2⟩ := nw_at h
  have h3 := k c o h1 h2
  rcases h2 with h2 | ⟨xs, h2⟩
  · exact nw_new h2 h3
  · rw [h2]
    exact nw_tup (by rw [← h2]; exact h3)
theorem nw_upd {H0 H : Hp} {a : Addr} {u o : HO} (h0 : H0 a ≠ none) (h : H a = some u) (hu : ∀ xs, u ≠ .tup xs) : Same (nw H0 H) (nw H0 (upd H a o)) := nw_step fun c z e hz => by
  rw [upd_ne (fun q => ?_)]
  · exact e
  · rw [q] at e hz
    rcases hz with hz | ⟨xs, hz⟩
    · exact h0 hz
    · rw [h] at e
      exact hu xs ((Option.some.inj e).trans hz)
/-! ### the deeds one after the other -/
theorem runD_app {s : Sg} {W : Int → Option V} : ∀ {ds : List Dd} {d : Dd}, runD s W (ds ++ [d]) = (runD s W ds).bind fun p => if okD p.1 d = true then some (sgD p.1 d, wD p.2 d) else none
  | [], d => by
    show (if okD s d = true then runD (sgD s d) (wD W d) [] else none) = _
    rfl
  | e :: ds, d => by
    show (if okD s e = true then runD (sgD s e) (wD W e) (ds ++ [d]) else none) = (if okD s e = true then runD (sgD s e) (wD W e) ds else none).bind _
    by_cases h : okD s e = true
    · rw [if_pos h, if_pos h, runD_app]
    · rw [if_neg h, if_neg h]
      rfl
theorem sgD_k {s : Sg} {d : Dd} : (sgD s d).k = s.k := by
  cases d with
  | echo dl t o => cases o <;> rfl
  | _ => rfl
/-- a deed's wish is of prices that repr shows -/
theorem isPr_cases {x : V} (h : isPr x = true) (hb : ∀ i, x = .int i → i ≤ BigI) : ∃ o, x = oI o ∧ OkQ o := by
  unfold isPr at h
  cases x with
  | non => exact ⟨none, rfl, fun i e => by cases e⟩
  | int i =>
    refine ⟨some i, rfl, fun j e => ?_⟩
    cases e
    exact ⟨by simpa [isI, loB, hiB] using h, hb i rfl⟩
  | _ => simp [isI] at h
theorem pr_list : ∀ {xs : List V}, xs.all isPr = true → (∀ i, V.int i ∈ xs → i ≤ BigI) → ∃ r : List (Option Int), xs = r.map oI ∧ ∀ p ∈ r, OkQ p
  | [], _, _ => ⟨[], rfl, fun _ h => by cases h⟩
  | x :: xs, h, hb => by
    rw [List.all_cons, Bool.and_eq_true] at h
    obtain ⟨o, e1, h1⟩ := isPr_cases h.1 fun i e => hb i (by rw [e]; exact List.mem_cons_self)
    obtain ⟨r, e2, h2⟩ := pr_list h.2 fun i hi => hb i (List.mem_cons_of_mem _ hi)
    refine ⟨o :: r, by rw [e1, e2]; rfl, fun p hp => ?_⟩
    rcases List.mem_cons.mp hp with rfl | hp
    · exact h1
    · exact h2 p hp
theorem WOk.step {K : PySem.W.Frag} {H : Hp} {s : Sg} {W : Int → Option V} {v : V} {d : Dd} (h : WOk s.k H W) (hd : DeedAt K H v d) (ok : okD s d = true) : WOk (sgD s d).k H (wD W d) := by
  rw [sgD_k]
  cases d with
  | wish pl pr o =>
    obtain ⟨a, _, _, _, hpr, ho, hb⟩ := hd
    simp only [okD, Bool.and_eq_true] at ok
    intro i v hv
    have hv : (if i = dI pl then some pr else W i) = some v := hv
    by_cases e : i = dI pl
    · rw [if_pos e] at hv
      obtain rfl : pr = v := Option.some.inj hv
      cases o with
      | none => simp [vPr] at ok
      | some xs =>
        simp only [vPr, Bool.and_eq_true, decide_eq_true_eq] at ok
        obtain ⟨c, e1, hc⟩ := ho
        obtain ⟨r, e2, h2⟩ := pr_list ok.2.2 (hb xs rfl)
        refine ⟨c, r, e1, by rw [← e2]; exact hc, ?_, h2⟩
        have := ok.2.1
        rw [e2, List.length_map] at this
        exact this
    · rw [if_neg e] at hv
      exact h i v hv
  | free pl =>
    intro i v hv
    have hv : (if neP (dI pl) i = true then W i else none) = some v := hv
    split at hv
    · exact h i v hv
    · cases hv
  | len pl =>
    intro i v hv
    have hv : (if ltP (dI pl) i = true then W i else none) = some v := hv
    split at hv
    · exact h i v hv
    · cases hv
  | echo dl t o => exact h
  | drop i => exact h
end Ef

set_option Elab.async false
set_option linter.all false
set_option maxRecDepth 100000
set_option maxHeartbeats 4000000
namespace Ef
open PySem PySem.Spec PyProof.Rows L2 He L2H LamX
/-! ### a heap without its tables of code objects -/
def nt (H : Hp) : Hp := fun c => match H c with
  | some o => if isTbl o = true then none else some o
  | none => none
theorem nt_at {H : Hp} {c : Addr} {o : HO} (h : H c = some o) (t : isTbl o = false) : nt H c = some o := by
  unfold nt
  rw [h]
  show (if isTbl o = true then none else some o) = some o
  rw [t] <;> rfl
theorem nt_of {H : Hp} {c : Addr} {o : HO} (h : nt H c = some o) : H c = some o ∧ isTbl o = false := by
  unfold nt at h
  cases e : H c with
  | none => rw [e] at h; cases h
  | some u =>
    rw [e] at h
    have h : (if isTbl u = true then none else some u) = some o := h
    cases t : isTbl u with
    | true => rw [t, if_pos rfl] at h; cases h
    | false =>
      rw [t, if_neg Bool.false_ne_true] at h
      cases h
      exact ⟨rfl, t⟩
theorem nt_ext {H H1 : Hp} (k : ExtN H H1) : Same (nt H) H1 := fun c o h => by
  obtain ⟨h1, h2⟩ := nt_of h
  exact k c o h1 fun ps e => by rw [e] at h2; cases h2
theorem nt_same {H H1 : Hp} (k : Same H H1) : Same (nt H) (nt H1) := fun c o h => by
  obtain ⟨h1, h2⟩ := nt_of h
  exact nt_at (k c o h1) h2
mutual
theorem Shw.nt {b : Bool} {H : Hp} : ∀ {v : V} {d : PyData}, Shw b H v d → Shw b (nt H) v d
  | _, _, .non => .non
  | _, _, .bl x => .bl x
  | _, _, .int i => .int i
  | _, _, .str x => .str x
  | _, _, .lst h n r => .lst (nt_at h rfl) n (ShwL.nt r)
  | _, _, .tup h r => .tup (nt_at h rfl) (ShwL.nt r)
  | _, _, .dK h r => .dK (nt_at h rfl) (ShwL.nt r)
  | _, _, .dP h => .dP (nt_at h rfl)
  | _, _, .odd h => .odd (nt_at h rfl)
theorem ShwL.nt {b : Bool} {H : Hp} : ∀ {xs : List V} {ds : List PyData}, ShwL b H xs ds → ShwL b (nt H) xs ds
  | _, _, .nil => .nil
  | _, _, .cons h r => .cons (Shw.nt h) (ShwL.nt r)
end
theorem AnyD.nt {H : Hp} {v : V} (h : AnyD H v) : AnyD (nt H) v := by
  obtain ⟨b, d, h, s⟩ := h
  exact ⟨b, d, h.nt, s⟩
theorem TupV.nt {H : Hp} {v : V} {o : Option (List V)} (h : TupV H v o) : TupV (nt H) v o := by
  cases o with
  | some xs =>
    obtain ⟨a, e, h⟩ := h
    exact ⟨a, e, nt_at h rfl⟩
  | none => exact fun a xs e z => h a xs e (nt_of z).1
theorem RowsT.nt {H : Hp} {v : V} {R : Rw} (h : RowsT H v R) : RowsT (nt H) v R := by
  obtain ⟨a, xs, e, h, p⟩ := h
  exact ⟨a, xs, e, nt_at h rfl, paired_mono p fun _ _ ⟨b, e, h⟩ => ⟨b, e, nt_at h rfl⟩⟩
theorem TabAt.nt {K : PySem.W.Frag} {H : Hp} {v : V} {R : Rw} (h : TabAt K H v R) : TabAt K (nt H) v R := by
  obtain ⟨a, dx, t, e, h, r⟩ := h
  exact ⟨a, dx, t, e, nt_at h rfl, r.nt⟩
theorem TabQ.nt {K : PySem.W.Frag} {H : Hp} {v : V} {o : Option Rw} (h : TabQ K H v o) : TabQ K (nt H) v o := by
  cases o with
  | none => exact AnyD.nt h
  | some R => exact TabAt.nt h
theorem DeedAt.nt {K : PySem.W.Frag} {H : Hp} {v : V} {d : Dd} (h : DeedAt K H v d) : DeedAt K (nt H) v d := by
  cases d with
  | wish pl pr o =>
    obtain ⟨a, e, h, h1, h2, h3, h4⟩ := h
    exact ⟨a, e, nt_at h rfl, h1.nt, h2.nt, h3.nt, h4⟩
  | free pl =>
    obtain ⟨a, e, h, h1⟩ := h
    exact ⟨a, e, nt_at h rfl, h1.nt⟩
  | len pl =>
    obtain ⟨a, e, h, h1⟩ := h
    exact ⟨a, e, nt_at h rfl, h1.nt⟩
  | echo dl t o =>
    obtain ⟨a, e, h, h1, h2, h3⟩ := h
    exact ⟨a, e, nt_at h rfl, h1.nt, h2.nt, h3⟩
  | drop pl =>
    obtain ⟨a, e, h, h1⟩ := h
    exact ⟨a, e, nt_at h rfl, h1.nt⟩
theorem DeedAt.ext {K : PySem.W.Frag} {H H1 : Hp} {v : V} {d : Dd} (k : ExtN H H1) (h : DeedAt K H v d) : DeedAt K H1 v d := h.nt.same (nt_ext k)
/-! ### the book through a step -/
theorem BookAt.al {K : PySem.W.Frag} {H H1 : Hp} {v : V} {b pa la : Addr} {st : V} {ps ls : List V} {ex : List Addr} (h : BookAt K H v b pa la st ps ls) (a : Al ex H H1) (n : ∀ c ∈ ex, c ≠ b ∧ c ≠ pa ∧ c ≠ la) : BookAt K H1 v b pa la st ps ls := by
  obtain ⟨e, ⟨dx, hb⟩, hpa, hla, hne⟩ := h
  exact ⟨e, ⟨dx, a _ _ hb (fun m => (n _ m).1 rfl) rfl⟩, a _ _ hpa (fun m => (n _ m).2.1 rfl) rfl, a _ _ hla (fun m => (n _ m).2.2 rfl) rfl, hne⟩
theorem Pen.al {p l : Addr} {n : Nat} {H H1 : Hp} {ex : List Addr} (h : Pen p l n H) (a : Al ex H H1) (hp : p ∉ ex) (hl : l ∉ ex) : Pen p l n H1 := by
  obtain ⟨ns, u, r, h1, h2, h3⟩ := h
  exact ⟨ns, u, r, a _ _ h1 hp rfl, a _ _ h2 hl rfl, h3⟩
/-! ### the tables of the defs that make lambdas -/
def tb (K : PySem.W.Frag) (y : Str) : Addr := tabOf K (codeOf K (y, none))
def lamQ (y : Str) (st : Stmt) : Str := (envOfC y (defScope st) 0 0 .none).qual ++ "<lambda>"
def LT (K : PySem.W.Frag) : List (Addr × Str) := [(tb K "law", lamQ "law" s_law), (tb K "_law_run_right", lamQ "_law_run_right" s_l_run_right), (tb K "_law_void_right", lamQ "_law_void_right" s_l_void_right)]
structure TbOk (K : PySem.W.Frag) (mg : Str → Option Value) (base : Heap) : Prop where
  t1 : TabB base mg (codeOf K ("law", none)) (tb K "law")
  t2 : TabB base mg (codeOf K ("_law_run_right", none)) (tb K "_law_run_right")
  t3 : TabB base mg (codeOf K ("_law_void_right", none)) (tb K "_law_void_right")
  n12 : tb K "law" ≠ tb K "_law_run_right"
  n13 : tb K "law" ≠ tb K "_law_void_right"
  n23 : tb K "_law_run_right" ≠ tb K "_law_void_right"
section
variable {K : PySem.W.Frag} {mg : Str → Option Value} {base : Heap}
theorem TbOk.u1 (t : TbOk K mg base) : ∀ p ∈ LT K, p.1 = tb K "law" → p.2 = lamQ "law" s_law := fun p hp e => by
  simp only [LT, List.mem_cons, List.not_mem_nil, or_false] at hp
  rcases hp with rfl | rfl | rfl
  · rfl
  · exact absurd e.symm t.n12
  · exact absurd e.symm t.n13
theorem TbOk.u2 (t : TbOk K mg base) : ∀ p ∈ LT K, p.1 = tb K "_law_run_right" → p.2 = lamQ "_law_run_right" s_l_run_right := fun p hp e => by
  simp only [LT, List.mem_cons, List.not_mem_nil, or_false] at hp
  rcases hp with rfl | rfl | rfl
  · exact absurd e t.n12
  · rfl
  · exact absurd e.symm t.n23
theorem TbOk.u3 (t : TbOk K mg base) : ∀ p ∈ LT K, p.1 = tb K "_law_void_right" → p.2 = lamQ "_law_void_right" s_l_void_right := fun p hp e => by
  simp only [LT, List.mem_cons, List.not_mem_nil, or_false] at hp
  rcases hp with rfl | rfl | rfl
  · exact absurd e t.n13
  · exact absurd e t.n23
  · rfl
theorem lt1 : (tb K "law", lamQ "law" s_law) ∈ LT K := by simp [LT]
theorem lt2 : (tb K "_law_run_right", lamQ "_law_run_right" s_l_run_right) ∈ LT K := by simp [LT]
theorem lt3 : (tb K "_law_void_right", lamQ "_law_void_right" s_l_void_right) ∈ LT K := by simp [LT]
end
end Ef

set_option Elab.async false
set_option linter.all false
set_option maxRecDepth 100000
set_option maxHeartbeats 4000000
namespace Ef
open PySem PySem.Spec PyProof.Rows L2 He L2H LamX
/-! ### _law_run_right -/
abbrev nRR : List Str := ["_law_pen_here", "_law_book", "_law_states", "_law_song_here", "_law_wishes", "_law_is_done", "_law_k", "_law_due", "_law_is_told", "_law_deeds"]
theorem bnd_rr : BindN "_law_run_right" "_law_run_right" s_l_run_right ["_law_pen_here", "_law_book", "_law_states"] := fun _ _ _ _ _ _ us hl => match us, hl with | [_, _, _], _ => rfl
theorem sc_rr : FnScope nRR ["_law_pen_here", "_law_book", "_law_states"] (defScope s_l_run_right) := ⟨rfl, rfl, rfl, by decide +kernel, rfl, by decide +kernel, by decide +kernel⟩
def cRun : Nat := 400
/-- a state as the law keeps it -/
def LSt (H : Hp) (v : V) (s : Sg) (W : Int → Option V) : Prop := ∃ c lsv lwv, v = .ref c ∧ H c = some (.tup [lsv, lwv]) ∧ LSong H lsv s ∧ WAt H lwv W
theorem LSt.fi {K : PySem.W.Frag} {H H1 : Hp} {v : V} {s : Sg} {W : Int → Option V} (k : Fi K H H1) (h : LSt H v s W) : LSt H1 v s W := by
  obtain ⟨c, a, b, e, h, h1, h2⟩ := h
  exact ⟨c, a, b, e, k _ _ h rfl, h1.fi k, h2.fi k⟩
theorem LSt.same {H H1 : Hp} {v : V} {s : Sg} {W : Int → Option V} (k : Same H H1) (h : LSt H v s W) : LSt H1 v s W := by
  obtain ⟨c, a, b, e, h, h1, h2⟩ := h
  exact ⟨c, a, b, e, k _ _ h, h1.same k, h2.same k⟩
/-- the song and the wishes that stand now -/
structure Now (K : PySem.W.Frag) (H : Hp) (st sv : V) (s : Sg) (W : Int → Option V) : Prop where
  st : StP K H st s W
  sv : LSt H sv s W
  ok : OkSg s
  inw : InW s.n W
  wok : WOk s.k H W
theorem Now.fi {w : World} {K : PySem.W.Frag} {mg : Str → Option Value} (T : Top2 w K mg) {H H1 : Hp} {st sv : V} {s : Sg} {W : Int → Option V} (k : Fi K H H1) (h : Now K H st sv s W) : Now K H1 st sv s W := ⟨h.st.fi T k, h.sv.fi k, h.ok, h.inw, h.wok.fi k⟩
structure RIn (K : PySem.W.Frag) (H : Hp) (p l : Addr) (n : Nat) (b pa la ss : Addr) (st sv : V) (ps ls svs : List V) (s : Sg) (W : Int → Option V) : Prop where
  pen : Pen p l n H
  bk : BookAt K H (.ref b) b pa la st ps ls
  now : Now K H st sv s W
  hss : H ss = some (.lst (svs ++ [sv]))
  ne1 : ss ≠ pa
  ne2 : ss ≠ la
  nel : l ≠ ss ∧ l ≠ pa ∧ l ≠ la
  tabs : Tabs (LT K) H
def pRunRight (K : PySem.W.Frag) (pn bv stv : V) (H : Hp) (Q : VK) (_ : XK) : Prop := ∃ p l n b pa la ss st sv ps ls svs s W, pn = .ref p ∧ bv = .ref b ∧ stv = .ref ss ∧ RIn K H p l (n + cRun) b pa la ss st sv ps ls svs s W ∧ ps.length ≤ 100 ∧ svs.length ≤ 100 ∧
  (∀ H', Al [p, b, pa, la, ss] H H' → RIn K H' p l n b pa la ss st sv ps ls svs s W → Q (.bl true) H') ∧
  (∀ H' la' st' sv' s' W', Al [p, b, pa, la, ss] H H' → (∀ c xs, H c = some (.lst xs) → c ≠ la') → RIn K H' p l n b pa la' ss st' sv' (ps ++ [st]) [] (svs ++ [sv]) s' W' → Q (.bl true) H')
theorem Fi.upd {K : PySem.W.Frag} {H : Hp} {a : Addr} {u o : HO} (h : H a = some u) (hu : imm K u = false) : Fi K H (L2.upd H a o) := fun c z e i => by
  rw [upd_ne (fun q : c = a => by rw [q, h] at e; rw [← Option.some.inj e, hu] at i; cases i)]
  exact e
theorem two_of {α : Type} {l : List α} (h : l.length = 2) : ∃ a b, l = [a, b] := match l, h with | [a, b], _ => ⟨a, b, rfl⟩
theorem three_of {α : Type} {l : List α} (h : l.length = 3) : ∃ a b c, l = [a, b, c] := match l, h with | [a, b, c], _ => ⟨a, b, c, rfl⟩
/-- the loop over the deeds: H the entry, H0 where the list ld of the deeds stands -/
structure RL (K : PySem.W.Frag) (H H0 H2 : Hp) (p l : Addr) (n : Nat) (ld : Addr) (s : Sg) (W : Int → Option V) (s' : Sg) (W' : Int → Option V) (dn : Bool) (lsv lwv : V) (dvs : List V) (ds : List Dd) : Prop where
  ex : Ex p H H2
  k0 : ∀ c o, H0 c = some o → c ≠ p → c ≠ ld → H2 c = some o
  pen : Pen p l n H2
  hld : H2 ld = some (.lst dvs)
  prs : Paired (DeedAt K (nw H0 H2)) dvs ds
  sng : LSong H2 lsv s'
  wsh : WAt H2 lwv W'
  ok : OkSg s'
  inw : InW s'.n W'
  wok : WOk s'.k H2 W'
  yes : dn = true → runD s W ds = some (s', W')
  no : dn = false → runD s W ds = none
theorem RL.anc {K : PySem.W.Frag} {H H0 H2 : Hp} {p l : Addr} {n : Nat} {ld : Addr} {s s' : Sg} {W W' : Int → Option V} {dn : Bool} {lsv lwv : V} {dvs : List V} {ds : List Dd} (r : RL K H H0 H2 p l n ld s W s' W' dn lsv lwv dvs ds) : Anc H0 H2 := fun c e => by
  cases q : H0 c with
  | none => rfl
  | some o =>
    by_cases h1 : c = p
    · obtain ⟨ns, u, rr, hp, _⟩ := r.pen
      rw [h1, hp] at e
      cases e
    · by_cases h2 : c = ld
      · rw [h2, r.hld] at e
        cases e
      · rw [r.k0 c o q h1 h2] at e
        cases e
/-- one deed more -/
theorem RL.next {K : PySem.W.Frag} {H H0 H2 H3 H4 H6 : Hp} {p l : Addr} {n n3 n4 m m0 : Nat} {ld : Addr} {s s' : Sg} {W W' : Int → Option V} {dn : Bool} {lsv lwv v r : V} {dvs : List V} {ds : List Dd} {d : Dd} (h : RL K H H0 H2 p l n ld s W s' W' dn lsv lwv dvs ds)
    (pH : Pen p l m H) (p0 : Pen p l m0 H0) (hl : H ld = none) (h0 : H0 ld ≠ none) (e3 : Ex p H2 H3) (pen3 : Pen p l n3 H3) (e4 : Ex p H3 H4) (pen4 : Pen p l n4 H4) (hd : DeedAt K (nw H3 H4) v d) (s6 : Same (upd H4 ld (.lst (dvs ++ [v]))) H6)
    (hb : BehOk H6 r (okD s' d) lsv lwv (sgD s' d) (wD W' d)) {n6 : Nat} (hn : n6 ≤ n4) :
    ∃ a6 due sv' wv' s'' W'', r = .ref a6 ∧ H6 a6 = some (.tup [due, sv', wv']) ∧ RL K H H0 H6 p l n6 ld s W s'' W'' (dn && decide (due = V.non)) sv' wv' (dvs ++ [v]) (ds ++ [d]) := by
  have e24 := e3.trans e4
  have ldp : ld ≠ p := pen_ne h.pen h.hld fun _ z => by cases z
  have hld4 := e24 _ _ h.hld ldp
  have f24 : Fi K H2 H4 := e24.fi h.pen
  have f26 : Fi K H2 H6 := (f24.trans (Fi.upd hld4 rfl)).trans (Fi.of s6)
  have anc3 : Anc H0 H3 := fun c e => h.anc c (e3.back pen3 e)
  have nv : Same (nw H3 H4) (nw H0 H6) := Same.trans (Same.trans (nw_anc anc3) (nw_upd h0 hld4 fun _ z => by cases z)) (nw_mono s6)
  have no' : Same (nw H0 H2) (nw H0 H6) := Same.trans (Same.trans (nw_ex p0 h.pen e24) (nw_upd h0 hld4 fun _ z => by cases z)) (nw_mono s6)
  have hd6 := hd.same nv
  have hdH : DeedAt K H6 v d := hd6.same nw_le
  obtain ⟨a6, due, sv', wv', er, ha6, hdue, hy, hnn⟩ := hb
  have base : Ex p H H6 ∧ (∀ c o, H0 c = some o → c ≠ p → c ≠ ld → H6 c = some o) ∧ Pen p l n6 H6 ∧ H6 ld = some (.lst (dvs ++ [v])) ∧ Paired (DeedAt K (nw H0 H6)) (dvs ++ [v]) (ds ++ [d]) := by
    refine ⟨((h.ex.trans e24).mut hl).trans (Ex.of s6), fun c o e h1 h2 => ?_, ((Pen.upd pH hl pen4).same s6).less hn, s6 _ _ upd_same, paired_snoc (paired_mono h.prs fun _ _ z => z.same no') hd6⟩
    refine s6 _ _ ?_
    rw [upd_ne h2]
    exact e24 _ _ (h.k0 c o e h1 h2) h1
  obtain ⟨b1, b2, b3, b4, b5⟩ := base
  cases hok : okD s' d with
  | true =>
    rw [hok] at hdue hy
    obtain ⟨h1, h2⟩ := hy rfl
    refine ⟨a6, due, sv', wv', sgD s' d, wD W' d, er, ha6, b1, b2, b3, b4, b5, h1, h2, okD_sg h.ok hd6.tabD hok, okD_in h.inw hok, (h.wok.fi f26).step hdH hok, fun z => ?_, fun z => ?_⟩
    · rw [hdue, Bool.and_true] at z
      rw [runD_app, h.yes z]
      show (if okD s' d = true then _ else none) = _
      rw [if_pos hok]
    · rw [hdue, Bool.and_true] at z
      rw [runD_app, h.no z]
      rfl
  | false =>
    rw [hok] at hdue hnn
    obtain ⟨rfl, rfl⟩ := hnn rfl
    refine ⟨a6, due, _, _, s', W', er, ha6, b1, b2, b3, b4, b5, h.sng.fi f26, h.wsh.fi f26, h.ok, h.inw, h.wok.fi f26, fun z => ?_, fun z => ?_⟩
    · rw [hdue, Bool.and_false] at z
      cases z
    · rw [runD_app]
      cases dn with
      | false => rw [h.no rfl]; rfl
      | true =>
        rw [h.yes rfl]
        show (if okD s' d = true then _ else none) = _
        rw [hok] <;> rfl
section
variable {P : Program} {w : World} {K : PySem.W.Frag} {mg : Str → Option Value} {base : Heap}
theorem law_run_right (T : Top3 w K mg) (tbk : TbOk K mg base) : ClG P w K mg base CX0 28 "_law_run_right" (sp3 (pRunRight K)) := by
  have T1 : Top K mg := T.toTop
  obtain ⟨fd, F⟩ := T1.d_l_run_right
  obtain ⟨fr, Fr⟩ := T1.d_l_refused
  refine ClG.of T1.g_l_run_right F (raw_ofGT F sc_rr bnd_rr len3 fun A outer s0 H vs Q E hr hgd h => ?_)
  obtain ⟨pn, bv, stv, rfl, p, l, n, b, pa, la, ss, st, sv, ps, ls, svs, s, W, rfl, rfl, rfl, R, hps, hsv, qf, qd⟩ := h
  have nd := sc_rr.nd
  have hr1 : Room 1 _ := hr.mono (by decide)
  have hr6 : Room 6 _ := hr.mono (by decide)
  have hr13 : Room 13 _ := hr.mono (by decide)
  have hr25 : Room 25 _ := hr.mono (by decide)
  suffices hh : ∃ t, PSs (cxOf CX0 P w K mg base nRR "_law_run_right" (defScope s_l_run_right) (ga K "_law_run_right") (.ref (codeOf K ("_law_run_right", none))) A outer s0 H E).nox (defBody s_l_run_right) t ∧ t { nx := fun _ H' => Q .non H', rt := Q } (L2.start nRR [.ref p, .ref b, .ref ss]) H by
    obtain ⟨t, ht, hq⟩ := hh
    exact ⟨t, ht.nox, hq⟩
  have tail : ∃ t, PSs (cxOf CX0 P w K mg base nRR "_law_run_right" (defScope s_l_run_right) (ga K "_law_run_right") (.ref (codeOf K ("_law_run_right", none))) A outer s0 H E).nox ((defBody s_l_run_right).drop 4) t ∧
      (∀ (u6 u7 u9 : Option V) (lsv lwv : V) (H5 : Hp) (bd bt : Bool), bd = true → bt = true → H5 ss = some (.lst (svs ++ [sv])) → (∀ c, H5 c = none → Q (.bl true) (upd (upd H5 c (.tup [lsv, lwv])) ss (.lst (svs ++ [sv] ++ [.ref c])))) → t { nx := fun _ H' => Q .non H', rt := Q } [some (.ref p), some (.ref b), some (.ref ss), some lsv, some lwv, some (.bl bd), u6, u7, some (.bl bt), u9] H5) ∧
      (∀ (u3 u4 u6 u7 u9 : Option V) (H5 : Hp) (bd bt : Bool), bd = false → bt = false → Q (.bl true) H5 → t { nx := fun _ H' => Q .non H', rt := Q } [some (.ref p), some (.ref b), some (.ref ss), u3, u4, some (.bl bd), u6, u7, some (.bl bt), u9] H5) := by
    refine ⟨_, pss_cons (ps_if (pt_val (pv 5)) (pss_one (ps_expr (pe_bm PySem.F.plainAttrs_list PySem.F.slot_list_append PySem.F.type_list_append mt_append (pv 2) (pa_cons (pe_tup (pa_cons (pv 3) (pa_cons (pv 4) pa_nil))) pa_nil)))) pss_nil)
      (pss_one (ps_ret (pe_cmpR op_eq (pv 8) (pv 5) (nomark _)))), ?_, ?_⟩
    · intro u6 u7 u9 lsv lwv H5 bd bt e1 e2 h5 q
      subst e1 e2
      refine ⟨_, rfl, _, rfl, iteT ⟨_, rfl, .inl ⟨rfl, _, SqL.of h5⟩, _, rfl, _, rfl, by show 2 ≤ sizeLine; decide, fun c hc => ⟨ss, _, _, rfl, rfl, by rw [upd_ne (ne_of_none h5 hc)]; exact h5, ?_, ?_⟩⟩⟩
      · rw [List.length_append, sizeLine_eq]
        show svs.length + 1 < _
        omega
      · exact ⟨_, rfl, _, rfl, rfl, q c hc⟩
    · intro u3 u4 u6 u7 u9 H5 bd bt e1 e2 q
      subst e1 e2
      exact ⟨_, rfl, _, rfl, iteF ⟨_, rfl, _, rfl, rfl, q⟩⟩
  obtain ⟨tt, htl, qdone, qfail⟩ := tail
  refine ⟨_, pss_cons (ps_asg (pe_ix ix_list (pv 2) (pe_un un_neg pe_int) (fun _ _ => rfl)) (pg_tup rfl (pgs_cons (pg_name (i := 3) nd rfl (.inl rfl)) (pgs_cons (pg_name (i := 4) nd rfl (.inl rfl)) pgs_nil))))
    (pss_cons (ps_asg (pe_tup (pa_cons (pe_lst pa_nil) (pa_cons pe_bl pa_nil))) (pg_tup rfl (pgs_cons (pg_name (i := 9) nd rfl (.inr rfl)) (pgs_cons (pg_name (i := 5) nd rfl (.inl rfl)) pgs_nil))))
    (pss_cons (ps_for PassesOwn.never rfl (pi_range1 (by rfl) T1.b_range (pa_cons (pe_op op_add pe_int (pe_f (law_draw T1) hr1 pass0 (pa_cons (pv 0) (pa_cons pe_int pa_nil)))) pa_nil)) (pg_name (i := 6) nd rfl (.inl rfl))
      (pss_cons (ps_expr (pe_bm PySem.F.plainAttrs_list PySem.F.slot_list_append PySem.F.type_list_append mt_append (pv 9) (pa_cons (pe_ifExp (pt_cmp (pc_eqI (pe_f (law_draw T1) hr1 pass0 (pa_cons (pv 0) (pa_cons pe_int pa_nil))) pe_int)) (pe_f (law_odd_deed T1) hr6 pass0 (pa_cons (pv 0) (pa_cons (pv 3) pa_nil))) (pe_f (law_deed T1) hr6 pass0 (pa_cons (pv 0) (pa_cons (pv 3) pa_nil)))) pa_nil)))
      (pss_cons (ps_asg (pe_g (law_behind T) hr25 hgd pass0 (pa_cons (pv 3) (pa_cons (pv 4) (pa_cons (pe_ix ix_list (pv 9) (pe_un un_neg pe_int) (fun _ _ => rfl)) pa_nil)))) (pg_tup rfl (pgs_cons (pg_name (i := 7) nd rfl (.inl rfl)) (pgs_cons (pg_name (i := 3) nd rfl (.inl rfl)) (pgs_cons (pg_name (i := 4) nd rfl (.inl rfl)) pgs_nil)))))
      (pss_one (ps_set (i := 5) nd rfl (.inl rfl) (pe_and (pv 5) (pe_one (pe_cmp (pc_isN (pv 7)) rfl))))))))
    (pss_cons (ps_if (pt_cmp (pc_eqI (pe_callB call_len (by rfl) T1.b_len (by decide +kernel) (pa_cons (pv 9) pa_nil)) pe_int)) (pss_one (ps_set (i := 8) nd rfl (.inl rfl) (pe_cmp (pc_isN (pe_lamZ (T := LT K) (TT := TTref K (fun cls d H' => XOk K H' cls d)) (st := s_l_refused) (c := codeOf K ("_law_run_right", none)) (P := tb K "_law_run_right") (k := 11) (Ng := ["_law_call", "e"]) zp_n (by rfl) T1.g_l_refused Fr bnd_refused sc_refused rfl (.inl rfl) hr13 (fun cdv => refused_n T hgd hr cdv) tbk.t2 rfl lt2 tbk.u2 (lamS_by (sc := defScope s_l_run_right) (by decide +kernel)) rfl (fun _ _ _ _ _ => rfl)
          (fun A outer s H E f c' hrl => pe_m T1.c_Book (Book_do T.toTop2) (hrl.mono (by decide)) (L2N.passes_call (L2N.takes_of rfl rfl rfl rfl) (fun _ _ _ _ z => z)) (pv 1) (pa_cons (pe_ix (r := rIxL K) ix_list (pv 9) pe_int (fun _ _ => rfl)) pa_nil)))) rfl)))
      (pss_one (ps_if (pt_cmp (pc_eqI (pe_callB call_len (by rfl) T1.b_len (by decide +kernel) (pa_cons (pv 9) pa_nil)) pe_int)) (pss_one (ps_set (i := 8) nd rfl (.inl rfl) (pe_cmp (pc_isN (pe_lamZ (T := LT K) (TT := TTref K (fun cls d H' => cls = .ref (ga K "InvalidDeed") ∧ ∃ (dd : Addr) (v : V), d = some dd ∧ H' dd = some (.xd [(("index" : Str), v)]))) (st := s_l_refused) (c := codeOf K ("_law_run_right", none)) (P := tb K "_law_run_right") (k := 11) (Ng := ["_law_call", "e"]) zp_c (by rfl) T1.g_l_refused Fr bnd_refused sc_refused rfl (.inl rfl) hr13 (fun cdv => refused_c T cdv) tbk.t2 rfl lt2 tbk.u2 (lamS_by (sc := defScope s_l_run_right) (by decide +kernel)) rfl (fun _ _ _ _ _ => rfl)
          (fun A outer s H E f c' hrl => pe_m T1.c_Book (Book_run T.toTop2) (hrl.mono (by decide)) (L2.passes_call (L2.takes_of rfl rfl rfl rfl) (fun _ _ _ _ z => z)) (pv 1) (pa_cons (pe_ix (r := rIxL K) ix_list (pv 9) pe_int (fun _ _ => rfl)) (pa_cons (pe_ix (r := rIxL K) ix_list (pv 9) pe_int (fun _ _ => rfl)) pa_nil))))) rfl))) (pss_one (ps_set (i := 8) nd rfl (.inl rfl) (pe_cmp (pc_isN (pe_lamZ (T := LT K) (TT := TTref K (fun cls d H' => cls = .ref (ga K "InvalidDeed") ∧ ∃ (dd : Addr) (v : V), d = some dd ∧ H' dd = some (.xd [(("index" : Str), v)]))) (st := s_l_refused) (c := codeOf K ("_law_run_right", none)) (P := tb K "_law_run_right") (k := 11) (Ng := ["_law_call", "e"]) zp_c (by rfl) T1.g_l_refused Fr bnd_refused sc_refused rfl (.inl rfl) hr13 (fun cdv => refused_c T cdv) tbk.t2 rfl lt2 tbk.u2 (lamS_by (sc := defScope s_l_run_right) (by decide +kernel)) rfl (fun _ _ _ _ _ => rfl)
          (fun A outer s H E f c' hrl => pe_m T1.c_Book (Book_run T.toTop2) (hrl.mono (by decide)) (L2.passes_call (L2.takes_of rfl rfl rfl rfl) (fun _ _ _ _ z => z)) (pv 1) (pa_cons (pe_ix (r := rIxL K) ix_list (pv 9) pe_int (fun _ _ => rfl)) (pa_cons (pe_ix (r := rIxL K) ix_list (pv 9) pe_int (fun _ _ => rfl)) (pa_cons (pe_ix (r := rIxL K) ix_list (pv 9) pe_int (fun _ _ => rfl)) pa_nil)))))) rfl))))))
    htl))), ?_⟩
  obtain ⟨c0, lsv0, lwv0, rfl, hc0, hls0, hlw0⟩ := R.now.sv
  refine ⟨_, rfl, _, rfl, ss, _, -1, _, rfl, rfl, SqL.of R.hss, atI_last _ _, c0, _, rfl, SqT.of hc0, rfl, _, _, rfl, _, _, rfl, ⟨rfl, ?_⟩⟩
  refine ⟨by decide, fun ld hldn => ⟨by show 2 ≤ sizeLine; decide, fun t2 ht2 => ⟨t2, _, rfl, SqT.of upd_same, rfl, _, _, rfl, _, _, rfl, ⟨rfl, ?_⟩⟩⟩⟩
  have hne2 : ld ≠ t2 := fun z => by rw [z, upd_same] at ht2; cases ht2
  have sH0 : Same H (upd (upd H ld (.lst [])) t2 (.tup [.ref ld, .bl true])) := Same.trans (Same.new hldn) (Same.new ht2)
  have hld0 : (upd (upd H ld (.lst [])) t2 (.tup [.ref ld, .bl true])) ld = some (.lst []) := by rw [upd_ne hne2, upd_same]
  generalize upd (upd H ld (.lst [])) t2 (.tup [.ref ld, .bl true]) = H0 at sH0 hld0
  have h0ld : H0 ld ≠ none := fun z => by rw [z] at hld0; cases hld0
  have pen0 := R.pen.same sH0
  refine ⟨_, rfl, _, _, rfl, p, l, n + 399, 3, rfl, rfl, pen0, by decide, by decide, fun H1 rr ex1 pen1 r0 r3 => ?_⟩
  obtain ⟨m, rfl⟩ : ∃ m : Nat, rr = (m : Int) := ⟨rr.toNat, by omega⟩
  refine ⟨_, _, rfl, rfl, (1 + (m : Int)), rfl, by omega, by omega, for_range (lo := 0) (n := 1 + m) (fun i σ H2 => ∃ (lsv lwv : V) (dn : Bool) (u6 u7 : Option V) (s' : Sg) (W' : Int → Option V) (dvs : List V) (ds : List Dd), σ = [some (.ref p), some (.ref b), some (.ref ss), some lsv, some lwv, some (.bl dn), u6, u7, none, some (.ref ld)] ∧
    RL K H H0 H2 p l (n + (3 - i) * 126 + 20) ld s W s' W' dn lsv lwv dvs ds ∧ dvs.length = i) ?_ ?_ ?_⟩
  · have ldp : ld ≠ p := pen_ne pen0 hld0 fun _ z => by cases z
    have k : Fi K H H1 := (Fi.of sH0).trans (ex1.fi pen0)
    refine ⟨lsv0, lwv0, true, none, none, s, W, [], [], rfl, ⟨(Ex.of sH0).trans ex1, fun c o e h1 _ => ex1 c o e h1, pen1.less (by omega), ex1 _ _ hld0 ldp, .nil, hls0.fi k, hlw0.fi k, R.now.ok, R.now.inw, R.now.wok.fi k, fun _ => rfl, fun z => by cases z⟩, rfl⟩
  · rintro i σ H2 hi ⟨lsv, lwv, dn, u6, u7, s', W', dvs, ds, rfl, rl, hdl⟩
    have hi2 : i ≤ 2 := by omega
    refine ⟨_, rfl, .inl ⟨rfl, _, SqL.of rl.hld⟩, _, rfl, _, _, rfl, p, l, n + (2 - i) * 126 + 145, 6, rfl, rfl, rl.pen.less (by omega), by decide, by decide, fun H3 j ex3 pen3 j0 j6 => ?_⟩
    refine ⟨_, _, rfl, rfl, _, rfl, ?_⟩
    have fs3 : Fi K H2 H3 := ex3.fi rl.pen
    by_cases hj : j = 0
    · refine itT (decide_eq_true hj) ⟨_, rfl, _, rfl, _, _, rfl, p, l, n + (2 - i) * 126 + 20, s', rfl, rl.sng.fi fs3, rl.ok, pen3.less (by show n + (2 - i) * 126 + 20 + 125 ≤ _; omega), fun H4 v d ex4 pen4 hd4 => ?_⟩
      have hld4 := (ex3.trans ex4) _ _ rl.hld (pen_ne rl.pen rl.hld fun _ z => by cases z)
      refine ⟨ld, _, _, rfl, rfl, hld4, by rw [hdl, sizeLine_eq]; omega, ?_⟩
      have f24 : Fi K H2 (upd H4 ld (.lst (dvs ++ [v]))) := ((ex3.trans ex4).fi rl.pen).trans (Fi.upd hld4 rfl)
      have hd5 : DeedAt K (upd H4 ld (.lst (dvs ++ [v]))) v d := hd4.same (Same.trans (Same.trans (nw_anc (fun c e => rl.anc c (ex3.back pen3 e))) (nw_upd h0ld hld4 fun _ z => by cases z)) nw_le)
      refine ⟨_, rfl, _, rfl, _, rfl, _, rfl, ld, _, -1, v, rfl, rfl, SqL.of upd_same, atI_last _ _, _, _, _, rfl, s', W', d, rl.sng.fi f24, rl.ok, rl.wsh.fi f24, rl.inw, hd5, fun H6 r s6 hb => ?_⟩
      obtain ⟨a6, due, sv', wv', s'', W'', rfl, ha6, rl'⟩ := rl.next (n6 := n + (3 - (i + 1)) * 126 + 20) R.pen pen0 hldn h0ld ex3 pen3 ex4 pen4 hd4 s6 hb (by omega)
      refine ⟨a6, _, rfl, SqT.of ha6, rfl, _, _, rfl, _, _, rfl, _, _, rfl, ⟨rfl, ?_⟩⟩
      have hdl' : (dvs ++ [v]).length = i + 1 := by rw [List.length_append, hdl]; rfl
      refine ⟨_, rfl, dn, rfl, ?_⟩
      cases dn with
      | false => exact iteF ⟨sv', wv', false, _, _, s'', W'', _, _, rfl, rl', hdl'⟩
      | true => exact iteT ⟨_, rfl, ⟨sv', wv', _, _, _, s'', W'', _, _, rfl, rl', hdl'⟩⟩
    · refine itF (decide_eq_false hj) ⟨_, rfl, _, rfl, _, _, rfl, p, l, n + (2 - i) * 126 + 20, s', rfl, rl.sng.fi fs3, rl.ok, pen3.less (by show n + (2 - i) * 126 + 20 + 124 ≤ _; omega), fun H4 v d ex4 pen4 hd4 => ?_⟩
      have hld4 := (ex3.trans ex4) _ _ rl.hld (pen_ne rl.pen rl.hld fun _ z => by cases z)
      refine ⟨ld, _, _, rfl, rfl, hld4, by rw [hdl, sizeLine_eq]; omega, ?_⟩
      have f24 : Fi K H2 (upd H4 ld (.lst (dvs ++ [v]))) := ((ex3.trans ex4).fi rl.pen).trans (Fi.upd hld4 rfl)
      have hd5 : DeedAt K (upd H4 ld (.lst (dvs ++ [v]))) v d := hd4.same (Same.trans (Same.trans (nw_anc (fun c e => rl.anc c (ex3.back pen3 e))) (nw_upd h0ld hld4 fun _ z => by cases z)) nw_le)
      refine ⟨_, rfl, _, rfl, _, rfl, _, rfl, ld, _, -1, v, rfl, rfl, SqL.of upd_same, atI_last _ _, _, _, _, rfl, s', W', d, rl.sng.fi f24, rl.ok, rl.wsh.fi f24, rl.inw, hd5, fun H6 r s6 hb => ?_⟩
      obtain ⟨a6, due, sv', wv', s'', W'', rfl, ha6, rl'⟩ := rl.next (n6 := n + (3 - (i + 1)) * 126 + 20) R.pen pen0 hldn h0ld ex3 pen3 ex4 pen4 hd4 s6 hb (by omega)
      refine ⟨a6, _, rfl, SqT.of ha6, rfl, _, _, rfl, _, _, rfl, _, _, rfl, ⟨rfl, ?_⟩⟩
      have hdl' : (dvs ++ [v]).length = i + 1 := by rw [List.length_append, hdl]; rfl
      refine ⟨_, rfl, dn, rfl, ?_⟩
      cases dn with
      | false => exact iteF ⟨sv', wv', false, _, _, s'', W'', _, _, rfl, rl', hdl'⟩
      | true => exact iteT ⟨_, rfl, ⟨sv', wv', _, _, _, s'', W'', _, _, rfl, rl', hdl'⟩⟩
  · rintro σ H2 ⟨lsv, lwv, dn, u6, u7, s', W', dvs, ds, rfl, rl, hdl⟩
    obtain ⟨ns0, uu0, rr0, hpp, hpl, _⟩ := id R.pen
    obtain ⟨_, ⟨dx, hb⟩, hpa, hla, hpne⟩ := id R.bk
    have pb : b ≠ p := pen_ne R.pen hb fun _ z => by cases z
    have ppa : pa ≠ p := pen_ne R.pen hpa fun _ z => by cases z
    have pla : la ≠ p := pen_ne R.pen hla fun _ z => by cases z
    have pss : ss ≠ p := pen_ne R.pen R.hss fun _ z => by cases z
    have lb : l ≠ b := ne_of hpl hb (by intro z; cases z)
    have sb : ss ≠ b := ne_of R.hss hb (by intro z; cases z)
    have lp : l ≠ p := pen_ne R.pen hpl fun _ z => by cases z
    have hz : ps.length < sizeLine := by rw [sizeLine_eq]; omega
    have a2 : Al [p] H H2 := Al.ofEx rl.ex (by simp)
    have B2 : BookAt K H2 (.ref b) b pa la st ps ls := R.bk.al a2 fun c hc => by
      obtain rfl : c = p := by simpa using hc
      exact ⟨Ne.symm pb, Ne.symm ppa, Ne.symm pla⟩
    have tabs2 : Tabs (LT K) H2 := tabs_ex R.tabs R.pen rl.ex
    have fiP : ∀ {H' : Hp}, Al [p] H H' → Fi K H H' := fun a => a.fi fun c hc o e => by
      obtain rfl : c = p := by simpa using hc
      rw [hpp] at e
      cases e
      simp [imm, penK]
    have pen2 : Pen p l n H2 := rl.pen.less (by omega)
    have fail : runD s W ds = none → ∀ (H3 H4 : Hp) (u6 u7 : Option V) (bt : Bool), ExtN H2 H3 → Tabs (LT K) H3 → Same H3 H4 → bt = false → tt { nx := fun _ H' => Q .non H', rt := Q } [some (.ref p), some (.ref b), some (.ref ss), some lsv, some lwv, some (.bl dn), u6, u7, some (.bl bt), some (.ref ld)] H4 := fun hrun H3 H4 u6 u7 bt eN T3 s4 hbt => by
      have hdn : dn = false := by
        cases dn with
        | false => rfl
        | true => rw [rl.yes rfl] at hrun; cases hrun
      have a4 : Al [p] H H4 := a2.trans ((Al.ext eN).trans (Al.of s4))
      have pen4 : Pen p l n H4 := (pen2.al (ex := []) (Al.ext eN) (by simp) (by simp)).same s4
      refine qfail _ _ _ _ _ H4 dn bt hdn hbt (qf H4 (a4.mono (by simp)) ⟨pen4, R.bk.al a4 fun c hc => ?_, R.now.fi T.toTop2 (fiP a4), a4 _ _ R.hss (by simpa using pss) rfl, R.ne1, R.ne2, R.nel, tabs_same T3 s4⟩)
      obtain rfl : c = p := by simpa using hc
      exact ⟨Ne.symm pb, Ne.symm ppa, Ne.symm pla⟩
    have done : ∀ s1 W1, runD s W ds = some (s1, W1) → ∀ (H3 H4 : Hp) (l' : Addr) (st' : V) (u6 u7 : Option V) (bt : Bool), ExtN H2 H3 → Tabs (LT K) H3 → Fb b pa la H3 H4 → H3 l' = none → BookAt K H4 (.ref b) b pa l' st' (ps ++ [st]) [] → StP K H4 st' s1 W1 → bt = true →
        tt { nx := fun _ H' => Q .non H', rt := Q } [some (.ref p), some (.ref b), some (.ref ss), some lsv, some lwv, some (.bl dn), u6, u7, some (.bl bt), some (.ref ld)] H4 := fun s1 W1 hrun H3 H4 l' st' u6 u7 bt eN T3 fb hl' B4 hS4 hbt => by
      have hdn : dn = true := by
        cases dn with
        | true => rfl
        | false => rw [rl.no rfl] at hrun; cases hrun
      rw [rl.yes hdn] at hrun
      cases hrun
      have B3 : BookAt K H3 (.ref b) b pa la st ps ls := B2.al (ex := []) (Al.ext eN) (by simp)
      have pen3 : Pen p l n H3 := pen2.al (ex := []) (Al.ext eN) (by simp) (by simp)
      have a34 : Al [b, pa, la] H3 H4 := Al.ofFb fb fun _ h => h
      have pen4 : Pen p l n H4 := pen3.al a34 (by simp [Ne.symm pb, Ne.symm ppa, Ne.symm pla]) (by simp [lb, R.nel.2.1, R.nel.2.2])
      have hss2 := a2 _ _ R.hss (by simpa using pss) rfl
      have hss3 : H3 ss = some (.lst (svs ++ [.ref c0])) := eN _ _ hss2 fun ps z => by cases z
      have hss4 := a34 _ _ hss3 (by simp [sb, R.ne1, R.ne2]) rfl
      have f23 : Fi K H2 H3 := (Al.ext (ex := []) eN).fi (by simp)
      have f24 : Fi K H2 H4 := f23.trans (Fb.fi B3 fb)
      have ssl : ss ≠ l' := fun z => by rw [z, hl'] at hss3; cases hss3
      refine qdone u6 u7 _ lsv lwv H4 dn bt hdn hbt hss4 fun c hc => ?_
      have scn := Same.new (o := .tup [lsv, lwv]) hc
      have hss5 := scn _ _ hss4
      have ssc : ss ≠ c := ne_of_none hss4 hc
      have f47 : Fi K H4 (upd (upd H4 c (.tup [lsv, lwv])) ss (.lst (svs ++ [.ref c0] ++ [.ref c]))) := (Fi.of scn).trans (Fi.upd hss5 rfl)
      have f27 := f24.trans f47
      have a57 : Al [ss] (upd H4 c (.tup [lsv, lwv])) (upd (upd H4 c (.tup [lsv, lwv])) ss (.lst (svs ++ [.ref c0] ++ [.ref c]))) := Al.upd (by simp)
      obtain ⟨_, ⟨dx4, hb4⟩, hpa4, hla4, hne4⟩ := id B4
      refine qd _ l' st' (.ref c) s' W' ?_ ?_ ⟨?_, ?_, ⟨hS4.fi T.toTop2 f47, ⟨c, lsv, lwv, rfl, ?_, rl.sng.fi f27, rl.wsh.fi f27⟩, rl.ok, rl.inw, rl.wok.fi f27⟩, upd_same, R.ne1, ssl, ⟨R.nel.1, R.nel.2.1, fun z => ?_⟩, ?_⟩
      · exact (((a2.mono (by simp)).trans (Al.ext eN)).trans (a34.mono (fun c h => by simp only [List.mem_cons, List.not_mem_nil, or_false] at h ⊢; rcases h with h | h | h <;> simp [h]))).trans ((Al.of scn).trans (a57.mono (by simp)))
      · intro d xs hd z
        have dp : d ≠ p := pen_ne R.pen hd fun _ z => by cases z
        have h2 := rl.ex _ _ hd dp
        have h3 := eN _ _ h2 fun ps z => by cases z
        rw [z, hl'] at h3
        cases h3
      · exact (pen4.same scn).al a57 (by simpa using Ne.symm pss) (by simpa using R.nel.1)
      · refine (B4.same scn).al a57 fun d hd => ?_
        obtain rfl : d = ss := by simpa using hd
        exact ⟨sb, R.ne1, ssl⟩
      · rw [upd_ne (Ne.symm ssc), upd_same]
      · obtain ⟨_, _, _, _, h3, _⟩ := pen3
        rw [z, hl'] at h3
        cases h3
      · exact tabs_upd (tabs_same (tabs_fb T3 B3 fb) scn) hss5 rfl
    have pack : ∀ {H3 : Hp}, ExtN H2 H3 → BookAt K H3 (.ref b) b pa la st ps ls ∧ StP K H3 st s W ∧ H3 ld = some (.lst dvs) ∧ Paired (DeedAt K H3) dvs ds := fun {H3} eN => by
      have f23 : Fi K H2 H3 := (Al.ext (ex := []) eN).fi (by simp)
      exact ⟨B2.al (ex := []) (Al.ext eN) (by simp), (R.now.st.fi T.toTop2 (fiP a2)).fi T.toTop2 f23, eN _ _ rl.hld (fun ps z => by cases z), paired_mono rl.prs fun _ _ z => (z.same nw_le).ext eN⟩
    have hdsl : ds.length = 1 + m := by rw [← Paired.length rl.prs, hdl]
    refine ⟨_, rfl, _, dvs.length, rfl, .inl ⟨dvs, SqL.of rl.hld, rfl⟩, _, _, rfl, rfl, _, rfl, ?_⟩
    by_cases hm0 : m = 0
    · refine itT (decide_eq_true (by omega)) ⟨tabs2, fun H3 eN T3 => ?_⟩
      obtain ⟨B3, hst3, hld3, prs3⟩ := pack eN
      obtain ⟨_, ⟨dx, hb3⟩, _, _, _⟩ := id B3
      obtain ⟨v, rfl⟩ : ∃ v, dvs = [v] := List.length_eq_one_iff.mp (by omega)
      obtain ⟨d, rfl⟩ : ∃ d, ds = [d] := List.length_eq_one_iff.mp (by omega)
      have hd3 : DeedAt K H3 v d := by cases prs3; assumption
      refine ⟨_, rfl, b, dx, _, rfl, hb3, lk3n (by decide +kernel) (by decide +kernel) (by decide +kernel), _, rfl, ld, _, 0, _, rfl, rfl, SqL.of hld3, atI_nat (j := 0) rfl, _, _, rfl, b, pa, la, st, ps, ls, s, W, d, B3, hz, hst3, R.now.ok, R.now.inw, hd3, ?_⟩
      cases hok : okD s d with
      | false => exact itF rfl fun H' c dd s5 hx => ⟨hx, fun H'' u s6 hu => fail (by show (if okD s d = true then _ else _) = _; rw [hok] <;> rfl) H3 H'' _ _ _ eN T3 (Same.trans s5 s6) (decide_eq_false hu)⟩
      | true => exact itT rfl fun H4 l' st' fb hl' B4 hS4 => done _ _ (by show (if okD s d = true then _ else _) = _; rw [if_pos hok]; rfl) H3 H4 l' st' _ _ _ eN T3 fb hl' B4 hS4 (decide_eq_true rfl)
    · refine itF (decide_eq_false (by omega)) ⟨_, rfl, _, dvs.length, rfl, .inl ⟨dvs, SqL.of rl.hld, rfl⟩, _, _, rfl, rfl, _, rfl, ?_⟩
      by_cases hm1 : m = 1
      · refine itT (decide_eq_true (by omega)) ⟨tabs2, fun H3 eN T3 => ?_⟩
        obtain ⟨B3, hst3, hld3, prs3⟩ := pack eN
        obtain ⟨_, ⟨dx, hb3⟩, _, _, _⟩ := id B3
        obtain ⟨v1, v2, rfl⟩ : ∃ v1 v2, dvs = [v1, v2] := two_of (by omega)
        exact ⟨_, rfl, b, dx, _, rfl, hb3, lk3n (by decide +kernel) (by decide +kernel) (by decide +kernel), _, rfl, ld, _, 0, _, rfl, rfl, SqL.of hld3, atI_nat (j := 0) rfl, _, rfl, ld, _, 1, _, rfl, rfl, SqL.of hld3, atI_nat (j := 1) rfl, run_star B3 hz hst3 R.now.ok R.now.inw (by show 2 ≤ sizeLine; decide) prs3
          (fun s1 W1 hrun H4 l' st' fb hl' B4 hS4 => done s1 W1 hrun H3 H4 l' st' _ _ _ eN T3 fb hl' B4 hS4 (decide_eq_true rfl))
          fun hrun H' dd i s5 hdd => ⟨⟨rfl, dd, _, rfl, hdd⟩, fun H'' u s6 hu => fail hrun H3 H'' _ _ _ eN T3 (Same.trans s5 s6) (decide_eq_false hu)⟩⟩
      · refine itF (decide_eq_false (by omega)) ⟨tabs2, fun H3 eN T3 => ?_⟩
        obtain ⟨B3, hst3, hld3, prs3⟩ := pack eN
        obtain ⟨_, ⟨dx, hb3⟩, _, _, _⟩ := id B3
        obtain ⟨v1, v2, v3, rfl⟩ : ∃ v1 v2 v3, dvs = [v1, v2, v3] := three_of (by omega)
        exact ⟨_, rfl, b, dx, _, rfl, hb3, lk3n (by decide +kernel) (by decide +kernel) (by decide +kernel), _, rfl, ld, _, 0, _, rfl, rfl, SqL.of hld3, atI_nat (j := 0) rfl, _, rfl, ld, _, 1, _, rfl, rfl, SqL.of hld3, atI_nat (j := 1) rfl, _, rfl, ld, _, 2, _, rfl, rfl, SqL.of hld3, atI_nat (j := 2) rfl, run_star B3 hz hst3 R.now.ok R.now.inw (by show 3 ≤ sizeLine; decide) prs3
          (fun s1 W1 hrun H4 l' st' fb hl' B4 hS4 => done s1 W1 hrun H3 H4 l' st' _ _ _ eN T3 fb hl' B4 hS4 (decide_eq_true rfl))
          fun hrun H' dd i s5 hdd => ⟨⟨rfl, dd, _, rfl, hdd⟩, fun H'' u s6 hu => fail hrun H3 H'' _ _ _ eN T3 (Same.trans s5 s6) (decide_eq_false hu)⟩⟩

end
end Ef

set_option Elab.async false
set_option linter.all false
set_option maxRecDepth 100000
set_option maxHeartbeats 4000000
namespace Ef
open PySem PySem.Spec PyProof.Rows L2 He L2H LamX
/-! ### _law_void_right -/
theorem passC {X : Cx} : Passes (L2.CX X.prog X.w) X (fun _ _ _ => False) := fun _ _ _ _ _ _ _ c => by
  obtain ⟨_, _, _, _, _, _, _, _, _, _, _, _, z⟩ := c
  exact z.elim
theorem bnd_void : BindN "_law_void_right" "_law_void_right" s_l_void_right ["_law_book"] := fun _ _ _ _ _ _ us hl => match us, hl with | [_], _ => rfl
theorem sc_void : FnScope ["_law_book"] ["_law_book"] (defScope s_l_void_right) := ⟨rfl, rfl, rfl, by decide +kernel, rfl, by decide +kernel, by decide +kernel⟩
def pVoid (K : PySem.W.Frag) (bv : V) (H : Hp) (Q : VK) (_ : XK) : Prop := ∃ b pa la st ps ls s W, bv = .ref b ∧ BookAt K H (.ref b) b pa la st ps ls ∧ StP K H st s W ∧ OkSg s ∧ InW s.n W ∧ ps.length ≤ 1000 ∧ Tabs (LT K) H ∧ ∀ H', Al [b, pa, la] H H' → Tabs (LT K) H' → Q (.bl true) H'
section
variable {P : Program} {w : World} {K : PySem.W.Frag} {mg : Str → Option Value} {base : Heap}
theorem law_void_right (T : Top3 w K mg) (tbk : TbOk K mg base) : ClG P w K mg base CX0 12 "_law_void_right" (sp1 (pVoid K)) := by
  have T1 : Top K mg := T.toTop
  obtain ⟨fd, F⟩ := T1.d_l_void_right
  obtain ⟨fr, Fr⟩ := T1.d_l_moved
  refine ClG.of T1.g_l_void_right F (raw_ofGT F sc_void bnd_void len1 fun A outer s0 H vs Q E hr hgd h => ?_)
  obtain ⟨bv, rfl, b, pa, la, st, ps, ls, s, W, rfl, B, hst, ok, hin, hps, htb, q⟩ := h
  have nd := sc_void.nd
  have hr5 : Room 5 _ := hr.mono (by decide)
  suffices hh : ∃ t, PSs (cxOf CX0 P w K mg base ["_law_book"] "_law_void_right" (defScope s_l_void_right) (ga K "_law_void_right") (.ref (codeOf K ("_law_void_right", none))) A outer s0 H E).nox (defBody s_l_void_right) t ∧ t { nx := fun _ H' => Q .non H', rt := Q } (L2.start ["_law_book"] [.ref b]) H by
    obtain ⟨t, ht, hq⟩ := hh
    exact ⟨t, ht.nox, hq⟩
  refine ⟨_, pss_cons (ps_expr (pe_m T1.c_Book (Book_do T.toTop2) (hr.mono (by decide)) passF (pv 0) (pa_cons (pe_tup (pa_cons pe_str (pa_cons pe_int pa_nil))) pa_nil)))
    (pss_cons (ps_expr (pe_m0 T1.c_Book (Book_undo T1) (hr.mono (by decide)) passC (pv 0)))
    (pss_cons (ps_expr (pe_m0 T1.c_Book (Book_run T.toTop2) hr passC (pv 0)))
    (pss_cons (ps_if (pt_cmpR op_ne (pe_lamZ (T := LT K) (TT := TTmov K) (st := s_l_moved) (c := codeOf K ("_law_void_right", none)) (P := tb K "_law_void_right") (k := 3) (Ng := ["_law_call", "e"]) zp_c (by rfl) T1.g_l_moved Fr bnd_moved sc_moved rfl (.inl rfl) hr5 (fun cdv => moved_c T hgd (hr.mono (by decide)) cdv) tbk.t3 rfl lt3 tbk.u3 (lamS_by (sc := defScope s_l_void_right) (by decide +kernel)) rfl (fun _ _ _ _ _ => rfl)
          (fun A outer s H E f c' hrl => pe_m0 T1.c_Book (Book_redo T1) hrl (L2.passes_call (L2.takes_of rfl rfl rfl rfl) (fun _ _ _ _ z => z)) (pv 0))) pe_str (nomark _)) (pss_one (ps_ret pe_bl)) pss_nil)
    (pss_one (ps_ret (pe_cmpR op_eq (pe_lamZ (T := LT K) (TT := TTmov K) (st := s_l_moved) (c := codeOf K ("_law_void_right", none)) (P := tb K "_law_void_right") (k := 3) (Ng := ["_law_call", "e"]) zp_c (by rfl) T1.g_l_moved Fr bnd_moved sc_moved rfl (.inl rfl) hr5 (fun cdv => moved_c T hgd (hr.mono (by decide)) cdv) tbk.t3 rfl lt3 tbk.u3 (lamS_by (sc := defScope s_l_void_right) (by decide +kernel)) rfl (fun _ _ _ _ _ => rfl)
          (fun A outer s H E f c' hrl => pe_m0 T1.c_Book (Book_undo T1) hrl (L2.passes_call (L2.takes_of rfl rfl rfl rfl) (fun _ _ _ _ z => z)) (pv 0))) pe_str (nomark _))))))), ?_⟩
  obtain ⟨_, ⟨dx, hb⟩, _, _, _⟩ := id B
  have hn1 := ok.n1
  have hok : okD s (.free (.int 0)) = true := by
    show isI (.int 0) (some 0) (some (s.n - 1)) = true
    simp [isI, loB, hiB]
    omega
  have hz : ps.length < sizeLine := by rw [sizeLine_eq]; omega
  have hz2 : (ps ++ [st]).length < sizeLine := by rw [List.length_append, sizeLine_eq]; show ps.length + 1 < _; omega
  refine ⟨_, rfl, b, dx, _, rfl, hb, lk3n (by decide +kernel) (by decide +kernel) (by decide +kernel), by show 2 ≤ sizeLine; decide, fun t ht => ?_⟩
  have s1 := Same.new (o := .tup [V.str "free", V.int 0]) ht
  generalize hH1 : upd H t (.tup [V.str "free", V.int 0]) = H1 at s1
  have ht1 : H1 t = some (.tup [V.str "free", V.int 0]) := by rw [← hH1, upd_same]
  have B1 := B.same s1
  refine ⟨_, _, rfl, b, pa, la, st, ps, ls, s, W, .free (.int 0), B1, hz, hst.same s1, ok, hin, ⟨t, rfl, ht1, any_int (by decide)⟩, itT hok fun H2 l1 st1 fb1 hl1 B2 hS2 => ?_⟩
  obtain ⟨_, ⟨dx2, hb2⟩, _, _, _⟩ := id B2
  have T2 := tabs_fb (tabs_same htb s1) B1 fb1
  refine ⟨_, rfl, b, dx2, _, rfl, hb2, lk3n (by decide +kernel) (by decide +kernel) (by decide +kernel), _, rfl, b, pa, l1, st1, ps ++ [st], [], B2, by show 0 < sizeLine; decide, fun y ys e H3 fb2 B3 => ?_, fun e => absurd e (by simp)⟩
  obtain ⟨rfl, e2⟩ := List.append_inj' e rfl
  obtain rfl : st = y := by simpa using e2
  obtain ⟨_, ⟨dx3, hb3⟩, _, _, _⟩ := id B3
  have T3 := tabs_fb T2 B2 fb2
  have f13 : Fi K H1 H3 := (Fb.fi B1 fb1).trans (Fb.fi B2 fb2)
  have hst3 : StP K H3 st s W := (hst.same s1).fi T.toTop2 f13
  refine ⟨_, rfl, b, dx3, _, rfl, hb3, lk3n (by decide +kernel) (by decide +kernel) (by decide +kernel), run_star (rest := []) B3 hz hst3 ok hin (Nat.zero_le _) .nil (fun s9 W9 hrun H4 l2 st2 fb3 hl2 B4 hS4 => ?_) (fun hrun => by cases hrun)⟩
  obtain ⟨_, ⟨dx4, hb4⟩, _, _, _⟩ := id B4
  have T4 := tabs_fb T3 B3 fb3
  refine ⟨T4, fun H5 eN5 T5 => ?_⟩
  have B5 := B4.al (ex := []) (Al.ext eN5) (by simp)
  obtain ⟨_, ⟨dx5, hb5⟩, _, _, _⟩ := id B5
  refine ⟨_, rfl, b, dx5, _, rfl, hb5, lk3n (by decide +kernel) (by decide +kernel) (by decide +kernel), _, rfl, b, pa, l2, st2, ps ++ [st], [], B5, hz2, fun y ys e => absurd e (by simp), fun _ H6 s6 => ⟨rfl, .inr ⟨rfl, ?_⟩⟩⟩
  refine ⟨rfl, _, rfl, itF (by simp) ?_⟩
  have B6 := B5.same s6
  refine ⟨tabs_same T5 s6, fun H7 eN7 T7 => ?_⟩
  have B7 := B6.al (ex := []) (Al.ext eN7) (by simp)
  obtain ⟨_, ⟨dx7, hb7⟩, _, _, _⟩ := id B7
  refine ⟨_, rfl, b, dx7, _, rfl, hb7, lk3n (by decide +kernel) (by decide +kernel) (by decide +kernel), _, rfl, b, pa, l2, st2, ps ++ [st], [], B7, by show 0 < sizeLine; decide, fun y ys e H8 fb8 B8 => repr_non ⟨rfl, ?_⟩, fun e => absurd e (by simp)⟩
  rw [decide_eq_true rfl]
  refine q H8 (fun c o hc hn htl => ?_) (tabs_fb T7 B7 fb8)
  have n1 : c ≠ b := fun z => hn (by simp [z])
  have n2 : c ≠ pa := fun z => hn (by simp [z])
  have n3 : c ≠ la := fun z => hn (by simp [z])
  have nt : ∀ ps, o ≠ .tbl ps := fun ps z => by rw [z] at htl; cases htl
  have h1 := s1 _ _ hc
  have m1 : c ≠ l1 := fun z => by rw [z, hl1] at h1; cases h1
  have h3 := fb2 _ _ (fb1 _ _ h1 n1 n2 n3) n1 n2 m1
  have m2 : c ≠ l2 := fun z => by rw [z, hl2] at h3; cases h3
  exact fb8 _ _ (eN7 _ _ (s6 _ _ (eN5 _ _ (fb3 _ _ h3 n1 n2 m1) nt)) nt) n1 n2 m2
end
end Ef

set_option Elab.async false
set_option linter.all false
set_option maxRecDepth 100000
set_option maxHeartbeats 4000000
namespace Ef
open PySem PySem.Spec PyProof.Rows L2 He L2H LamX
/-! ### law -/
abbrev nLaw : List Str := ["_law_script", "_law_pen_here", "_law_turn", "_law_song_here", "_law_states", "_law_later", "_law_again", "_law_way", "_law_many", "_law_book"]
theorem bnd_law : BindN "law" "law" s_law ["_law_script"] := fun _ _ _ _ _ _ us hl => match us, hl with | [_], _ => rfl
theorem sc_law : FnScope nLaw ["_law_script"] (defScope s_law) := ⟨rfl, rfl, rfl, by decide +kernel, rfl, by decide +kernel, by decide +kernel⟩
def bodyOf : Stmt → List Stmt
  | .For _ _ b _ _ => b
  | _ => []
abbrev innerB : List Stmt := bodyOf ((bodyOf ((defBody s_law).getD 1 (.Pass ⟨0, 0, 0, 0⟩))).getD 2 (.Pass ⟨0, 0, 0, 0⟩))
def NowE (K : PySem.W.Frag) (H : Hp) (st sv : V) : Prop := ∃ s W, Now K H st sv s W
theorem NowE.fi {w : World} {K : PySem.W.Frag} {mg : Str → Option Value} (T : Top2 w K mg) {H H1 : Hp} {st sv : V} (k : Fi K H H1) (h : NowE K H st sv) : NowE K H1 st sv := by
  obtain ⟨s, W, h⟩ := h
  exact ⟨s, W, h.fi T k⟩
/-- all that the law keeps -/
structure LInv (K : PySem.W.Frag) (H : Hp) (p l : Addr) (n : Nat) (b pa la ss lt : Addr) (st sv : V) (ps ls svs lvs : List V) : Prop where
  pen : Pen p l n H
  bk : BookAt K H (.ref b) b pa la st ps ls
  cur : NowE K H st sv
  pas : Paired (NowE K H) ps svs
  ltr : Paired (NowE K H) ls lvs
  hss : H ss = some (.lst (svs ++ [sv]))
  hlt : H lt = some (.lst lvs)
  ne1 : ss ≠ pa
  ne2 : ss ≠ la
  ne3 : lt ≠ pa
  ne4 : lt ≠ la
  ne5 : ss ≠ lt
  nel : l ≠ ss ∧ l ≠ pa ∧ l ≠ la
  nlt : l ≠ lt
  tabs : Tabs (LT K) H
theorem pen_imm {K : PySem.W.Frag} {H : Hp} {p l : Addr} {n : Nat} (h : Pen p l n H) {o : HO} (e : H p = some o) : imm K o = false := by
  obtain ⟨ns, u, r, h, _⟩ := h
  rw [h] at e
  cases e
  simp [imm, penK]
theorem LInv.al {w : World} {K : PySem.W.Frag} {mg : Str → Option Value} (T : Top2 w K mg) {H H1 : Hp} {p l : Addr} {n m : Nat} {b pa la ss lt : Addr} {st sv : V} {ps ls svs lvs : List V} (h : LInv K H p l n b pa la ss lt st sv ps ls svs lvs) (a : Al [p] H H1) (pen : Pen p l m H1) (t : Tabs (LT K) H1) :
    LInv K H1 p l m b pa la ss lt st sv ps ls svs lvs := by
  have f : Fi K H H1 := a.fi fun c hc o e => by
    obtain rfl : c = p := by simpa using hc
    exact pen_imm h.pen e
  obtain ⟨_, ⟨dx, hb⟩, hpa, hla, hne⟩ := id h.bk
  have lk : ∀ {c : Addr} {o : HO}, H c = some o → (∀ kvs, o ≠ .dK kvs) → c ∉ [p] := fun e n z => pen_ne h.pen e n (by simpa using z)
  refine ⟨pen, h.bk.al a fun c hc => ?_, h.cur.fi T f, paired_mono h.pas fun _ _ z => z.fi T f, paired_mono h.ltr fun _ _ z => z.fi T f, a _ _ h.hss (lk h.hss fun _ z => by cases z) rfl, a _ _ h.hlt (lk h.hlt fun _ z => by cases z) rfl, h.ne1, h.ne2, h.ne3, h.ne4, h.ne5, h.nel, h.nlt, t⟩
  obtain rfl : c = p := by simpa using hc
  exact ⟨Ne.symm (pen_ne h.pen hb fun _ z => by cases z), Ne.symm (pen_ne h.pen hpa fun _ z => by cases z), Ne.symm (pen_ne h.pen hla fun _ z => by cases z)⟩
theorem LInv.same {w : World} {K : PySem.W.Frag} {mg : Str → Option Value} (T : Top2 w K mg) {H H1 : Hp} {p l : Addr} {n : Nat} {b pa la ss lt : Addr} {st sv : V} {ps ls svs lvs : List V} (h : LInv K H p l n b pa la ss lt st sv ps ls svs lvs) (s : Same H H1) : LInv K H1 p l n b pa la ss lt st sv ps ls svs lvs :=
  h.al T (Al.of s) (h.pen.same s) (tabs_same h.tabs s)
theorem LInv.draw {w : World} {K : PySem.W.Frag} {mg : Str → Option Value} (T : Top2 w K mg) {H H1 : Hp} {p l : Addr} {n m : Nat} {b pa la ss lt : Addr} {st sv : V} {ps ls svs lvs : List V} (h : LInv K H p l n b pa la ss lt st sv ps ls svs lvs) (e : Ex p H H1) (pen : Pen p l m H1) : LInv K H1 p l m b pa la ss lt st sv ps ls svs lvs :=
  h.al T (Al.ofEx e (by simp)) pen (tabs_ex h.tabs h.pen e)
theorem LInv.ext {w : World} {K : PySem.W.Frag} {mg : Str → Option Value} (T : Top2 w K mg) {H H1 : Hp} {p l : Addr} {n : Nat} {b pa la ss lt : Addr} {st sv : V} {ps ls svs lvs : List V} (h : LInv K H p l n b pa la ss lt st sv ps ls svs lvs) (e : ExtN H H1) (t : Tabs (LT K) H1) : LInv K H1 p l n b pa la ss lt st sv ps ls svs lvs :=
  h.al T (Al.ext e) (h.pen.al (ex := []) (Al.ext e) (by simp) (by simp)) t
theorem LInv.less {K : PySem.W.Frag} {H : Hp} {p l : Addr} {n m : Nat} {b pa la ss lt : Addr} {st sv : V} {ps ls svs lvs : List V} (h : LInv K H p l n b pa la ss lt st sv ps ls svs lvs) (k : m ≤ n) : LInv K H p l m b pa la ss lt st sv ps ls svs lvs := { h with pen := h.pen.less k }
/-- the law's lists made anew -/
theorem linv_new {w : World} {K : PySem.W.Frag} {mg : Str → Option Value} (T : Top2 w K mg) {H5 H9 : Hp} {p l : Addr} {n : Nat} {b pa la ss lt : Addr} {st sv : V} {ps ls svs lvs : List V} (pen : Pen p l n H5) (bk : BookAt K H5 (.ref b) b pa la st ps ls) (cur : NowE K H5 st sv) (pas : Paired (NowE K H5) ps svs) (ltr : Paired (NowE K H5) ls lvs)
    (lpa : l ≠ pa) (lla : l ≠ la) (tb : Tabs (LT K) H5) (s : Same H5 H9) (h3 : H5 ss = none) (h4 : H5 lt = none) (n34 : ss ≠ lt) (hss : H9 ss = some (.lst (svs ++ [sv]))) (hlt : H9 lt = some (.lst lvs)) : LInv K H9 p l n b pa la ss lt st sv ps ls svs lvs := by
  obtain ⟨_, _, hpa, hla, _⟩ := id bk
  obtain ⟨_, _, _, _, hl, _⟩ := id pen
  have f : Fi K H5 H9 := Fi.of s
  exact ⟨pen.same s, bk.same s, cur.fi T f, paired_mono pas fun _ _ z => z.fi T f, paired_mono ltr fun _ _ z => z.fi T f, hss, hlt, Ne.symm (ne_of_none hpa h3), Ne.symm (ne_of_none hla h3), Ne.symm (ne_of_none hpa h4), Ne.symm (ne_of_none hla h4), n34, ⟨ne_of_none hl h3, lpa, lla⟩, ne_of_none hl h4, tabs_same tb s⟩
theorem paired_last {α β : Type} {F : α → β → Prop} : ∀ {ys : List α} {y : α} {ms : List β}, Paired F (ys ++ [y]) ms → ∃ zs z, ms = zs ++ [z] ∧ Paired F ys zs ∧ F y z
  | [], y, _, .cons (b := z) h .nil => ⟨[], z, rfl, .nil, h⟩
  | a :: ys, y, _, .cons (b := z0) h r => by
    obtain ⟨zs, z, e, h1, h2⟩ := paired_last r
    exact ⟨z0 :: zs, z, by rw [e]; rfl, .cons h h1, h2⟩
theorem cut_last (xs : List V) (x : V) : cutV (xs ++ [x]) (some (-1)) none = [x] := by
  unfold cutV
  have e : HT.sIx (xs ++ [x]).length 0 (some (-1)) = xs.length := by
    show (if (-1 : Int) < 0 then ((-1 : Int) + ((xs ++ [x]).length : Int)).toNat else min (-1 : Int).toNat (xs ++ [x]).length) = xs.length
    rw [if_pos (by decide), List.length_append]
    show ((-1 : Int) + ((xs.length + 1 : Nat) : Int)).toNat = _
    omega
  rw [HT.sIx_none, e, List.drop_left, List.take_of_length_le (by rw [List.length_append]; show 1 ≤ _; simp)]
theorem cut_init (xs : List V) (x : V) : cutV (xs ++ [x]) none (some (-1)) = xs := by
  unfold cutV
  have e : HT.sIx (xs ++ [x]).length (xs ++ [x]).length (some (-1)) = xs.length := by
    show (if (-1 : Int) < 0 then ((-1 : Int) + ((xs ++ [x]).length : Int)).toNat else min (-1 : Int).toNat (xs ++ [x]).length) = xs.length
    rw [if_pos (by decide), List.length_append]
    show ((-1 : Int) + ((xs.length + 1 : Nat) : Int)).toNat = _
    omega
  rw [HT.sIx_none, e, List.drop_zero, Nat.sub_zero, List.take_left]
theorem cut_takeI {xs : List V} {z : Int} {i : Nat} (e : z = (i : Int)) (h : i ≤ xs.length) : cutV xs none (some z) = xs.take i := by
  rw [e]
  exact cut_take h
def pLaw (K : PySem.W.Frag) (v : V) (H : Hp) (Q : VK) (_ : XK) : Prop := ∃ (a : Addr) (ns : List Int), v = .ref a ∧ SqL K H a (ns.map V.int) ∧ ns.length ≤ 63 ∧ Tabs (LT K) H ∧ ∀ H', Q (.bl true) H'
section
variable {P : Program} {w : World} {K : PySem.W.Frag} {mg : Str → Option Value} {base : Heap}
def pPen2 (K : PySem.W.Frag) (v : V) (H : Hp) (Q : VK) (_ : XK) : Prop := ∃ (a : Addr) (ns : List Int), v = .ref a ∧ SqL K H a (ns.map V.int) ∧ ns.length ≤ 63 ∧ ∀ (H' : Hp) (p l : Addr), Same H H' → H p = none → (∀ n : Nat, (n : Int) ≤ Full → Pen p l n H') → Q (.ref p) H'
theorem law_pen2 (T : Top K mg) : Clb P w K mg base CX0 1 "_law_pen" (sp1 (pPen2 K)) := by
  obtain ⟨fd, F⟩ := T.d_l_pen
  refine Clb.of T.g_l_pen F (fnN1 F sc_pen bnd_pen fun cdv A outer s H v Q E hr h => ?_)
  obtain ⟨a, ns, rfl, ha, h63, q⟩ := h
  refine ⟨_, pss_one (ps_ret (pe_disp (pps_cons pe_str (pe_callTy call_list_of (by rfl) T.b_list (by decide +kernel) (pa_cons (pe_slice sl_list (pv 0) po_none (po_some pe_int)) pa_nil)) (pps_cons pe_str pe_int (pps_cons pe_str pe_int pps_nil))) (by rfl) (by rfl) (fun z => by cases z) (by decide))), ?_⟩
  refine fun p hp => ?_
  have s1 := Same.new (o := .dK []) hp
  refine ⟨_, rfl, _, rfl, a, _, rfl, (show SqL K _ a _ from s1.seq ha), fun b hb => ⟨b, _, rfl, .inl (SqL.of upd_same), fun l hl => ?_⟩⟩
  obtain ⟨ms, hms, hl63⟩ : ∃ ms : List Int, cutV (ns.map V.int) none (some 63) = ms.map V.int ∧ ms.length ≤ 63 := by
    refine ⟨(ns.drop (HT.sIx (ns.map V.int).length 0 none)).take (HT.sIx (ns.map V.int).length (ns.map V.int).length (some 63) - HT.sIx (ns.map V.int).length 0 none), ?_, ?_⟩
    · unfold cutV
      rw [List.map_take, List.map_drop]
    · rw [List.length_take, List.length_drop]
      omega
  rw [hms] at hl ⊢
  have s2 := Same.snd (o := .lst (ms.map V.int)) s1 hb
  have hpp : (upd (upd (upd H p (.dK [])) b (.lst (ms.map V.int))) l (.lst (ms.map V.int))) p = some (.dK []) := by
    rw [upd_ne (ne_of_none (by rw [upd_ne (ne_of_none upd_same hb)]; exact upd_same) hl), upd_ne (ne_of_none upd_same hb), upd_same]
  refine ⟨hpp, penK l 0 0, rfl, by show 3 ≤ 15; decide, ?_⟩
  have s3 := Same.snd (o := .lst (ms.map V.int)) s2 hl
  have hlp : l ≠ p := fun z => by
    rw [z, upd_ne (ne_of_none upd_same hb), upd_same] at hl
    cases hl
  refine q _ p l ?_ hp fun n hn => ⟨ms, 0, 0, ?_, ?_, hl63, Int.le_refl _, by omega, Int.le_refl _⟩
  · exact Same.mut s3 hp
  · rw [upd_same, merge_self (penK l 0 0) [] (by show [kCells, kUsed, kRest].Nodup; decide +kernel)]
    rfl
  · rw [upd_ne hlp, upd_same]
theorem law_law (T : Top3 w K mg) (tbk : TbOk K mg base) : ClG P w K mg base CX0 29 "law" (sp1 (pLaw K)) := by
  have T1 : Top K mg := T.toTop
  obtain ⟨fd, F⟩ := T1.d_law
  obtain ⟨fm, Fm⟩ := T1.d_l_moved
  obtain ⟨fbk, Fbk⟩ := T1.d_Book_init
  refine ClG.of T1.g_law F (raw_ofGT F sc_law bnd_law len1 fun A outer s0 H vs Q E hr hgd h => ?_)
  obtain ⟨v, rfl, a, ns, rfl, ha, h63, htab, q⟩ := h
  have nd := sc_law.nd
  have hr1 : Room 1 _ := hr.mono (by decide)
  have hr5 : Room 5 _ := hr.mono (by decide)
  have hu1 := Nat.lt_of_succ_lt (hu_of hr)
  suffices hh : ∃ t, PSs (cxOf CX0 P w K mg base nLaw "law" (defScope s_law) (ga K "law") (.ref (codeOf K ("law", none))) A outer s0 H E).nox (defBody s_law) t ∧ t { nx := fun _ H' => Q .non H', rt := Q } (L2.start nLaw [.ref a]) H by
    obtain ⟨t, ht, hq⟩ := hh
    exact ⟨t, ht.nox, hq⟩
  have tail : ∃ t, PSs (cxOf CX0 P w K mg base nLaw "law" (defScope s_law) (ga K "law") (.ref (codeOf K ("law", none))) A outer s0 H E).nox (innerB.drop 2) t ∧ ∀ (D : Ends) (u0 u1 u2 u3 u5 u6 u7 u8 : Option V) (H5 : Hp) (p l : Addr) (n : Nat) (b pa la ss lt : Addr) (st sv : V) (ps ls svs lvs : List V), LInv K H5 p l n b pa la ss lt st sv ps ls svs lvs → svs.length ≤ 100 →
      (∀ H6, Same H5 H6 → D.nx [u0, u1, u2, u3, some (.ref ss), u5, u6, u7, u8, some (.ref b)] H6) → t D [u0, u1, u2, u3, some (.ref ss), u5, u6, u7, u8, some (.ref b)] H5 := by
    refine ⟨_, pss_one (ps_if (pt_not (pt_val (pe_g (law_is_book T) (hr.mono (by decide)) hgd pass0 (pa_cons (pv 9) (pa_cons (pe_ix ix_tup (pe_ix ix_list (pv 4) (pe_un un_neg pe_int) (fun _ _ => rfl)) pe_int (fun _ _ => rfl)) (pa_cons (pe_ix ix_tup (pe_ix ix_list (pv 4) (pe_un un_neg pe_int) (fun _ _ => rfl)) pe_int (fun _ _ => rfl)) (pa_cons (pe_op op_sub (pe_callB call_len (by rfl) T1.b_len (by decide +kernel) (pa_cons (pv 4) pa_nil)) pe_int) pa_nil))))))) (pss_one (ps_ret pe_bl)) pss_nil), ?_⟩
    intro D u0 u1 u2 u3 u5 u6 u7 u8 H5 p l n b pa la ss lt st sv ps ls svs lvs L hsz nx
    obtain ⟨s, W, Nw⟩ := L.cur
    obtain ⟨p', bsv, bwv, rfl, hp', hS, hbW⟩ := id Nw.st
    obtain ⟨c, lsv, lwv, rfl, hc, hls, hlw⟩ := id Nw.sv
    have hlen : ps.length = svs.length := Paired.length L.pas
    exact ⟨_, rfl, _, rfl, _, rfl, ss, _, -1, _, rfl, rfl, SqL.of L.hss, atI_last _ _, c, _, 0, _, rfl, rfl, SqT.of hc, at0, _, rfl, _, rfl, ss, _, -1, _, rfl, rfl, SqL.of L.hss, atI_last _ _, c, _, 1, _, rfl, rfl, SqT.of hc, atI_nat (j := 1) rfl,
      _, rfl, _, svs.length + 1, rfl, .inl ⟨_, SqL.of L.hss, by rw [List.length_append]; rfl⟩, _, _, rfl, rfl, _, _, _, _, rfl, b, pa, la, p', bsv, bwv, ps, ls, s, W, L.bk, hp', hS, hbW, hls, Nw.ok, hlw, Nw.inw, Nw.wok, congrArg V.int (by omega), fun H6 s6 => ⟨_, rfl, itF rfl (nx H6 s6)⟩⟩

  obtain ⟨tt, htl, qtl⟩ := tail
  refine ⟨_, pss_cons (ps_set (i := 1) nd rfl (.inl rfl) (pe_f (law_pen2 T1) hr1 pass0 (pa_cons (pv 0) pa_nil)))
    (pss_cons (ps_for PassesOwn.never rfl (pi_range1 (by rfl) T1.b_range (pa_cons pe_int pa_nil)) (pg_name (i := 2) nd rfl (.inl rfl))
      (pss_cons (ps_set (i := 3) nd rfl (.inl rfl) (pe_f (law_long_song T1) hr5 pass0 (pa_cons (pv 1) (pa_cons (pe_op op_add pe_int (pe_f (law_draw T1) hr1 pass0 (pa_cons (pv 1) (pa_cons pe_int pa_nil)))) (pa_cons pe_int pa_nil)))))
      (pss_cons (ps_asg (pe_tup (pa_cons (StX.pe_makeR T1.k_Book (Book_init T.toTop2 Fbk) hr5 (by rfl) T1.g_Book pass0 (pa_cons (pe_f (law_made T1) (hr.mono (by decide)) pass0 (pa_cons (pv 3) pa_nil)) pa_nil)) (pa_cons (pe_lst (pa_cons (pe_tup (pa_cons (pv 3) (pa_cons pe_dnewK pa_nil))) pa_nil)) (pa_cons (pe_lst pa_nil) pa_nil)))) (pg_tup rfl (pgs_cons (pg_name (i := 9) nd rfl (.inr rfl)) (pgs_cons (pg_name (i := 4) nd rfl (.inl rfl)) (pgs_cons (pg_name (i := 5) nd rfl (.inl rfl)) pgs_nil)))))
      (pss_cons (ps_for PassesOwn.never rfl (pi_range1 (by rfl) T1.b_range (pa_cons (pe_op op_add pe_int (pe_f (law_draw T1) hr1 pass0 (pa_cons (pv 1) (pa_cons pe_int pa_nil)))) pa_nil)) (pg_name (i := 6) nd rfl (.inl rfl))
        (pss_cons (ps_par (i := 7) (j := 8) rfl nd rfl rfl (by decide) rfl rfl (pa_cons (pe_f (law_draw T1) hr1 pass0 (pa_cons (pv 1) (pa_cons pe_int pa_nil))) (pa_cons (pe_callB call_len (by rfl) T1.b_len (by decide +kernel) (pa_cons (pv 4) pa_nil)) pa_nil)) (by rfl))
        (pss_cons (ps_if (pt_cmp (pc_lt (pv 7) pe_int)) (pss_cons (ps_if (pt_not (pt_val (pe_g (law_run_right T tbk) hr hgd pass0 (pa_cons (pv 1) (pa_cons (pv 9) (pa_cons (pv 4) pa_nil)))))) (pss_one (ps_ret pe_bl)) pss_nil)
          (pss_one (ps_set (i := 5) nd rfl (.inl rfl) (pe_ifExp (pt_cmp (pc_eqI (pe_callB call_len (by rfl) T1.b_len (by decide +kernel) (pa_cons (pv 4) pa_nil)) (pv 8))) (pv 5) (pe_lst pa_nil))))) (pss_one (ps_if (pt_cmp (pc_lt (pv 7) pe_int)) (pss_cons (ps_if (pt_cmpR op_ne (pe_lamZ (T := LT K) (TT := TTmov K) (st := s_l_moved) (c := codeOf K ("law", none)) (P := tb K "law") (k := 3) (Ng := ["_law_call", "e"]) zp_c (by rfl) T1.g_l_moved Fm bnd_moved sc_moved rfl (.inl rfl) hr5 (fun cdv => moved_c T hgd (hr.mono (by decide)) cdv) tbk.t1 rfl lt1 tbk.u1 (lamS_by (sc := defScope s_law) (by decide +kernel)) rfl (fun _ _ _ _ _ => rfl)
            (fun A outer s H E f c' hrl => pe_m0 T1.c_Book (Book_undo T1) hrl (L2.passes_call (L2.takes_of rfl rfl rfl rfl) (fun _ _ _ _ z => z)) (pv 9))) (pe_ifExp (pt_cmp (pc_gt (pv 8) pe_int)) pe_str pe_str) (nomark _)) (pss_one (ps_ret pe_bl)) pss_nil)
          (pss_one (ps_par (i := 5) (j := 4) rfl nd rfl rfl (by decide) rfl rfl (pa_cons (pe_op op_cat (pv 5) (pe_op op_rep (pe_slice sl_list (pv 4) (po_some (pe_un un_neg pe_int)) po_none) (pe_callTy (T := "int") call_int1 (by rfl) T1.b_int (by decide +kernel) (pa_cons (pe_cmp (pc_gt (pv 8) pe_int) rfl) pa_nil)))) (pa_cons (pe_slice sl_list (pv 4) po_none (po_some (pe_callB (call_max2 rfl) (by rfl) T1.b_max (by decide +kernel) (pa_cons pe_int (pa_cons (pe_op op_sub (pv 8) pe_int) pa_nil))))) pa_nil)) (by rfl)))) (pss_cons (ps_if (pt_cmpR op_ne (pe_lamZ (T := LT K) (TT := TTmov K) (st := s_l_moved) (c := codeOf K ("law", none)) (P := tb K "law") (k := 3) (Ng := ["_law_call", "e"]) zp_c (by rfl) T1.g_l_moved Fm bnd_moved sc_moved rfl (.inl rfl) hr5 (fun cdv => moved_c T hgd (hr.mono (by decide)) cdv) tbk.t1 rfl lt1 tbk.u1 (lamS_by (sc := defScope s_law) (by decide +kernel)) rfl (fun _ _ _ _ _ => rfl)
            (fun A outer s H E f c' hrl => pe_m0 T1.c_Book (Book_redo T1) hrl (L2.passes_call (L2.takes_of rfl rfl rfl rfl) (fun _ _ _ _ z => z)) (pv 9))) (pe_ifExp (pt_cmpR (op_neE hu1) (pv 5) (pe_lst pa_nil) (nomark _)) pe_str pe_str) (nomark _)) (pss_one (ps_ret pe_bl)) pss_nil)
          (pss_one (ps_par (i := 4) (j := 5) rfl nd rfl rfl (by decide) rfl rfl (pa_cons (pe_op op_cat (pv 4) (pe_slice sl_list (pv 5) (po_some (pe_un un_neg pe_int)) po_none)) (pa_cons (pe_slice sl_list (pv 5) po_none (po_some (pe_un un_neg pe_int))) pa_nil)) (by rfl)))))))
        htl)))
      (pss_one (ps_if (pt_not (pt_val (pe_g (law_void_right T tbk) (hr.mono (by decide)) hgd pass0 (pa_cons (pv 9) pa_nil)))) (pss_one (ps_ret pe_bl)) pss_nil))))))
    (pss_one (ps_ret pe_bl))), ?_⟩
  refine ⟨_, rfl, _, rfl, a, ns, rfl, ha, h63, fun H1 p l s1 hpn hpen => ?_⟩
  refine ⟨2, rfl, by decide, by decide, for_range (lo := 0) (n := 2) (fun i σ H2 => ∃ u2 u3 u4 u5 u6 u7 u8 u9, σ = [some (.ref a), some (.ref p), u2, u3, u4, u5, u6, u7, u8, u9] ∧ Pen p l ((2 - i) * 9900) H2 ∧ Tabs (LT K) H2) ?_ ?_ ?_⟩
  · exact ⟨_, _, _, _, _, _, _, _, rfl, hpen _ (by decide), tabs_same htab s1⟩
  · rintro i σ H2 hi ⟨u2, u3, u4, u5, u6, u7, u8, u9, rfl, pen2, tab2⟩
    obtain ⟨c, hc⟩ : ∃ c, c = (1 - i) * 9900 := ⟨_, rfl⟩
    have hc2 : (2 - i) * 9900 = c + 9900 := by omega
    rw [hc2] at pen2
    refine ⟨_, rfl, _, rfl, _, _, rfl, p, l, c + 9899, 5, rfl, rfl, pen2, by decide, by decide, fun H3 k ex3 pen3 k0 k5 => ?_⟩
    obtain ⟨m, rfl⟩ : ∃ m : Nat, k = (m : Int) := ⟨k.toNat, by omega⟩
    refine ⟨_, _, rfl, rfl, _, _, _, rfl, p, l, c + 9639, 1 + m, 5, rfl, rfl, rfl, pen3, by omega, by omega, by decide, by decide, fun H4 sgv s ex4 pen4 hs ok => ?_⟩
    have tab4 := tabs_ex (tabs_ex tab2 pen2 ex3) pen3 ex4
    refine ⟨_, rfl, _, rfl, s, hs, ok, fun H5 mv s5 hmv => fun x dx hx hdx hne => ?_⟩
    have sx : Same H5 (upd (upd H5 dx (.own x)) x (.ins (ga K "Book") dx [])) := Same.snd (Same.new hdx) (by rw [upd_ne (Ne.symm hne)]; exact hx)
    refine ⟨_, _, rfl, x, dx, s, rfl, upd_same, hmv.same sx, ok, fun H6 t pa la fr hpa0 hla0 B6 ⟨d, ht6, hd6⟩ => ⟨rfl, ?_⟩⟩
    have s56 : Same H5 H6 := fun c o e => fr c o (sx _ _ e) (ne_of_none e hx)
    have pen6 := (pen4.same s5).same s56
    have tab6 := tabs_same (tabs_same tab4 s5) s56
    have lpa : l ≠ pa := by
      obtain ⟨_, _, _, _, hl, _⟩ := pen4.same s5
      exact ne_of_none hl (none_same sx hpa0)
    have lla : l ≠ la := by
      obtain ⟨_, _, _, _, hl, _⟩ := pen4.same s5
      exact ne_of_none hl (none_same sx hla0)
    refine ⟨_, rfl, fun d2 hd2 => ⟨by show 2 ≤ sizeLine; decide, fun t2 ht2 => ⟨by show 1 ≤ sizeLine; decide, fun ss hss => ⟨by decide, fun lt hlt => ⟨by show 3 ≤ sizeLine; decide, fun t3 ht3 => ⟨t3, _, rfl, SqT.of upd_same, rfl, _, _, rfl, _, _, rfl, _, _, rfl, ⟨rfl, ?_⟩⟩⟩⟩⟩⟩⟩
    have sa := Same.new (o := .dK []) hd2
    have sb := Same.new (o := .tup [sgv, .ref d2]) ht2
    have sc := Same.new (o := .lst [V.ref t2]) hss
    have sd := Same.new (o := .lst []) hlt
    have se := Same.new (o := .tup [V.ref x, .ref ss, .ref lt]) ht3
    have sab := Same.trans sa sb
    have sabc := Same.trans sab sc
    have s67 := Same.trans (Same.trans sabc sd) se
    have LL : LInv K (upd (upd (upd (upd (upd H6 d2 (.dK [])) t2 (.tup [sgv, .ref d2])) ss (.lst [V.ref t2])) lt (.lst [])) t3 (.tup [V.ref x, .ref ss, .ref lt])) p l (c + 9639) x pa la ss lt (.ref t) (.ref t2) [] [] [] [] := by
      refine linv_new T.toTop2 (pen6.same sab) (B6.same sab) ⟨s, fun _ => none, ⟨⟨t, mv, .ref d, rfl, sab _ _ ht6, (hmv.same s56).same sab, d, [], rfl, sab _ _ hd6, WK.nil⟩, ⟨t2, sgv, .ref d2, rfl, upd_same, ((hs.same s5).same s56).same sab, d2, [], rfl, sb _ _ upd_same, WK.nil⟩, ok, (fun _ _ z => by cases z), (fun _ _ z => by cases z)⟩⟩ .nil .nil lpa lla (tabs_same tab6 sab) (Same.trans (Same.trans sc sd) se) hss (none_same sc hlt) ?_ ?_ ?_
      · exact ne_of_none upd_same hlt
      · exact se _ _ (sd _ _ upd_same)
      · exact se _ _ upd_same
    generalize upd (upd (upd (upd (upd H6 d2 (.dK [])) t2 (.tup [sgv, .ref d2])) ss (.lst [V.ref t2])) lt (.lst [])) t3 (.tup [V.ref x, .ref ss, .ref lt]) = H7 at LL
    refine ⟨_, rfl, _, _, rfl, p, l, c + 9638, 17, rfl, rfl, LL.pen, by decide, by decide, fun H8 r ex8 pen8 r0 r17 => ?_⟩
    have L8 := LL.draw T.toTop2 ex8 pen8
    obtain ⟨m2, rfl⟩ : ∃ m2 : Nat, r = (m2 : Int) := ⟨r.toNat, by omega⟩
    refine ⟨_, _, rfl, rfl, (8 + (m2 : Int)), rfl, by omega, by omega, for_range (lo := 0) (n := 8 + m2) (fun j σ H2 => ∃ u6 u7 u8 pa la ss lt st sv ps ls svs lvs, σ = [some (.ref a), some (.ref p), some (.int (0 + (i : Int))), some sgv, some (.ref ss), some (.ref lt), u6, u7, u8, some (.ref x)] ∧ LInv K H2 p l (c + (24 - j) * 401 + 10) x pa la ss lt st sv ps ls svs lvs ∧ ps.length + ls.length ≤ j) ?_ ?_ ?_⟩
    · exact ⟨_, _, _, pa, la, ss, lt, _, _, _, _, _, _, rfl, L8.less (by omega), Nat.le_refl _⟩
    · rintro j σ H2 hj ⟨u6, u7, u8, pa, la, ss, lt, st, sv, ps, ls, svs, lvs, rfl, L, hsz⟩
      have hj23 : j ≤ 23 := by omega
      refine ⟨_, rfl, _, _, rfl, p, l, c + (23 - j) * 401 + 410, 7, rfl, rfl, L.pen.less (by omega), by decide, by decide, fun H3 wy ex3 pen3 w0 w7 => ?_⟩
      have L3 := L.draw T.toTop2 ex3 pen3
      have hlen : ps.length = svs.length := Paired.length L.pas
      have hlen2 : ls.length = lvs.length := Paired.length L.ltr
      refine ⟨_, rfl, _, svs.length + 1, rfl, .inl ⟨_, SqL.of L3.hss, by rw [List.length_append]; rfl⟩, _, _, rfl, ?_⟩
      refine ⟨_, rfl, _, _, rfl, rfl, _, rfl, ?_⟩
      obtain ⟨_, ⟨dx3, hb3⟩, hpa3, hla3, hpl3⟩ := id L3.bk
      by_cases hw4 : wy < 4
      · refine itT (decide_eq_true hw4) ?_
        obtain ⟨s', W', Nw⟩ := L3.cur
        refine ⟨_, rfl, _, rfl, _, rfl, _, _, _, rfl, p, l, c + (24 - (j + 1)) * 401 + 10, x, pa, la, ss, st, sv, ps, ls, svs, s', W', rfl, rfl, rfl, ⟨L3.pen.less (by show _ + 400 ≤ _; omega), L3.bk, Nw, L3.hss, L3.ne1, L3.ne2, L3.nel, L3.tabs⟩, by omega, by omega, fun H5 a5 R5 => ?_, fun H5 la' st' sv' s9 W9 a5 hla' R5 => ?_⟩
        · have ltn : lt ∉ [p, x, pa, la, ss] := by
            have h1 := pen_ne L3.pen L3.hlt fun _ z => by cases z
            have h2 : lt ≠ x := ne_of L3.hlt hb3 (by intro z; cases z)
            simp [h1, h2, L3.ne3, L3.ne4, Ne.symm L3.ne5]
          have f35 : Fi K H3 H5 := a5.fi fun c hc o e => by
            simp only [List.mem_cons, List.not_mem_nil, or_false] at hc
            rcases hc with hc | hc | hc | hc | hc <;> rw [hc] at e
            · exact pen_imm L3.pen e
            · rw [hb3] at e; cases e; simp [imm]
            · rw [hpa3] at e; cases e; rfl
            · rw [hla3] at e; cases e; rfl
            · rw [L3.hss] at e; cases e; rfl
          refine ⟨_, rfl, itF rfl ⟨_, rfl, _, svs.length + 1, rfl, .inl ⟨_, SqL.of R5.hss, by rw [List.length_append]; rfl⟩, _, rfl, _, _, rfl, rfl, _, rfl, itT (decide_eq_true rfl) ⟨_, rfl, ?_⟩⟩⟩
          have LL : LInv K H5 p l (c + (24 - (j + 1)) * 401 + 10) x pa la ss lt st sv ps ls svs lvs := ⟨R5.pen, R5.bk, ⟨s', W', R5.now⟩, paired_mono L3.pas fun _ _ z => z.fi T.toTop2 f35, paired_mono L3.ltr fun _ _ z => z.fi T.toTop2 f35, R5.hss, a5 _ _ L3.hlt ltn rfl, L3.ne1, L3.ne2, L3.ne3, L3.ne4, L3.ne5, L3.nel, L3.nlt, R5.tabs⟩
          exact qtl _ _ _ _ _ _ _ _ _ _ _ _ _ _ _ _ _ _ _ _ _ _ _ _ LL (by omega) fun H6 s6 => ⟨_, _, _, _, _, _, _, _, _, _, _, _, _, rfl, (LL.same T.toTop2 s6).less (by omega), by omega⟩
        · have ltn : lt ∉ [p, x, pa, la, ss] := by
            have h1 := pen_ne L3.pen L3.hlt fun _ z => by cases z
            have h2 : lt ≠ x := ne_of L3.hlt hb3 (by intro z; cases z)
            simp [h1, h2, L3.ne3, L3.ne4, Ne.symm L3.ne5]
          have f35 : Fi K H3 H5 := a5.fi fun c hc o e => by
            simp only [List.mem_cons, List.not_mem_nil, or_false] at hc
            rcases hc with hc | hc | hc | hc | hc <;> rw [hc] at e
            · exact pen_imm L3.pen e
            · rw [hb3] at e; cases e; simp [imm]
            · rw [hpa3] at e; cases e; rfl
            · rw [hla3] at e; cases e; rfl
            · rw [L3.hss] at e; cases e; rfl
          refine ⟨_, rfl, itF rfl ⟨_, rfl, _, svs.length + 2, rfl, .inl ⟨_, SqL.of R5.hss, by rw [List.length_append, List.length_append]; rfl⟩, _, rfl, _, _, rfl, rfl, _, rfl, itF (decide_eq_false (by omega)) ⟨by decide, fun lt' hlt' => ?_⟩⟩⟩
          have sn := Same.new (o := .lst []) hlt'
          have fn : Fi K H3 (upd H5 lt' (.lst [])) := f35.trans (Fi.of sn)
          obtain ⟨_, _, hpa5, hla5, _⟩ := id R5.bk
          have llt : l ≠ lt' := by
            obtain ⟨_, _, _, _, hl, _⟩ := R5.pen
            exact ne_of_none hl hlt'
          have LL : LInv K (upd H5 lt' (.lst [])) p l (c + (24 - (j + 1)) * 401 + 10) x pa la' ss lt' st' sv' (ps ++ [st]) [] (svs ++ [sv]) [] := ⟨R5.pen.same sn, R5.bk.same sn, NowE.fi T.toTop2 (Fi.of sn) ⟨s9, W9, R5.now⟩, paired_snoc (paired_mono L3.pas fun _ _ z => z.fi T.toTop2 fn) (L3.cur.fi T.toTop2 fn), .nil, sn _ _ R5.hss, upd_same, R5.ne1, R5.ne2, Ne.symm (ne_of_none hpa5 hlt'), Ne.symm (ne_of_none hla5 hlt'), ne_of_none R5.hss hlt', R5.nel, llt, tabs_same R5.tabs sn⟩
          exact qtl _ _ _ _ _ _ _ _ _ _ _ _ _ _ _ _ _ _ _ _ _ _ _ _ LL (by rw [List.length_append]; show svs.length + 1 ≤ 100; omega) fun H6 s6 => ⟨_, _, _, _, _, _, _, _, _, _, _, _, _, rfl, (LL.same T.toTop2 s6).less (by omega), by rw [List.length_append]; show ps.length + 1 + 0 ≤ _; omega⟩
      · refine itF (decide_eq_false hw4) ⟨_, rfl, _, _, rfl, rfl, _, rfl, ?_⟩
        by_cases hw6 : wy < 6
        · refine itT (decide_eq_true hw6) ⟨L3.tabs, fun H4 eN T4 => ?_⟩
          have L4 := L3.ext T.toTop2 eN T4
          obtain ⟨_, ⟨dx4, hb4⟩, _, _, _⟩ := id L4.bk
          refine ⟨_, rfl, x, dx4, _, rfl, hb4, lk3n (by decide +kernel) (by decide +kernel) (by decide +kernel), _, rfl, x, pa, la, st, ps, ls, L4.bk, by rw [sizeLine_eq]; omega, fun y ys e H5 fb5 B5 => ?_, fun e H5 s5 => ?_⟩
          · subst e
            obtain ⟨zs, z, rfl, pz, hz⟩ := paired_last L4.pas
            have x5 : ss ≠ x := ne_of L4.hss hb4 (by intro z; cases z)
            have y5 : lt ≠ x := ne_of L4.hlt hb4 (by intro z; cases z)
            have px := pen_ne L4.pen hb4 fun _ z => by cases z
            have ppa := pen_ne L4.pen L4.bk.pst fun _ z => by cases z
            have pla := pen_ne L4.pen L4.bk.ltr fun _ z => by cases z
            have lx : l ≠ x := by
              obtain ⟨_, _, _, _, hl, _⟩ := L4.pen
              exact ne_of hl hb4 (by intro z; cases z)
            have f45 := Fb.fi L4.bk fb5
            have pen5 := L4.pen.al (Al.ofFb fb5 fun _ h => h) (by simp [Ne.symm px, Ne.symm ppa, Ne.symm pla]) (by simp [lx, L4.nel.2.1, L4.nel.2.2])
            have tab5 := tabs_fb L4.tabs L4.bk fb5
            have hss5 := fb5 _ _ L4.hss x5 L4.ne1 L4.ne2
            have hlt5 := fb5 _ _ L4.hlt y5 L4.ne3 L4.ne4
            have cur5 := L4.cur.fi T.toTop2 f45
            have pas5 := paired_mono L4.pas fun _ _ z => z.fi T.toTop2 f45
            have ltr5 := paired_mono L4.ltr fun _ _ z => z.fi T.toTop2 f45
            have hzl : (zs ++ [z]).length = zs.length + 1 := by rw [List.length_append]; rfl
            refine repr_non ⟨_, rfl, _, _, rfl, rfl, _, rfl, itT (decide_eq_true (by omega)) ⟨rfl, _, rfl, itF (by simp) ?_⟩⟩
            refine ⟨_, rfl, _, rfl, _, rfl, -1, rfl, ss, _, rfl, SqL.of hss5, fun q1 hq1 => ⟨_, rfl, _, _, rfl, rfl, .inr ⟨_, rfl, q1, 1, _, rfl, congrArg V.int (if_pos (decide_eq_true (by omega))), upd_same, by decide, by decide, ?_, fun q2 hq2 => ⟨lt, q2, _, _, rfl, rfl, (Same.trans (Same.new hq1) (Same.new hq2)) _ _ hlt5, upd_same, ?_, fun q3 hq3 => ⟨_, rfl, _, rfl, _, _, rfl, rfl, _, _, rfl, ((zs.length + 1 : Nat) : Int), congrArg V.int (by rw [hzl]; split <;> omega), ss, _, rfl, SqL.of ((Same.trans (Same.trans (Same.new hq1) (Same.new hq2)) (Same.new hq3)) _ _ hss5), fun q4 hq4 => ⟨_, _, rfl, ?_⟩⟩⟩⟩⟩⟩
            · rw [cut_last, sizeLine_eq]
              show 1 * (1 : Int).toNat ≤ 16777216
              decide
            · rw [cut_last, sizeLine_eq]
              have : (List.replicate (1 : Int).toNat [sv]).flatten.length ≤ 1 := by simp
              omega
            have sq123 := Same.trans (Same.trans (Same.new (o := .lst (cutV (zs ++ [z] ++ [sv]) (some (-1)) none)) hq1) (Same.new hq2)) (Same.new (o := .lst (lvs ++ (List.replicate (1 : Int).toNat (cutV (zs ++ [z] ++ [sv]) (some (-1)) none)).flatten)) hq3)
            have sq4 := Same.new (o := .lst (cutV (zs ++ [z] ++ [sv]) none (some ((zs.length + 1 : Nat) : Int)))) hq4
            have n3 := none_same (Same.trans (Same.new hq1) (Same.new hq2)) hq3
            have n4 := none_same sq123 hq4
            have n34 : q4 ≠ q3 := fun z => by rw [z, upd_same] at hq4; cases hq4
            have LL := linv_new T.toTop2 (svs := zs) (sv := z) (lvs := lvs ++ [sv]) (n := c + (24 - (j + 1)) * 401 + 10) (pen5.less (by omega)) B5 (hz.fi T.toTop2 f45) (paired_mono pz fun _ _ z => z.fi T.toTop2 f45) (paired_snoc ltr5 cur5) L4.nel.2.1 L4.nel.2.2 tab5 (Same.trans sq123 sq4) n4 n3 n34 (by rw [upd_same, cut_take (by rw [List.length_append]; omega), List.take_left' hzl]) ((sq4 _ _ upd_same).trans (by rw [cut_last]; rfl))
            exact qtl _ _ _ _ _ _ _ _ _ _ _ _ _ _ _ _ _ _ _ _ _ _ _ _ LL (by omega) fun H6 s6 => ⟨_, _, _, _, _, _, _, _, _, _, _, _, _, rfl, (LL.same T.toTop2 s6).less (by omega), by rw [List.length_append] at hsz ⊢; simp only [List.length_cons, List.length_nil] at hsz ⊢; omega⟩
          · have hs0 : svs = [] := List.length_eq_zero_iff.mp (by rw [← hlen, e]; rfl)
            subst hs0
            have L5 := L4.same T.toTop2 s5
            have pen5 := L5.pen
            have tab5 := L5.tabs
            have hss5 := L5.hss
            have hlt5 := L5.hlt
            have B5 := L5.bk
            refine ⟨rfl, .inl ⟨rfl, _, rfl, _, _, rfl, rfl, _, rfl, itF (decide_eq_false (by simp)) ⟨rfl, _, rfl, itF (by simp) ?_⟩⟩⟩
            refine ⟨_, rfl, _, rfl, _, rfl, -1, rfl, ss, _, rfl, SqL.of hss5, fun q1 hq1 => ⟨_, rfl, _, _, rfl, rfl, .inr ⟨_, rfl, q1, 0, _, rfl, congrArg V.int (if_neg (by simp)), upd_same, by decide, by decide, ?_, fun q2 hq2 => ⟨lt, q2, _, _, rfl, rfl, (Same.trans (Same.new hq1) (Same.new hq2)) _ _ hlt5, upd_same, ?_, fun q3 hq3 => ⟨_, rfl, _, rfl, _, _, rfl, rfl, _, _, rfl, ((0 + 1 : Nat) : Int), congrArg V.int (by simp), ss, _, rfl, SqL.of ((Same.trans (Same.trans (Same.new hq1) (Same.new hq2)) (Same.new hq3)) _ _ hss5), fun q4 hq4 => ⟨_, _, rfl, ?_⟩⟩⟩⟩⟩⟩
            · rw [cut_last, sizeLine_eq]
              show 1 * (0 : Int).toNat ≤ 16777216
              decide
            · rw [cut_last, sizeLine_eq]
              have : (List.replicate (0 : Int).toNat [sv]).flatten.length ≤ 1 := by simp
              omega
            have sq123 := Same.trans (Same.trans (Same.new (o := .lst (cutV ([] ++ [sv]) (some (-1)) none)) hq1) (Same.new hq2)) (Same.new (o := .lst (lvs ++ (List.replicate (0 : Int).toNat (cutV ([] ++ [sv]) (some (-1)) none)).flatten)) hq3)
            have sq4 := Same.new (o := .lst (cutV ([] ++ [sv]) none (some ((0 + 1 : Nat) : Int)))) hq4
            have n3 := none_same (Same.trans (Same.new hq1) (Same.new hq2)) hq3
            have n4 := none_same sq123 hq4
            have n34 : q4 ≠ q3 := fun z => by rw [z, upd_same] at hq4; cases hq4
            have LL := linv_new T.toTop2 (svs := []) (sv := sv) (lvs := lvs) (n := c + (24 - (j + 1)) * 401 + 10) (pen5.less (by omega)) B5 L5.cur L5.pas L5.ltr L5.nel.2.1 L5.nel.2.2 tab5 (Same.trans sq123 sq4) n4 n3 n34 (by rw [upd_same, cut_take (by simp)]; rfl) ((sq4 _ _ upd_same).trans (by simp))
            exact qtl _ _ _ _ _ _ _ _ _ _ _ _ _ _ _ _ _ _ _ _ _ _ _ _ LL (by simp) fun H6 s6 => ⟨_, _, _, _, _, _, _, _, _, _, _, _, _, rfl, (LL.same T.toTop2 s6).less (by omega), by omega⟩
        · refine itF (decide_eq_false hw6) ⟨L3.tabs, fun H4 eN T4 => ?_⟩
          have L4 := L3.ext T.toTop2 eN T4
          obtain ⟨_, ⟨dx4, hb4⟩, _, _, _⟩ := id L4.bk
          refine ⟨_, rfl, x, dx4, _, rfl, hb4, lk3n (by decide +kernel) (by decide +kernel) (by decide +kernel), _, rfl, x, pa, la, st, ps, ls, L4.bk, by rw [sizeLine_eq]; omega, fun y ys e H5 fb5 B5 => ?_, fun e H5 s5 => ?_⟩
          · subst e
            obtain ⟨zs, z, rfl, pz, hz⟩ := paired_last L4.ltr
            have x5 : ss ≠ x := ne_of L4.hss hb4 (by intro z; cases z)
            have y5 : lt ≠ x := ne_of L4.hlt hb4 (by intro z; cases z)
            have px := pen_ne L4.pen hb4 fun _ z => by cases z
            have ppa := pen_ne L4.pen L4.bk.pst fun _ z => by cases z
            have pla := pen_ne L4.pen L4.bk.ltr fun _ z => by cases z
            have lx : l ≠ x := by
              obtain ⟨_, _, _, _, hl, _⟩ := L4.pen
              exact ne_of hl hb4 (by intro z; cases z)
            have f45 := Fb.fi L4.bk fb5
            have pen5 := L4.pen.al (Al.ofFb fb5 fun _ h => h) (by simp [Ne.symm px, Ne.symm ppa, Ne.symm pla]) (by simp [lx, L4.nel.2.1, L4.nel.2.2])
            have tab5 := tabs_fb L4.tabs L4.bk fb5
            have hss5 := fb5 _ _ L4.hss x5 L4.ne1 L4.ne2
            have hlt5 := fb5 _ _ L4.hlt y5 L4.ne3 L4.ne4
            have cur5 := L4.cur.fi T.toTop2 f45
            have pas5 := paired_mono L4.pas fun _ _ z => z.fi T.toTop2 f45
            have ltr5 := paired_mono L4.ltr fun _ _ z => z.fi T.toTop2 f45
            have hzl : (zs ++ [z]).length = zs.length + 1 := by rw [List.length_append]; rfl
            have hyl : (ys ++ [y]).length = ys.length + 1 := by rw [List.length_append]; rfl
            refine repr_non ⟨_, rfl, by decide, fun e1 he1 => ⟨lt, e1, _, rfl, rfl, .inl ⟨SqL.of ((Same.new he1) _ _ hlt5), SqL.of upd_same⟩, _, rfl, itT (by simp) ⟨rfl, _, rfl, itF (by simp) ?_⟩⟩⟩
            have se1 := Same.new (o := .lst []) he1
            have hss6 := se1 _ _ hss5
            have hlt6 := se1 _ _ hlt5
            refine ⟨_, rfl, _, rfl, _, rfl, -1, rfl, lt, _, rfl, SqL.of hlt6, fun q1 hq1 => ⟨ss, q1, _, _, rfl, rfl, (Same.new hq1) _ _ hss6, upd_same, ?_, fun q3 hq3 => ⟨_, rfl, _, rfl, -1, rfl, lt, _, rfl, SqL.of ((Same.trans (Same.new hq1) (Same.new hq3)) _ _ hlt6), fun q4 hq4 => ⟨_, _, rfl, ?_⟩⟩⟩⟩
            · have z1 := cutV_length (zs ++ [z]) (some (-1)) none
              have z2 : (svs ++ [sv]).length = svs.length + 1 := by rw [List.length_append]; rfl
              rw [sizeLine_eq]
              omega
            have sq13 := Same.trans se1 (Same.trans (Same.new (o := .lst (cutV (zs ++ [z]) (some (-1)) none)) hq1) (Same.new (o := .lst (svs ++ [sv] ++ cutV (zs ++ [z]) (some (-1)) none)) hq3))
            have sq4 := Same.new (o := .lst (cutV (zs ++ [z]) none (some (-1)))) hq4
            have n3 := none_same (Same.trans se1 (Same.new hq1)) hq3
            have n4 := none_same sq13 hq4
            have n34 : q3 ≠ q4 := fun z => by rw [← z, upd_same] at hq4; cases hq4
            have LL := linv_new T.toTop2 (svs := svs ++ [sv]) (sv := z) (lvs := zs) (n := c + (24 - (j + 1)) * 401 + 10) (pen5.less (by omega)) B5 (hz.fi T.toTop2 f45) (paired_snoc pas5 cur5) (paired_mono pz fun _ _ z => z.fi T.toTop2 f45) L4.nel.2.1 L4.nel.2.2 tab5 (Same.trans sq13 sq4) n3 n4 n34 ((sq4 _ _ upd_same).trans (by rw [cut_last])) (by rw [upd_same, cut_init])
            exact qtl _ _ _ _ _ _ _ _ _ _ _ _ _ _ _ _ _ _ _ _ _ _ _ _ LL (by rw [List.length_append]; show svs.length + 1 ≤ 100; omega) fun H6 s6 => ⟨_, _, _, _, _, _, _, _, _, _, _, _, _, rfl, (LL.same T.toTop2 s6).less (by omega), by rw [List.length_append]; show ps.length + 1 + ys.length ≤ _; omega⟩
          · have hs0 : lvs = [] := List.length_eq_zero_iff.mp (by rw [← hlen2, e]; rfl)
            subst hs0
            have L5 := L4.same T.toTop2 s5
            have pen5 := L5.pen
            have tab5 := L5.tabs
            have hss5 := L5.hss
            have hlt5 := L5.hlt
            have B5 := L5.bk
            refine ⟨rfl, .inr ⟨rfl, _, rfl, by decide, fun e1 he1 => ⟨lt, e1, _, rfl, rfl, .inl ⟨SqL.of ((Same.new he1) _ _ hlt5), SqL.of upd_same⟩, _, rfl, itF (by simp) ⟨rfl, _, rfl, itF (by simp) ?_⟩⟩⟩⟩
            have c0 : ∀ a b, cutV [] a b = [] := fun a b => List.length_eq_zero_iff.mp (Nat.le_zero.mp (cutV_length [] a b))
            have se1 := Same.new (o := .lst []) he1
            have hss6 := se1 _ _ hss5
            have hlt6 := se1 _ _ hlt5
            refine ⟨_, rfl, _, rfl, _, rfl, -1, rfl, lt, _, rfl, SqL.of hlt6, fun q1 hq1 => ⟨ss, q1, _, _, rfl, rfl, (Same.new hq1) _ _ hss6, upd_same, ?_, fun q3 hq3 => ⟨_, rfl, _, rfl, -1, rfl, lt, _, rfl, SqL.of ((Same.trans (Same.new hq1) (Same.new hq3)) _ _ hlt6), fun q4 hq4 => ⟨_, _, rfl, ?_⟩⟩⟩⟩
            · have z1 := cutV_length ([]) (some (-1)) none
              have z2 : (svs ++ [sv]).length = svs.length + 1 := by rw [List.length_append]; rfl
              rw [sizeLine_eq]
              omega
            have sq13 := Same.trans se1 (Same.trans (Same.new (o := .lst (cutV ([]) (some (-1)) none)) hq1) (Same.new (o := .lst (svs ++ [sv] ++ cutV ([]) (some (-1)) none)) hq3))
            have sq4 := Same.new (o := .lst (cutV ([]) none (some (-1)))) hq4
            have n3 := none_same (Same.trans se1 (Same.new hq1)) hq3
            have n4 := none_same sq13 hq4
            have n34 : q3 ≠ q4 := fun z => by rw [← z, upd_same] at hq4; cases hq4
            have LL := linv_new T.toTop2 (svs := svs) (sv := sv) (lvs := []) (n := c + (24 - (j + 1)) * 401 + 10) (pen5.less (by omega)) B5 L5.cur L5.pas L5.ltr L5.nel.2.1 L5.nel.2.2 tab5 (Same.trans sq13 sq4) n3 n4 n34 ((sq4 _ _ upd_same).trans (by rw [c0, List.append_nil])) (by rw [upd_same, c0])
            exact qtl _ _ _ _ _ _ _ _ _ _ _ _ _ _ _ _ _ _ _ _ _ _ _ _ LL (by omega) fun H6 s6 => ⟨_, _, _, _, _, _, _, _, _, _, _, _, _, rfl, (LL.same T.toTop2 s6).less (by omega), by omega⟩
    · rintro σ H2 ⟨u6, u7, u8, pa, la, ss, lt, st, sv, ps, ls, svs, lvs, rfl, L, hsz⟩
      obtain ⟨s', W', Nw⟩ := L.cur
      obtain ⟨_, ⟨dx3, hb3⟩, hpa3, hla3, hpl3⟩ := id L.bk
      have px := pen_ne L.pen hb3 fun _ z => by cases z
      have ppa := pen_ne L.pen hpa3 fun _ z => by cases z
      have pla := pen_ne L.pen hla3 fun _ z => by cases z
      have lx : l ≠ x := by
        obtain ⟨_, _, _, _, hl, _⟩ := L.pen
        exact ne_of hl hb3 (by intro z; cases z)
      exact ⟨_, rfl, _, rfl, x, pa, la, st, ps, ls, s', W', rfl, L.bk, Nw.st, Nw.ok, Nw.inw, by omega, L.tabs, fun H' al T' => ⟨_, rfl, itF rfl ⟨_, _, _, _, _, _, _, _, rfl, (L.pen.al al (by simp [Ne.symm px, Ne.symm ppa, Ne.symm pla]) (by simp [lx, L.nel.2.1, L.nel.2.2])).less (by omega), T'⟩⟩⟩
  · rintro σ H2 ⟨u2, u3, u4, u5, u6, u7, u8, u9, rfl, _, _⟩
    exact q H2

end
end Ef

set_option Elab.async false
set_option linter.all false
set_option maxRecDepth 100000
set_option maxHeartbeats 4000000
namespace Ef
open PySem PySem.Spec PyProof.Rows L2 He L2H LamX
/-! ### the end, for a promise where nothing is being shown (LamX.law_callTs asks for one at every place) -/
abbrev scrO (vs : List Value) : Obj := { cls := .type "list", data := .seq vs.toArray }
abbrev tabO : Obj := { cls := .none, data := .fields #[] }
/-- the first heap: the tables at T, the script at a where the written part does not hold it -/
def H0 (K : PySem.W.Frag) (T : List Addr) (a : Addr) (vs : List Value) (xs : List V) : Hp := fun b =>
  if b ∈ T then some (.tbl #[]) else if b = a ∧ (K.lookup a).isNone = true then some (.frz (scrO vs) (.lst xs)) else none
section
variable {P : Program} {w : World} {K : PySem.W.Frag} {T : List Addr} {a : Addr} {vs : List Value} {xs : List V} {h : Heap}
theorem H0_cases (b : Addr) : (b ∈ T ∧ H0 K T a vs xs b = some (.tbl #[])) ∨ (b = a ∧ K.lookup b = none ∧ H0 K T a vs xs b = some (.frz (scrO vs) (.lst xs))) ∨ H0 K T a vs xs b = none := by
  unfold H0
  by_cases m : b ∈ T
  · exact .inl ⟨m, by simp only [m, if_true]⟩
  · by_cases n : b = a ∧ (K.lookup a).isNone = true
    · refine .inr (.inl ⟨n.1, ?_, (if_neg m).trans (if_pos n)⟩)
      rw [n.1]
      exact Option.isNone_iff_eq_none.mp n.2
    · exact .inr (.inr (by simp only [m, n, if_false]))
theorem H0_ok (ha : h.get? a = some (scrO vs)) (hT : ∀ b ∈ T, h.get? b = some tabO) (r : Vals xs vs) (hl : xs.length ≤ sizeLine) : HOk P w (H0 K T a vs xs) h := fun b u z => by
  rcases H0_cases (K := K) (T := T) (a := a) (vs := vs) (xs := xs) b with ⟨m, e⟩ | ⟨e1, _, e⟩ | e
  · cases e.symm.trans z
    exact hT b m
  · cases e.symm.trans z
    subst e1
    exact ⟨ha, hl, vs, _, r, ha⟩
  · cases e.symm.trans z
theorem H0_script (X : K.In h) (ha : h.get? a = some (scrO vs)) (na : a ∉ T) (r : Vals xs vs) (hl : xs.length ≤ sizeLine) : SqL K (H0 K T a vs xs) a xs := by
  cases k : K.lookup a with
  | none => exact .inl (.inr ⟨scrO vs, by simp only [H0, na, k, Option.isNone_none, if_false, and_self, if_true]⟩)
  | some o =>
    cases ha.symm.trans (X a o k)
    refine .inr ⟨_, vs.toArray, _, k, rfl, rfl, rfl, ?_, by rw [List.toList_toArray]; exact r⟩
    rw [List.size_toArray, ← Paired.length r]
    exact hl
/-- nothing but lists and empty tables is tracked -/
theorem H0_out (ha : h.get? a = some (scrO vs)) (hT : ∀ b ∈ T, h.get? b = some tabO) {b : Addr} {o : Obj} (e : h.get? b = some o) (n1 : ∀ its n, o.data ≠ .seq its n) (n2 : o.data ≠ .fields #[]) : H0 K T a vs xs b = none := by
  rcases H0_cases (K := K) (T := T) (a := a) (vs := vs) (xs := xs) b with ⟨m, _⟩ | ⟨e1, _, _⟩ | z
  · cases e.symm.trans (hT b m)
    exact absurd rfl n2
  · subst e1
    cases e.symm.trans ha
    exact absurd rfl (n1 _ _)
  · exact z
theorem H0_in (X : K.In h) (nT : ∀ b ∈ T, K.lookup b = none) : K.In (hidT h (H0 K T a vs xs)) := fun b o e => hidT_get (X b o e) (by
  rcases H0_cases (K := K) (T := T) (a := a) (vs := vs) (xs := xs) b with ⟨m, _⟩ | ⟨_, k, _⟩ | z
  · cases e.symm.trans (nT b m)
  · cases e.symm.trans k
  · exact z)
theorem H0_ns (ha : h.get? a = some (scrO vs)) (hT : ∀ b ∈ T, h.get? b = some tabO) {b : Addr} {m : Str → Option Value} (n : h.Ns b m) : (hidT h (H0 K T a vs xs)).Ns b m :=
  have ⟨o, es, ep, e, d, r⟩ := n
  ⟨o, es, ep, hidT_get e (H0_out ha hT e (fun its k => by rw [d]; exact fun z => nomatch z) (by rw [d]; exact fun z => nomatch z)), d, r⟩
end
/-- .. with the law's own tables and code objects -/
theorem end_g {P : Program} {w : World} {K : PySem.W.Frag} {mg mb : Str → Option Value} {k : Nat} {f a : Addr} {cs : List (Addr × Addr)} {sp : Sp} {s : Shared} {vs : List Value} {ns : List Int} (X : K.In s.heap) (G : s.heap.Ns mainGlobals mg) (B : s.heap.Ns builtinsNs mb)
    (hB : ∀ x : Str, x ≠ "__name__" → mb x = bootBuiltins x) (lim : s.heap.NoLimit) (gen : s.gens = #[]) (hT : ∀ p ∈ cs, s.heap.get? p.2 = some tabO) (nT : ∀ p ∈ cs, K.lookup p.2 = none) (C : ∀ p ∈ cs, PySem.W.CodeHd s.heap p.1 p.2)
    (M : ∃ (bm : Addr) (ob : Obj), mg "__builtins__" = some (.ref bm) ∧ bm ≠ builtinsNs ∧ s.heap.get? bm = some ob ∧ ob.cls = .type "module" ∧ ob.dict = some builtinsNs ∧ ob.data = .plain) (ha : s.heap.get? a = some (scrO vs)) (hi : IntsAre vs ns) (hl : ns.length ≤ sizeLine) (hr : Room k callerA)
    (F : ∀ base : Heap, K.In base → base.Ns mainGlobals mg → (∀ p ∈ cs, TabB base mg p.1 p.2) → FnG P w K mg base CX0 k f sp) (hs : ∀ H : Hp, (∀ p ∈ cs, H p.2 = some (.tbl #[])) → SqL K H a (ns.map V.int) → sp [.ref a] H (fun v _ => v = .bl true) fun _ _ _ => False) :
    codeAny (model P w) callerA (.call (.ref f) ⟨[.ref a], []⟩) (fun r s' => r = .ok (.ret (.bool true)) ∧ OldK s.heap s'.heap ∧ s'.os = s.os ∧ AllBare s'.gens) s := by
  have inT : ∀ p ∈ cs, p.2 ∈ cs.map Prod.snd := fun p m => List.mem_map.mpr ⟨p, m, rfl⟩
  have ofT : ∀ {Z : Addr → Prop}, (∀ p ∈ cs, Z p.2) → ∀ b ∈ cs.map Prod.snd, Z b := fun z b m => by
    obtain ⟨p, hp, e⟩ := List.mem_map.mp m
    exact e ▸ z p hp
  have hT2 := ofT (Z := fun b => s.heap.get? b = some tabO) hT
  have nT2 := ofT (Z := fun b => K.lookup b = none) nT
  have na : a ∉ cs.map Prod.snd := fun m => by cases ha.symm.trans (hT2 a m)
  have r := vals_ints hi
  have hl2 : (ns.map V.int).length ≤ sizeLine := by rw [List.length_map]; exact hl
  -- H, the first heap; base, what is not tracked
  generalize hH : H0 K (cs.map Prod.snd) a vs (ns.map V.int) = H
  have cas := hH ▸ H0_cases (K := K) (T := cs.map Prod.snd) (a := a) (vs := vs) (xs := ns.map V.int)
  have ok : HOk P w H s.heap := hH ▸ H0_ok ha hT2 r hl2
  have scr : SqL K H a (ns.map V.int) := hH ▸ H0_script X ha na r hl2
  have out : ∀ {b : Addr} {o : Obj}, s.heap.get? b = some o → (∀ its n, o.data ≠ .seq its n) → o.data ≠ .fields #[] → H b = none := hH ▸ H0_out ha hT2
  have kb : K.In (hidT s.heap H) := hH ▸ H0_in X nT2
  have nsb : ∀ {b : Addr} {m : Str → Option Value}, s.heap.Ns b m → (hidT s.heap H).Ns b m := hH ▸ H0_ns ha hT2
  have tab : ∀ p ∈ cs, H p.2 = some (.tbl #[]) := fun p m => by
    rw [← hH]
    simp only [H0, inT p m, if_true]
  have mod : L2.Mod K mg (hidT s.heap H) := ⟨kb, nsb G, ⟨mb, nsb B, hB⟩, have ⟨mc, h1, h2⟩ := lim; ⟨mc, nsb h1, h2⟩⟩
  have tbs : ∀ p ∈ cs, TabB (hidT s.heap H) mg p.1 p.2 := fun p m => by
    have notG : ∀ {b : Addr} {o : Obj}, s.heap.get? b = some o → o.data = .plain → mainGlobals ≠ b ∧ p.2 ≠ b := fun {b o} e d => by
      obtain ⟨_, _, _, e2, d2, _⟩ := G
      refine ⟨fun z => ?_, fun z => ?_⟩ <;> subst z
      · cases e.symm.trans e2
        cases d.symm.trans d2
      · cases e.symm.trans (hT p m)
        cases d
    obtain ⟨bm, ob, b1, b2, b3, b4, b5, b6⟩ := M
    have ne := notG b3 b6
    refine ⟨?_, ⟨bm, ob, b1, b2, ne.1.symm, ne.2.symm, hidT_get b3 (out b3 (by rw [b6]; exact fun _ _ z => nomatch z) (by rw [b6]; exact fun z => nomatch z)), b4, b5, b6⟩, fun z => ?_⟩
    · obtain ⟨o, us, file, tf, flags, tg, inF, text, tt, c1, c2, c3, c4, rest⟩ := C p m
      refine ⟨o, us, file, tf, flags, tg, inF, text, tt, hidT_get c1 (out c1 (by rw [c3]; exact fun _ _ z => nomatch z) ?_), c2, c3, c4, rest⟩
      rw [c3]
      intro z
      cases z
      simp at c4
    · obtain ⟨_, _, _, e2, d2, _⟩ := G
      rw [z] at e2
      cases e2.symm.trans (hT p m)
      cases d2
  have env : Env0 P w K mg (hidT s.heap H) callerA [] s H := {
    frames := rfl
    mod := mod
    bs := fun _ _ e => of_hidT e
    bsz := Nat.le_of_eq (hidT_size _ _)
    funs := trivial
    frf := fun _ m => nomatch m
    hok := ok
    bare := .of_eq gen }
  refine codeAny_mono (F _ kb (nsb G) tbs callerA [] s H [.ref a] [.ref a] _ _ hr rfl env (.cons rfl .nil) (hs H tab scr)) fun q s' z => ?_
  match q, z with
  | .error _, z => exact z.elim
  | .ok .next, z => exact z.elim
  | .ok .brk, z => exact z.elim
  | .ok .cont, z => exact z.elim
  | .ok (.ret u), ⟨v, H2, os, bare, un, ok2, rv, qv⟩ =>
    have qv : v = .bl true := qv
    subst qv
    obtain rfl : u = Value.bool true := rv
    have out2 : ∀ b o, s.heap.get? b = some o → (∃ p ∈ cs, p.2 = b ∧ ∃ more : Array Value, s'.heap.get? b = some { cls := .none, data := .fields more }) ∨ s'.heap.get? b = some o := fun b o e => by
      rcases cas b with ⟨m, z⟩ | ⟨_, _, z⟩ | z
      · obtain ⟨p, hp, e2⟩ := List.mem_map.mp m
        obtain ⟨more, z2⟩ := un.tbls b #[] z
        exact .inl ⟨p, hp, e2, _, ok2 b _ z2⟩
      · have e2 := (ok2 b _ (un.frzs b _ _ z)).1
        exact .inr (e2.trans ((ok b _ z).1.symm.trans e))
      · exact .inr (un.keep b o e z (fun m => nomatch m) fun m => nomatch m)
    refine ⟨rfl, ⟨fun b o e => ?_, fun b o e => ?_⟩, os, bare⟩
    · rcases out2 b o e with ⟨p, hp, e2, more, z⟩ | z
      · subst e2
        cases e.symm.trans (hT p hp)
        exact .inr (.inl ⟨((C p hp).tab (hT p hp)).isCodeTable, rfl, #[], more, rfl, by rw [Array.empty_append]; exact z⟩)
      · exact .inl z
    · rcases out2 b o e with ⟨_, _, _, _, z⟩ | z
      · exact ⟨_, z⟩
      · exact ⟨_, z⟩
/-- what is known of the law's promise at the head's heap h -/
def LawG (l : PySem.W.OpenLaw) (w : World) (K : PySem.W.Frag) (k n : Nat) (mg : Str → Option Value) (f : Addr) (h : Heap) : Prop :=
  ∃ (cs : List (Addr × Addr)) (sp : Sp), (∀ p ∈ cs, h.get? p.2 = some tabO ∧ K.lookup p.2 = none ∧ PySem.W.CodeHd h p.1 p.2) ∧ (∀ (H : Hp) (a : Addr) (ns : List Int), ns.length ≤ n → (∀ p ∈ cs, H p.2 = some (.tbl #[])) → SqL K H a (ns.map V.int) → sp [.ref a] H (fun v _ => v = .bl true) fun _ _ _ => False) ∧
    ∀ base : Heap, K.In base → base.Ns mainGlobals mg → (∀ p ∈ cs, TabB base mg p.1 p.2) → FnG l.prog w K mg base CX0 k f sp
theorem walk_g {l : PySem.W.OpenLaw} {n k : Nat} {q : Program} {loose : List Str} {XP : (Str → Option Value) → Heap → Prop} {YP : World → Heap → Prop} {d : DefRec} (hn : l.most = some n) (hn2 : n ≤ sizeLine) (hd : d.params.defaults = []) (hr : Room k callerA)
    (F : ∀ (w : World) (mg : Str → Option Value) (f : Addr) (h : Heap), YP w h → h.Ns mainGlobals mg → mg d.name = some (.ref f) → ∃ K : PySem.W.Frag, K.In h ∧ LawG l w K k n mg f h) : PySem.W.WalkO q loose XP YP l.row.toRowW d [] (fun f vs => PySem.call f vs) :=
  Att.attach_callB hn hd fun w s₀ s₁ mg mb f o pm cd doc a vs ns G Y ho hd hcd hmg hobj hi hlen _ hg =>
    have ⟨K, X, cs, sp, hc, hs, hF⟩ := F w mg f _ Y G.T.g hmg
    end_g X G.T.g G.T.b G.T.builtins G.T.nolimit hg (fun p m => (hc p m).1) (fun p m => (hc p m).2.1) (fun p m => (hc p m).2.2) G.T.bmain hobj hi (Nat.le_trans hlen hn2) hr hF fun H hH hS => hs H a ns hlen hH hS
theorem roomLaw : Room 29 callerA := ⟨rfl, by decide, by decide⟩
end Ef

set_option Elab.async false
set_option linter.all false
set_option maxRecDepth 100000
set_option maxHeartbeats 4000000
namespace Ef
open PySem PySem.Spec PyProof.Rows L2 He L2H LamX
/-! ### what the Bools tell -/
theorem propB_ok {K : PySem.W.Frag} {C m : Str} (h : propB K (C, m) = true) : PropOf K (ga K C) m (ma K (ga K C) m) (pgt K (ga K C) m) := by
  obtain ⟨h1, h⟩ := ba h
  obtain ⟨h2, h⟩ := ba h
  obtain ⟨h3, h4⟩ := ba h
  refine ⟨eqO_ok h1, eqO_ok h2, of_decide_eq_true h3, ?_⟩
  unfold pgt
  split at h4
  · rename_i g rest e
    have e' : PySem.W.recIn K (ma K (ga K C) m) "property" = some (.ref g :: rest) := e
    rw [e']
    exact ⟨rest, rfl⟩
  · cases h4
theorem oxbB_ok {K : PySem.W.Frag} {C : Addr} {B newId initId : String} {bm : List Value} (fb : PySem.ExcBaseFacts B newId initId bm) (pass : ∀ self, PySem.refuseLoop self "__setattr__" bm = pure ()) (obj : bm.contains (.type "object") = true) (h : oxbB K C newId bm = true) :
    PySem.EfX.Oxb K C B newId initId bm := by
  obtain ⟨q, h⟩ := ba h
  obtain ⟨h1, h⟩ := ba h
  obtain ⟨h2, h⟩ := ba h
  obtain ⟨h3, h4⟩ := ba h
  refine ⟨fb, ?_, pass, obj, eqO_ok h1, of_decide_eq_true h2, of_decide_eq_true h3, h4⟩
  split at q
  · rename_i dd cd sl ho
    split at q
    · rename_i C' bm' k0 k1 k2 k3 n k5 hm hs
      obtain ⟨q1, q⟩ := ba q
      obtain ⟨q2, q⟩ := ba q
      obtain ⟨q3, q⟩ := ba q
      obtain ⟨q4, q5⟩ := ba q
      have e1 := of_decide_eq_true q1
      have e2 := of_decide_eq_true q2
      have e5 := of_decide_eq_true q5
      subst e1 e2 e5
      obtain ⟨nm, bs, mro, ns, qn, hd, sn, sub, ab, col, del⟩ := cd
      dsimp only at hm q3 q4
      have q3' : del = false := by simpa using q3
      subst hm q4 q3'
      have hsl : sl = #[k0, k1, k2, k3, some (.builtin n), k5] := by
        obtain ⟨l⟩ := sl
        simp only at hs
        rw [hs]
      subst hsl
      exact ⟨nm, qn, ns, bs, sn, sub, ab, col, dd, k0, k1, k2, k3, k5, ho⟩
    · cases q
  · cases q
theorem xiB_ok {K : PySem.W.Frag} {C : Addr} (h : xiB K C = true) : PySem.W.findIn K (.ref C) "__init__" = some (some (.ref (ma K C "__init__"))) ∧ PySem.W.typeIn K (.ref (ma K C "__init__")) = some (.type "function") := by
  obtain ⟨h1, h2⟩ := ba h
  exact ⟨eqO_ok h1, of_decide_eq_true h2⟩
theorem binB_ok {K : PySem.W.Frag} {T initId : String} (h : binB K T initId = true) : PySem.W.findCls K (.type T) (.type "type") "__init__" = some (.val (.builtin initId)) := by
  unfold binB at h
  split at h
  · rename_i i e
    rw [e, of_decide_eq_true h]
  · cases h
theorem insB_ok {K : PySem.W.Frag} {C : Addr} (h : insB K C = true) : InsOk K C := by
  obtain ⟨h1, h⟩ := ba h
  obtain ⟨h2, h⟩ := ba h
  obtain ⟨h3, h4⟩ := ba h
  exact ⟨eqO_ok h1, eqO_ok h2, of_decide_eq_true h3, of_decide_eq_true h4⟩
theorem excC_ok {K : PySem.W.Frag} {C : Addr} (h1 : xfB K C = true) (h2 : insB K C = true) : ExcC K C := by
  have a := xfB_ok h1
  have b := insB_ok h2
  exact ⟨a.ga, a.gg, a.exC, a.hdC, b.ha, b.hn, b.htk, b.hm⟩
theorem kitB_ok {K : PySem.W.Frag} (h : kitB K = true) (c : Cls K (ga K "Table")) (i : InsOk K (ga K "Table")) : KitTab K := by
  refine ⟨fun k hk => ?_, c, i⟩
  have h1 := List.all_eq_true.mp h k.ty (by cases k <;> first | (cases hk; done) | decide)
  exact of_decide_eq_true h1
end Ef

set_option Elab.async false
set_option linter.all false
set_option maxRecDepth 100000
set_option maxHeartbeats 4000000
namespace Ef
open PySem PySem.Spec PyProof.Rows L2 He L2H LamX
section
variable {w : World} {K : PySem.W.Frag} {h : Heap} {mg : Str → Option Value}
/-! ### what the walk asks of the top, out of what the Hook says -/
theorem top_of (X : K.In h) (G : h.Ns mainGlobals mg) (c : SaysP fas dfs tabs tfs exB w h K) : Top K mg := by
  obtain ⟨m_props, m⟩ := ba c.more
  obtain ⟨m_oxs, m⟩ := ba m
  obtain ⟨m_bin, m⟩ := ba m
  obtain ⟨m_kit, m⟩ := ba m
  obtain ⟨m_insT, m⟩ := ba m
  obtain ⟨m_insS, m⟩ := ba m
  obtain ⟨m_con, m⟩ := ba m
  obtain ⟨m_vals, m⟩ := ba m
  obtain ⟨m_exm, m⟩ := ba m
  obtain ⟨m_tb, m⟩ := ba m
  obtain ⟨m_sb, m⟩ := ba m
  obtain ⟨m_xf, m⟩ := ba m
  obtain ⟨m_rt, m⟩ := ba m
  obtain ⟨m_12, m⟩ := ba m
  obtain ⟨m_13, m_23⟩ := ba m
  have m_ox : ∀ (i : Nat) {q : Str × String × List Value}, oxs[i]? = some q → oxbB K (ga K q.1) q.2.1 q.2.2 = true ∧ xiB K (ga K q.1) = true := fun i q e => ba (List.all_eq_true.mp m_oxs q (List.mem_of_getElem? e))
  exact {
    d_is_integer := c.defs f_is_integer (List.mem_of_getElem? (i := 0) rfl)
    g_is_integer := glo_ok X G (c.fact _ (List.mem_of_getElem? (i := 0) (a := Fa.glo "is_integer") rfl))
    d_is_list := c.defs f_is_list (List.mem_of_getElem? (i := 1) rfl)
    g_is_list := glo_ok X G (c.fact _ (List.mem_of_getElem? (i := 1) (a := Fa.glo "is_list") rfl))
    d_is_price := c.defs f_is_price (List.mem_of_getElem? (i := 2) rfl)
    g_is_price := glo_ok X G (c.fact _ (List.mem_of_getElem? (i := 2) (a := Fa.glo "is_price") rfl))
    d_InvalidEcho_init := c.defs f_InvalidEcho_init (List.mem_of_getElem? (i := 3) rfl)
    d_InvalidWishes_init := c.defs f_InvalidWishes_init (List.mem_of_getElem? (i := 4) rfl)
    d_InvalidPlace_init := c.defs f_InvalidPlace_init (List.mem_of_getElem? (i := 5) rfl)
    d_InvalidNumber_init := c.defs f_InvalidNumber_init (List.mem_of_getElem? (i := 6) rfl)
    d_InvalidDeed_init := c.defs f_InvalidDeed_init (List.mem_of_getElem? (i := 7) rfl)
    d_NoEcho_init := c.defs f_NoEcho_init (List.mem_of_getElem? (i := 8) rfl)
    d_TooLong_init := c.defs f_TooLong_init (List.mem_of_getElem? (i := 9) rfl)
    d_TooFar_init := c.defs f_TooFar_init (List.mem_of_getElem? (i := 10) rfl)
    d_NothingToUndo_init := c.defs f_NothingToUndo_init (List.mem_of_getElem? (i := 11) rfl)
    d_NothingToRedo_init := c.defs f_NothingToRedo_init (List.mem_of_getElem? (i := 12) rfl)
    d_are_rows := c.defs f_are_rows (List.mem_of_getElem? (i := 13) rfl)
    g_are_rows := glo_ok X G (c.fact _ (List.mem_of_getElem? (i := 3) (a := Fa.glo "are_rows") rfl))
    d_need_letters := c.defs f_need_letters (List.mem_of_getElem? (i := 14) rfl)
    g_need_letters := glo_ok X G (c.fact _ (List.mem_of_getElem? (i := 4) (a := Fa.glo "need_letters") rfl))
    d_Table_init := c.defs f_Table_init (List.mem_of_getElem? (i := 15) rfl)
    d_Table_rows := c.defs f_Table_rows (List.mem_of_getElem? (i := 16) rfl)
    p_Table_rows := propB_ok (List.all_eq_true.mp m_props _ (List.mem_of_getElem? (i := 0) (a := (("Table" : Str), ("rows" : Str))) rfl))
    d_Table_letters := c.defs f_Table_letters (List.mem_of_getElem? (i := 17) rfl)
    p_Table_letters := propB_ok (List.all_eq_true.mp m_props _ (List.mem_of_getElem? (i := 1) (a := (("Table" : Str), ("letters" : Str))) rfl))
    d_Table_text := c.defs f_Table_text (List.mem_of_getElem? (i := 18) rfl)
    p_Table_text := propB_ok (List.all_eq_true.mp m_props _ (List.mem_of_getElem? (i := 2) (a := (("Table" : Str), ("text" : Str))) rfl))
    d_is_echo := c.defs f_is_echo (List.mem_of_getElem? (i := 19) rfl)
    g_is_echo := glo_ok X G (c.fact _ (List.mem_of_getElem? (i := 5) (a := Fa.glo "is_echo") rfl))
    d_need_echoes := c.defs f_need_echoes (List.mem_of_getElem? (i := 20) rfl)
    g_need_echoes := glo_ok X G (c.fact _ (List.mem_of_getElem? (i := 6) (a := Fa.glo "need_echoes") rfl))
    d_Song_init := c.defs f_Song_init (List.mem_of_getElem? (i := 21) rfl)
    d_Song_letters := c.defs f_Song_letters (List.mem_of_getElem? (i := 22) rfl)
    p_Song_letters := propB_ok (List.all_eq_true.mp m_props _ (List.mem_of_getElem? (i := 3) (a := (("Song" : Str), ("letters" : Str))) rfl))
    d_Song_length := c.defs f_Song_length (List.mem_of_getElem? (i := 23) rfl)
    p_Song_length := propB_ok (List.all_eq_true.mp m_props _ (List.mem_of_getElem? (i := 4) (a := (("Song" : Str), ("length" : Str))) rfl))
    d_Song_is_near := c.defs f_Song_is_near (List.mem_of_getElem? (i := 24) rfl)
    p_Song_is_near := propB_ok (List.all_eq_true.mp m_props _ (List.mem_of_getElem? (i := 5) (a := (("Song" : Str), ("is_near" : Str))) rfl))
    d_Song_text := c.defs f_Song_text (List.mem_of_getElem? (i := 25) rfl)
    p_Song_text := propB_ok (List.all_eq_true.mp m_props _ (List.mem_of_getElem? (i := 6) (a := (("Song" : Str), ("text" : Str))) rfl))
    d_Song_with_length := c.defs f_Song_with_length (List.mem_of_getElem? (i := 26) rfl)
    m_Song_with_length := meth_ok (c.fact _ (List.mem_of_getElem? (i := 7) (a := Fa.meth "Song" "with_length") rfl))
    d_Song_with_echo := c.defs f_Song_with_echo (List.mem_of_getElem? (i := 27) rfl)
    m_Song_with_echo := meth_ok (c.fact _ (List.mem_of_getElem? (i := 8) (a := Fa.meth "Song" "with_echo") rfl))
    d_Song_without_echo := c.defs f_Song_without_echo (List.mem_of_getElem? (i := 28) rfl)
    m_Song_without_echo := meth_ok (c.fact _ (List.mem_of_getElem? (i := 9) (a := Fa.meth "Song" "without_echo") rfl))
    d_need_song := c.defs f_need_song (List.mem_of_getElem? (i := 29) rfl)
    g_need_song := glo_ok X G (c.fact _ (List.mem_of_getElem? (i := 10) (a := Fa.glo "need_song") rfl))
    d_need_near := c.defs f_need_near (List.mem_of_getElem? (i := 30) rfl)
    g_need_near := glo_ok X G (c.fact _ (List.mem_of_getElem? (i := 11) (a := Fa.glo "need_near") rfl))
    d_is_place := c.defs f_is_place (List.mem_of_getElem? (i := 31) rfl)
    g_is_place := glo_ok X G (c.fact _ (List.mem_of_getElem? (i := 12) (a := Fa.glo "is_place") rfl))
    d_need_place := c.defs f_need_place (List.mem_of_getElem? (i := 32) rfl)
    g_need_place := glo_ok X G (c.fact _ (List.mem_of_getElem? (i := 13) (a := Fa.glo "need_place") rfl))
    d_are_prices := c.defs f_are_prices (List.mem_of_getElem? (i := 33) rfl)
    g_are_prices := glo_ok X G (c.fact _ (List.mem_of_getElem? (i := 14) (a := Fa.glo "are_prices") rfl))
    d_is_deed := c.defs f_is_deed (List.mem_of_getElem? (i := 34) rfl)
    g_is_deed := glo_ok X G (c.fact _ (List.mem_of_getElem? (i := 15) (a := Fa.glo "is_deed") rfl))
    d_with_wish := c.defs f_with_wish (List.mem_of_getElem? (i := 35) rfl)
    g_with_wish := glo_ok X G (c.fact _ (List.mem_of_getElem? (i := 16) (a := Fa.glo "with_wish") rfl))
    d_without_wish := c.defs f_without_wish (List.mem_of_getElem? (i := 36) rfl)
    g_without_wish := glo_ok X G (c.fact _ (List.mem_of_getElem? (i := 17) (a := Fa.glo "without_wish") rfl))
    d_lengthened := c.defs f_lengthened (List.mem_of_getElem? (i := 37) rfl)
    g_lengthened := glo_ok X G (c.fact _ (List.mem_of_getElem? (i := 18) (a := Fa.glo "lengthened") rfl))
    d_state_after := c.defs f_state_after (List.mem_of_getElem? (i := 38) rfl)
    g_state_after := glo_ok X G (c.fact _ (List.mem_of_getElem? (i := 19) (a := Fa.glo "state_after") rfl))
    d_Book_init := c.defs f_Book_init (List.mem_of_getElem? (i := 39) rfl)
    d_Book_song := c.defs f_Book_song (List.mem_of_getElem? (i := 40) rfl)
    p_Book_song := propB_ok (List.all_eq_true.mp m_props _ (List.mem_of_getElem? (i := 7) (a := (("Book" : Str), ("song" : Str))) rfl))
    d_Book_wishes := c.defs f_Book_wishes (List.mem_of_getElem? (i := 41) rfl)
    p_Book_wishes := propB_ok (List.all_eq_true.mp m_props _ (List.mem_of_getElem? (i := 8) (a := (("Book" : Str), ("wishes" : Str))) rfl))
    d_Book_moment := c.defs f_Book_moment (List.mem_of_getElem? (i := 42) rfl)
    p_Book_moment := propB_ok (List.all_eq_true.mp m_props _ (List.mem_of_getElem? (i := 9) (a := (("Book" : Str), ("moment" : Str))) rfl))
    d_Book_go_on := c.defs f_Book_go_on (List.mem_of_getElem? (i := 43) rfl)
    m_Book_go_on := meth_ok (c.fact _ (List.mem_of_getElem? (i := 20) (a := Fa.meth "Book" "go_on") rfl))
    d_Book_do := c.defs f_Book_do (List.mem_of_getElem? (i := 44) rfl)
    m_Book_do := meth_ok (c.fact _ (List.mem_of_getElem? (i := 21) (a := Fa.meth "Book" "do") rfl))
    d_Book_state_behind := c.defs f_Book_state_behind (List.mem_of_getElem? (i := 45) rfl)
    m_Book_state_behind := meth_ok (c.fact _ (List.mem_of_getElem? (i := 22) (a := Fa.meth "Book" "state_behind") rfl))
    d_Book_run := c.defs f_Book_run (List.mem_of_getElem? (i := 46) rfl)
    m_Book_run := meth_ok (c.fact _ (List.mem_of_getElem? (i := 23) (a := Fa.meth "Book" "run") rfl))
    d_Book_undo := c.defs f_Book_undo (List.mem_of_getElem? (i := 47) rfl)
    m_Book_undo := meth_ok (c.fact _ (List.mem_of_getElem? (i := 24) (a := Fa.meth "Book" "undo") rfl))
    d_Book_redo := c.defs f_Book_redo (List.mem_of_getElem? (i := 48) rfl)
    m_Book_redo := meth_ok (c.fact _ (List.mem_of_getElem? (i := 25) (a := Fa.meth "Book" "redo") rfl))
    d_l_pen := c.defs f_l_pen (List.mem_of_getElem? (i := 49) rfl)
    g_l_pen := glo_ok X G (c.fact _ (List.mem_of_getElem? (i := 26) (a := Fa.glo "_law_pen") rfl))
    d_l_draw := c.defs f_l_draw (List.mem_of_getElem? (i := 50) rfl)
    g_l_draw := glo_ok X G (c.fact _ (List.mem_of_getElem? (i := 27) (a := Fa.glo "_law_draw") rfl))
    d_l_pick := c.defs f_l_pick (List.mem_of_getElem? (i := 51) rfl)
    g_l_pick := glo_ok X G (c.fact _ (List.mem_of_getElem? (i := 28) (a := Fa.glo "_law_pick") rfl))
    d_l_rows := c.defs f_l_rows (List.mem_of_getElem? (i := 52) rfl)
    g_l_rows := glo_ok X G (c.fact _ (List.mem_of_getElem? (i := 29) (a := Fa.glo "_law_rows") rfl))
    d_l_delays := c.defs f_l_delays (List.mem_of_getElem? (i := 53) rfl)
    g_l_delays := glo_ok X G (c.fact _ (List.mem_of_getElem? (i := 30) (a := Fa.glo "_law_delays") rfl))
    d_l_song := c.defs f_l_song (List.mem_of_getElem? (i := 54) rfl)
    g_l_song := glo_ok X G (c.fact _ (List.mem_of_getElem? (i := 31) (a := Fa.glo "_law_song") rfl))
    d_l_long_song := c.defs f_l_long_song (List.mem_of_getElem? (i := 55) rfl)
    g_l_long_song := glo_ok X G (c.fact _ (List.mem_of_getElem? (i := 32) (a := Fa.glo "_law_long_song") rfl))
    d_l_made := c.defs f_l_made (List.mem_of_getElem? (i := 56) rfl)
    g_l_made := glo_ok X G (c.fact _ (List.mem_of_getElem? (i := 33) (a := Fa.glo "_law_made") rfl))
    d_l_is_integer := c.defs f_l_is_integer (List.mem_of_getElem? (i := 57) rfl)
    g_l_is_integer := glo_ok X G (c.fact _ (List.mem_of_getElem? (i := 34) (a := Fa.glo "_law_is_integer") rfl))
    d_l_odd := c.defs f_l_odd (List.mem_of_getElem? (i := 58) rfl)
    g_l_odd := glo_ok X G (c.fact _ (List.mem_of_getElem? (i := 35) (a := Fa.glo "_law_odd") rfl))
    d_l_are_wishes := c.defs f_l_are_wishes (List.mem_of_getElem? (i := 59) rfl)
    g_l_are_wishes := glo_ok X G (c.fact _ (List.mem_of_getElem? (i := 36) (a := Fa.glo "_law_are_wishes") rfl))
    d_l_plain := c.defs f_l_plain (List.mem_of_getElem? (i := 60) rfl)
    g_l_plain := glo_ok X G (c.fact _ (List.mem_of_getElem? (i := 37) (a := Fa.glo "_law_plain") rfl))
    d_l_song_text := c.defs f_l_song_text (List.mem_of_getElem? (i := 61) rfl)
    g_l_song_text := glo_ok X G (c.fact _ (List.mem_of_getElem? (i := 38) (a := Fa.glo "_law_song_text") rfl))
    d_l_table_text := c.defs f_l_table_text (List.mem_of_getElem? (i := 62) rfl)
    g_l_table_text := glo_ok X G (c.fact _ (List.mem_of_getElem? (i := 39) (a := Fa.glo "_law_table_text") rfl))
    d_l_with_echoes := c.defs f_l_with_echoes (List.mem_of_getElem? (i := 63) rfl)
    g_l_with_echoes := glo_ok X G (c.fact _ (List.mem_of_getElem? (i := 40) (a := Fa.glo "_law_with_echoes") rfl))
    d_l_behind := c.defs f_l_behind (List.mem_of_getElem? (i := 64) rfl)
    g_l_behind := glo_ok X G (c.fact _ (List.mem_of_getElem? (i := 41) (a := Fa.glo "_law_behind") rfl))
    d_l_lengthened := c.defs f_l_lengthened (List.mem_of_getElem? (i := 65) rfl)
    g_l_lengthened := glo_ok X G (c.fact _ (List.mem_of_getElem? (i := 42) (a := Fa.glo "_law_lengthened") rfl))
    d_l_refused := c.defs f_l_refused (List.mem_of_getElem? (i := 66) rfl)
    g_l_refused := glo_ok X G (c.fact _ (List.mem_of_getElem? (i := 43) (a := Fa.glo "_law_refused") rfl))
    d_l_prices := c.defs f_l_prices (List.mem_of_getElem? (i := 67) rfl)
    g_l_prices := glo_ok X G (c.fact _ (List.mem_of_getElem? (i := 44) (a := Fa.glo "_law_prices") rfl))
    d_l_deed := c.defs f_l_deed (List.mem_of_getElem? (i := 68) rfl)
    g_l_deed := glo_ok X G (c.fact _ (List.mem_of_getElem? (i := 45) (a := Fa.glo "_law_deed") rfl))
    d_l_odd_deed := c.defs f_l_odd_deed (List.mem_of_getElem? (i := 69) rfl)
    g_l_odd_deed := glo_ok X G (c.fact _ (List.mem_of_getElem? (i := 46) (a := Fa.glo "_law_odd_deed") rfl))
    d_l_is_book := c.defs f_l_is_book (List.mem_of_getElem? (i := 70) rfl)
    g_l_is_book := glo_ok X G (c.fact _ (List.mem_of_getElem? (i := 47) (a := Fa.glo "_law_is_book") rfl))
    d_l_moved := c.defs f_l_moved (List.mem_of_getElem? (i := 71) rfl)
    g_l_moved := glo_ok X G (c.fact _ (List.mem_of_getElem? (i := 48) (a := Fa.glo "_law_moved") rfl))
    d_l_run_right := c.defs f_l_run_right (List.mem_of_getElem? (i := 72) rfl)
    g_l_run_right := glo_ok X G (c.fact _ (List.mem_of_getElem? (i := 49) (a := Fa.glo "_law_run_right") rfl))
    d_l_void_right := c.defs f_l_void_right (List.mem_of_getElem? (i := 73) rfl)
    g_l_void_right := glo_ok X G (c.fact _ (List.mem_of_getElem? (i := 50) (a := Fa.glo "_law_void_right") rfl))
    d_law := c.defs f_law (List.mem_of_getElem? (i := 74) rfl)
    g_law := glo_ok X G (c.fact _ (List.mem_of_getElem? (i := 51) (a := Fa.glo "law") rfl))
    c_Table := cls_ok (c.fact _ (List.mem_of_getElem? (i := 52) (a := Fa.cls "Table") rfl))
    k_Table := mkr_ok (c.fact _ (List.mem_of_getElem? (i := 53) (a := Fa.mkr "Table") rfl))
    g_Table := glo_ok X G (c.fact _ (List.mem_of_getElem? (i := 54) (a := Fa.glo "Table") rfl))
    c_Song := cls_ok (c.fact _ (List.mem_of_getElem? (i := 55) (a := Fa.cls "Song") rfl))
    k_Song := mkr_ok (c.fact _ (List.mem_of_getElem? (i := 56) (a := Fa.mkr "Song") rfl))
    g_Song := glo_ok X G (c.fact _ (List.mem_of_getElem? (i := 57) (a := Fa.glo "Song") rfl))
    c_Book := cls_ok (c.fact _ (List.mem_of_getElem? (i := 58) (a := Fa.cls "Book") rfl))
    k_Book := mkr_ok (c.fact _ (List.mem_of_getElem? (i := 59) (a := Fa.mkr "Book") rfl))
    g_Book := glo_ok X G (c.fact _ (List.mem_of_getElem? (i := 60) (a := Fa.glo "Book") rfl))
    n_Table_entries := noat_ok (c.fact _ (List.mem_of_getElem? (i := 61) (a := Fa.noat "Table" "entries") rfl))
    n_Song_alphabet := noat_ok (c.fact _ (List.mem_of_getElem? (i := 62) (a := Fa.noat "Song" "alphabet") rfl))
    n_Song_size := noat_ok (c.fact _ (List.mem_of_getElem? (i := 63) (a := Fa.noat "Song" "size") rfl))
    n_Song_voices := noat_ok (c.fact _ (List.mem_of_getElem? (i := 64) (a := Fa.noat "Song" "voices") rfl))
    n_Book_state := noat_ok (c.fact _ (List.mem_of_getElem? (i := 65) (a := Fa.noat "Book" "state") rfl))
    n_Book_past := noat_ok (c.fact _ (List.mem_of_getElem? (i := 66) (a := Fa.noat "Book" "past") rfl))
    n_Book_later := noat_ok (c.fact _ (List.mem_of_getElem? (i := 67) (a := Fa.noat "Book" "later") rfl))
    v_MAX_LETTERS := have ⟨t, e⟩ := int_ok X G (c.fact _ (List.mem_of_getElem? (i := 68) (a := Fa.int "MAX_LETTERS" 5) rfl)); ⟨_, e, t, rfl⟩
    v_FARTHEST := have ⟨t, e⟩ := int_ok X G (c.fact _ (List.mem_of_getElem? (i := 69) (a := Fa.int "FARTHEST" 1000000000000000000000000000000) rfl)); ⟨_, e, t, rfl⟩
    v_GREATEST := have ⟨t, e⟩ := int_ok X G (c.fact _ (List.mem_of_getElem? (i := 70) (a := Fa.int "GREATEST" 1000000000000000000000000000000) rfl)); ⟨_, e, t, rfl⟩
    v_MAX_ECHOES := have ⟨t, e⟩ := int_ok X G (c.fact _ (List.mem_of_getElem? (i := 71) (a := Fa.int "MAX_ECHOES" 2) rfl)); ⟨_, e, t, rfl⟩
    v_BARRED := have ⟨t, e⟩ := str_ok X G (c.fact _ (List.mem_of_getElem? (i := 72) (a := Fa.str "BARRED" "-") rfl)); ⟨_, e, t, rfl⟩
    v_BETWEEN_ROWS := have ⟨t, e⟩ := str_ok X G (c.fact _ (List.mem_of_getElem? (i := 73) (a := Fa.str "BETWEEN_ROWS" " / ") rfl)); ⟨_, e, t, rfl⟩
    b_isinstance := free_ok X G (c.fact _ (List.mem_of_getElem? (i := 74) (a := Fa.free "isinstance") rfl))
    b_len := free_ok X G (c.fact _ (List.mem_of_getElem? (i := 75) (a := Fa.free "len") rfl))
    b_all := free_ok X G (c.fact _ (List.mem_of_getElem? (i := 76) (a := Fa.free "all") rfl))
    b_sum := free_ok X G (c.fact _ (List.mem_of_getElem? (i := 77) (a := Fa.free "sum") rfl))
    b_tuple := free_ok X G (c.fact _ (List.mem_of_getElem? (i := 78) (a := Fa.free "tuple") rfl))
    b_list := free_ok X G (c.fact _ (List.mem_of_getElem? (i := 79) (a := Fa.free "list") rfl))
    b_int := free_ok X G (c.fact _ (List.mem_of_getElem? (i := 80) (a := Fa.free "int") rfl))
    b_str := free_ok X G (c.fact _ (List.mem_of_getElem? (i := 81) (a := Fa.free "str") rfl))
    b_bool := free_ok X G (c.fact _ (List.mem_of_getElem? (i := 82) (a := Fa.free "bool") rfl))
    b_dict := free_ok X G (c.fact _ (List.mem_of_getElem? (i := 83) (a := Fa.free "dict") rfl))
    b_sorted := free_ok X G (c.fact _ (List.mem_of_getElem? (i := 84) (a := Fa.free "sorted") rfl))
    b_enumerate := free_ok X G (c.fact _ (List.mem_of_getElem? (i := 85) (a := Fa.free "enumerate") rfl))
    b_range := free_ok X G (c.fact _ (List.mem_of_getElem? (i := 86) (a := Fa.free "range") rfl))
    b_abs := free_ok X G (c.fact _ (List.mem_of_getElem? (i := 87) (a := Fa.free "abs") rfl))
    b_max := free_ok X G (c.fact _ (List.mem_of_getElem? (i := 88) (a := Fa.free "max") rfl))
    b_min := free_ok X G (c.fact _ (List.mem_of_getElem? (i := 89) (a := Fa.free "min") rfl))
    b_repr := free_ok X G (c.fact _ (List.mem_of_getElem? (i := 90) (a := Fa.free "repr") rfl))
    b_ValueError := free_ok X G (c.fact _ (List.mem_of_getElem? (i := 91) (a := Fa.free "ValueError") rfl))
    b_IndexError := free_ok X G (c.fact _ (List.mem_of_getElem? (i := 92) (a := Fa.free "IndexError") rfl))
    b_OverflowError := free_ok X G (c.fact _ (List.mem_of_getElem? (i := 93) (a := Fa.free "OverflowError") rfl))
    b_RuntimeError := free_ok X G (c.fact _ (List.mem_of_getElem? (i := 94) (a := Fa.free "RuntimeError") rfl))
    x_InvalidEcho := oxbB_ok PySem.F.excBase_ValueError (fun self => by kernel_rfl) (by decide +kernel) (m_ox 0 (q := ("InvalidEcho", "ValueError.__new__", bmValueError)) rfl).1
    xi_InvalidEcho := (xiB_ok (m_ox 0 (q := ("InvalidEcho", "ValueError.__new__", bmValueError)) rfl).2).1
    xt_InvalidEcho := (xiB_ok (m_ox 0 (q := ("InvalidEcho", "ValueError.__new__", bmValueError)) rfl).2).2
    xg_InvalidEcho := glo_ok X G (c.fact _ (List.mem_of_getElem? (i := 95) (a := Fa.glo "InvalidEcho") rfl))
    xf_InvalidEcho := noat_ok (c.fact _ (List.mem_of_getElem? (i := 96) (a := Fa.noat "InvalidEcho" "value") rfl))
    x_InvalidWishes := oxbB_ok PySem.F.excBase_ValueError (fun self => by kernel_rfl) (by decide +kernel) (m_ox 1 (q := ("InvalidWishes", "ValueError.__new__", bmValueError)) rfl).1
    xi_InvalidWishes := (xiB_ok (m_ox 1 (q := ("InvalidWishes", "ValueError.__new__", bmValueError)) rfl).2).1
    xt_InvalidWishes := (xiB_ok (m_ox 1 (q := ("InvalidWishes", "ValueError.__new__", bmValueError)) rfl).2).2
    xg_InvalidWishes := glo_ok X G (c.fact _ (List.mem_of_getElem? (i := 97) (a := Fa.glo "InvalidWishes") rfl))
    xf_InvalidWishes := noat_ok (c.fact _ (List.mem_of_getElem? (i := 98) (a := Fa.noat "InvalidWishes" "value") rfl))
    x_InvalidPlace := oxbB_ok PySem.F.excBase_ValueError (fun self => by kernel_rfl) (by decide +kernel) (m_ox 2 (q := ("InvalidPlace", "ValueError.__new__", bmValueError)) rfl).1
    xi_InvalidPlace := (xiB_ok (m_ox 2 (q := ("InvalidPlace", "ValueError.__new__", bmValueError)) rfl).2).1
    xt_InvalidPlace := (xiB_ok (m_ox 2 (q := ("InvalidPlace", "ValueError.__new__", bmValueError)) rfl).2).2
    xg_InvalidPlace := glo_ok X G (c.fact _ (List.mem_of_getElem? (i := 99) (a := Fa.glo "InvalidPlace") rfl))
    xf_InvalidPlace := noat_ok (c.fact _ (List.mem_of_getElem? (i := 100) (a := Fa.noat "InvalidPlace" "value") rfl))
    x_InvalidNumber := oxbB_ok PySem.F.excBase_ValueError (fun self => by kernel_rfl) (by decide +kernel) (m_ox 3 (q := ("InvalidNumber", "ValueError.__new__", bmValueError)) rfl).1
    xi_InvalidNumber := (xiB_ok (m_ox 3 (q := ("InvalidNumber", "ValueError.__new__", bmValueError)) rfl).2).1
    xt_InvalidNumber := (xiB_ok (m_ox 3 (q := ("InvalidNumber", "ValueError.__new__", bmValueError)) rfl).2).2
    xg_InvalidNumber := glo_ok X G (c.fact _ (List.mem_of_getElem? (i := 101) (a := Fa.glo "InvalidNumber") rfl))
    xf_InvalidNumber := noat_ok (c.fact _ (List.mem_of_getElem? (i := 102) (a := Fa.noat "InvalidNumber" "value") rfl))
    x_NoEcho := oxbB_ok PySem.F.excBase_IndexError (fun self => by kernel_rfl) (by decide +kernel) (m_ox 4 (q := ("NoEcho", "IndexError.__new__", bmIndexError)) rfl).1
    xi_NoEcho := (xiB_ok (m_ox 4 (q := ("NoEcho", "IndexError.__new__", bmIndexError)) rfl).2).1
    xt_NoEcho := (xiB_ok (m_ox 4 (q := ("NoEcho", "IndexError.__new__", bmIndexError)) rfl).2).2
    xg_NoEcho := glo_ok X G (c.fact _ (List.mem_of_getElem? (i := 103) (a := Fa.glo "NoEcho") rfl))
    xf_NoEcho := noat_ok (c.fact _ (List.mem_of_getElem? (i := 104) (a := Fa.noat "NoEcho" "index") rfl))
    x_TooLong := oxbB_ok PySem.F.excBase_OverflowError (fun self => by kernel_rfl) (by decide +kernel) (m_ox 5 (q := ("TooLong", "OverflowError.__new__", bmOverflowError)) rfl).1
    xi_TooLong := (xiB_ok (m_ox 5 (q := ("TooLong", "OverflowError.__new__", bmOverflowError)) rfl).2).1
    xt_TooLong := (xiB_ok (m_ox 5 (q := ("TooLong", "OverflowError.__new__", bmOverflowError)) rfl).2).2
    xg_TooLong := glo_ok X G (c.fact _ (List.mem_of_getElem? (i := 105) (a := Fa.glo "TooLong") rfl))
    xf_TooLong := noat_ok (c.fact _ (List.mem_of_getElem? (i := 106) (a := Fa.noat "TooLong" "limit") rfl))
    x_TooFar := oxbB_ok PySem.F.excBase_OverflowError (fun self => by kernel_rfl) (by decide +kernel) (m_ox 6 (q := ("TooFar", "OverflowError.__new__", bmOverflowError)) rfl).1
    xi_TooFar := (xiB_ok (m_ox 6 (q := ("TooFar", "OverflowError.__new__", bmOverflowError)) rfl).2).1
    xt_TooFar := (xiB_ok (m_ox 6 (q := ("TooFar", "OverflowError.__new__", bmOverflowError)) rfl).2).2
    xg_TooFar := glo_ok X G (c.fact _ (List.mem_of_getElem? (i := 107) (a := Fa.glo "TooFar") rfl))
    xf_TooFar := noat_ok (c.fact _ (List.mem_of_getElem? (i := 108) (a := Fa.noat "TooFar" "limit") rfl))
    x_NothingToUndo := oxbB_ok PySem.F.excBase_RuntimeError (fun self => by kernel_rfl) (by decide +kernel) (m_ox 7 (q := ("NothingToUndo", "RuntimeError.__new__", bmRuntimeError)) rfl).1
    xi_NothingToUndo := (xiB_ok (m_ox 7 (q := ("NothingToUndo", "RuntimeError.__new__", bmRuntimeError)) rfl).2).1
    xt_NothingToUndo := (xiB_ok (m_ox 7 (q := ("NothingToUndo", "RuntimeError.__new__", bmRuntimeError)) rfl).2).2
    xg_NothingToUndo := glo_ok X G (c.fact _ (List.mem_of_getElem? (i := 109) (a := Fa.glo "NothingToUndo") rfl))
    x_NothingToRedo := oxbB_ok PySem.F.excBase_RuntimeError (fun self => by kernel_rfl) (by decide +kernel) (m_ox 8 (q := ("NothingToRedo", "RuntimeError.__new__", bmRuntimeError)) rfl).1
    xi_NothingToRedo := (xiB_ok (m_ox 8 (q := ("NothingToRedo", "RuntimeError.__new__", bmRuntimeError)) rfl).2).1
    xt_NothingToRedo := (xiB_ok (m_ox 8 (q := ("NothingToRedo", "RuntimeError.__new__", bmRuntimeError)) rfl).2).2
    xg_NothingToRedo := glo_ok X G (c.fact _ (List.mem_of_getElem? (i := 110) (a := Fa.glo "NothingToRedo") rfl))
    bi_ValueError := ⟨by kernel_rfl, by kernel_rfl, by kernel_rfl, binB_ok (List.all_eq_true.mp m_bin _ (List.mem_of_getElem? (i := 0) (a := ("ValueError", "ValueError.__init__")) rfl)), by kernel_rfl, by decide +kernel, by decide +kernel⟩
    bi_IndexError := ⟨by kernel_rfl, by kernel_rfl, by kernel_rfl, binB_ok (List.all_eq_true.mp m_bin _ (List.mem_of_getElem? (i := 1) (a := ("IndexError", "IndexError.__init__")) rfl)), by kernel_rfl, by decide +kernel, by decide +kernel⟩
    bi_OverflowError := ⟨by kernel_rfl, by kernel_rfl, by kernel_rfl, binB_ok (List.all_eq_true.mp m_bin _ (List.mem_of_getElem? (i := 2) (a := ("OverflowError", "OverflowError.__init__")) rfl)), by kernel_rfl, by decide +kernel, by decide +kernel⟩
    bi_RuntimeError := ⟨by kernel_rfl, by kernel_rfl, by kernel_rfl, binB_ok (List.all_eq_true.mp m_bin _ (List.mem_of_getElem? (i := 3) (a := ("RuntimeError", "RuntimeError.__init__")) rfl)), by kernel_rfl, by decide +kernel, by decide +kernel⟩
    kt := kitB_ok m_kit (cls_ok (c.fact _ (List.mem_of_getElem? (i := 52) (a := Fa.cls "Table") rfl))) (insB_ok m_insT)
    i_Song := insB_ok m_insS
  }
theorem top2_of (X : K.In h) (G : h.Ns mainGlobals mg) (c : SaysP fas dfs tabs tfs exB w h K) : Top2 w K mg := by
  have T := top_of X G c
  obtain ⟨m_props, m⟩ := ba c.more
  obtain ⟨m_oxs, m⟩ := ba m
  obtain ⟨m_bin, m⟩ := ba m
  obtain ⟨m_kit, m⟩ := ba m
  obtain ⟨m_insT, m⟩ := ba m
  obtain ⟨m_insS, m⟩ := ba m
  obtain ⟨m_con, m⟩ := ba m
  obtain ⟨m_vals, m⟩ := ba m
  obtain ⟨m_exm, m⟩ := ba m
  obtain ⟨m_tb, m⟩ := ba m
  obtain ⟨m_sb, m⟩ := ba m
  obtain ⟨m_xf, m⟩ := ba m
  obtain ⟨m_rt, m⟩ := ba m
  obtain ⟨m_12, m⟩ := ba m
  obtain ⟨m_13, m_23⟩ := ba m
  have m_ox : ∀ (i : Nat) {q : Str × String × List Value}, oxs[i]? = some q → oxbB K (ga K q.1) q.2.1 q.2.2 = true ∧ xiB K (ga K q.1) = true := fun i q e => ba (List.all_eq_true.mp m_oxs q (List.mem_of_getElem? e))
  exact { T with
    con_NEAR := conB_ok m_con
    things := have ⟨es, n, k⟩ := c.tab _ (List.mem_of_getElem? (i := 0) rfl); ⟨_, es, n, glo_ok X G (c.fact _ (List.mem_of_getElem? (i := 113) (a := Fa.glo "THINGS") rfl)), k, fun x hx => by
      simp only [List.mem_cons, List.not_mem_nil, or_false] at hx
      rcases hx with rfl | rfl | rfl | rfl | rfl
      · exact valsB_ok m_vals (q := ("wish", .int 2)) (List.mem_of_getElem? (i := 0) rfl)
      · exact valsB_ok m_vals (q := ("free", .int 1)) (List.mem_of_getElem? (i := 1) rfl)
      · exact valsB_ok m_vals (q := ("length", .int 1)) (List.mem_of_getElem? (i := 2) rfl)
      · exact valsB_ok m_vals (q := ("echo", .int 2)) (List.mem_of_getElem? (i := 3) rfl)
      · exact valsB_ok m_vals (q := ("drop", .int 1)) (List.mem_of_getElem? (i := 4) rfl)⟩
    x_InvalidDeed := oxbB_ok PySem.F.excBase_ValueError (fun self => by kernel_rfl) (by decide +kernel) (m_ox 9 (q := ("InvalidDeed", "ValueError.__new__", bmValueError)) rfl).1
    xi_InvalidDeed := (xiB_ok (m_ox 9 (q := ("InvalidDeed", "ValueError.__new__", bmValueError)) rfl).2).1
    xt_InvalidDeed := (xiB_ok (m_ox 9 (q := ("InvalidDeed", "ValueError.__new__", bmValueError)) rfl).2).2
    xg_InvalidDeed := glo_ok X G (c.fact _ (List.mem_of_getElem? (i := 111) (a := Fa.glo "InvalidDeed") rfl))
    xf_InvalidDeed := noat_ok (c.fact _ (List.mem_of_getElem? (i := 112) (a := Fa.noat "InvalidDeed" "index") rfl))
    exm := fun x hx y hy => of_decide_eq_true (List.all_eq_true.mp (List.all_eq_true.mp m_exm x hx) y hy)
    ne_TB := of_decide_eq_true m_tb
    ne_SB := of_decide_eq_true m_sb
  }
theorem top3_of (X : K.In h) (G : h.Ns mainGlobals mg) (c : SaysP fas dfs tabs tfs exB w h K) : Top3 w K mg := by
  have T := top2_of X G c
  obtain ⟨m_props, m⟩ := ba c.more
  obtain ⟨m_oxs, m⟩ := ba m
  obtain ⟨m_bin, m⟩ := ba m
  obtain ⟨m_kit, m⟩ := ba m
  obtain ⟨m_insT, m⟩ := ba m
  obtain ⟨m_insS, m⟩ := ba m
  obtain ⟨m_con, m⟩ := ba m
  obtain ⟨m_vals, m⟩ := ba m
  obtain ⟨m_exm, m⟩ := ba m
  obtain ⟨m_tb, m⟩ := ba m
  obtain ⟨m_sb, m⟩ := ba m
  obtain ⟨m_xf, m⟩ := ba m
  obtain ⟨m_rt, m⟩ := ba m
  obtain ⟨m_12, m⟩ := ba m
  obtain ⟨m_13, m_23⟩ := ba m
  have m_ox : ∀ (i : Nat) {q : Str × String × List Value}, oxs[i]? = some q → oxbB K (ga K q.1) q.2.1 q.2.2 = true ∧ xiB K (ga K q.1) = true := fun i q e => ba (List.all_eq_true.mp m_oxs q (List.mem_of_getElem? e))
  exact { T with
    xfc := fun x hx => xfB_ok (ba (List.all_eq_true.mp m_xf x hx)).1
    exc := fun x hx => excC_ok (ba (List.all_eq_true.mp m_xf x hx)).1 (ba (List.all_eq_true.mp m_xf x hx)).2
    kit_rt := fun x hx => of_decide_eq_true (List.all_eq_true.mp m_rt x hx)
  }
theorem tbOk_of {base : Heap} (c : SaysP fas dfs tabs tfs exB w h K) (t : ∀ p ∈ tfs.map (cT K), TabB base mg p.1 p.2) : TbOk K mg base := by
  obtain ⟨m_props, m⟩ := ba c.more
  obtain ⟨m_oxs, m⟩ := ba m
  obtain ⟨m_bin, m⟩ := ba m
  obtain ⟨m_kit, m⟩ := ba m
  obtain ⟨m_insT, m⟩ := ba m
  obtain ⟨m_insS, m⟩ := ba m
  obtain ⟨m_con, m⟩ := ba m
  obtain ⟨m_vals, m⟩ := ba m
  obtain ⟨m_exm, m⟩ := ba m
  obtain ⟨m_tb, m⟩ := ba m
  obtain ⟨m_sb, m⟩ := ba m
  obtain ⟨m_xf, m⟩ := ba m
  obtain ⟨m_rt, m⟩ := ba m
  obtain ⟨m_12, m⟩ := ba m
  obtain ⟨m_13, m_23⟩ := ba m
  have m_ox : ∀ (i : Nat) {q : Str × String × List Value}, oxs[i]? = some q → oxbB K (ga K q.1) q.2.1 q.2.2 = true ∧ xiB K (ga K q.1) = true := fun i q e => ba (List.all_eq_true.mp m_oxs q (List.mem_of_getElem? e))
  exact ⟨t _ (List.mem_of_getElem? (i := 0) (a := cT K ("law", none)) rfl), t _ (List.mem_of_getElem? (i := 1) (a := cT K ("_law_run_right", none)) rfl), t _ (List.mem_of_getElem? (i := 2) (a := cT K ("_law_void_right", none)) rfl), of_decide_eq_true m_12, of_decide_eq_true m_13, of_decide_eq_true m_23⟩
end
end Ef

set_option Elab.async false
set_option linter.all false
set_option maxRecDepth 100000
set_option maxHeartbeats 0
namespace Ef
open PySem PySem.Spec PyProof.Rows L2 He L2H LamX
theorem tabs_nil {K : PySem.W.Frag} {H : Hp} (h : ∀ p ∈ tfs.map (cT K), H p.2 = some (.tbl #[])) : Tabs (LT K) H := fun p hp => by
  simp only [LT, List.mem_cons, List.not_mem_nil, or_false] at hp
  rcases hp with rfl | rfl | rfl
  · exact TabS.nil (h _ (List.mem_of_getElem? (i := 0) (a := cT K ("law", none)) rfl))
  · exact TabS.nil (h _ (List.mem_of_getElem? (i := 1) (a := cT K ("_law_run_right", none)) rfl))
  · exact TabS.nil (h _ (List.mem_of_getElem? (i := 2) (a := cT K ("_law_void_right", none)) rfl))
theorem law_g {P : Program} {w : World} {K : PySem.W.Frag} {mg : Str → Option Value} {base : Heap} {fa : Addr} (c : ClG P w K mg base CX0 29 "law" (sp1 (pLaw K))) (h : mg ("law" : Str) = some (.ref fa)) : FnG P w K mg base CX0 29 fa (sp1 (pLaw K)) := by
  obtain ⟨f, F, e, _⟩ := c.ex
  have e2 := h.symm.trans e
  cases e2
  exact F
theorem lawG {l : PySem.W.OpenLaw} {w : World} {K : PySem.W.Frag} {mg : Str → Option Value} {fa : Addr} {h : Heap} (X : K.In h) (G : h.Ns mainGlobals mg) (c : SaysP fas dfs tabs tfs exB w h K) (hfa : mg ("law" : Str) = some (.ref fa)) : LawG l w K 29 63 mg fa h := by
  refine ⟨tfs.map (cT K), sp1 (pLaw K), fun p hp => ?_, fun H a ns hl hH hS => ?_, fun base _ _ t => ?_⟩
  · obtain ⟨q, hq, rfl⟩ := List.mem_map.mp hp
    exact ⟨c.empty q hq, c.out q hq, PySem.W.codeHd_of_K X (c.hd q hq)⟩
  · exact ⟨_, rfl, a, ns, rfl, hS, hl, tabs_nil hH, fun _ => rfl⟩
  · exact law_g (law_law (top3_of X G c) (tbOk_of c t)) hfa
end Ef
open PySem PySem.W PySem.Calls PyProof.Rows
theorem PySem.Challenge.cw_echofold_k85_whole_deeds_taken_back_holds : PySem.Challenge.rw_echofold_k85_whole_deeds_taken_back.Holds := by
  w_on; o_law
  refine HandSHeadRun.head_any (r := OpenLaw.row PySem.Challenge.rw_echofold_k85_whole_deeds_taken_back) (q := view (OpenLaw.row PySem.Challenge.rw_echofold_k85_whole_deeds_taken_back).prog [84]) (H := Ef.hkL) (ob := Ef.obL) (M := 20000) (loose := Ef.names) (d := HandSHeadRun.topDef (OpenLaw.row PySem.Challenge.rw_echofold_k85_whole_deeds_taken_back).prog 84) (kwd := []) Ef.obL_eq
    (by kernel_rfl) (fun s => by kernel_rfl) Ef.run_any (by kernel_rfl) (by kernel_rfl) (by kernel_rfl) (by rfl) (by first | assumption | decide +kernel) (by decide +kernel) ⟨rfl, rfl, rfl, rfl, rfl, by decide +kernel⟩ ?hw ?hc
  case hw => w_witness2
  case hc =>
    refine Ef.walk_g (l := PySem.Challenge.rw_echofold_k85_whole_deeds_taken_back) (n := 63) (k := 29) rfl (by rw [sizeLine_eq]; decide) (by kernel_rfl) Ef.roomLaw ?F
    intro w mg fa h Y G hmg0
    obtain ⟨K, KX, c⟩ := Y
    have hmg : mg ("law" : PySem.Str) = some (.ref fa) := by
      have e : (HandSHeadRun.topDef (OpenLaw.row PySem.Challenge.rw_echofold_k85_whole_deeds_taken_back).prog 84).name = ("law" : PySem.Str) := by kernel_rfl
      rw [← e]
      exact hmg0
    exact ⟨K, KX, Ef.lawG KX G c hmg⟩
